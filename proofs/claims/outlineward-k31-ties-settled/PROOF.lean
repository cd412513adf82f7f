import PyProof.Rows.All
import Wide.All
import OpenK.AllK
import Wide.FinOn
import HandS.ForMost
import HandS.TupAny
import HandS.WideBits
import HandS.TryOnly
import HandS.Walk
import HandS.IsInst
import HandS.SortRule
import HandS.SortInts
import HandS.More
import HandS.Conv
import HandS.ListItems
import HandS.EndBits
import HandS.DictComp
import HandS.TupLe
import HandS.Set
import HandS.SetFor
import HandS.Strs
import HandS.Deep
import HandS.Style
import HandS.TupSets
import PySem.Challenge.RW_outlineward_k31_ties_settled
set_option Elab.async false
set_option linter.all false
set_option maxRecDepth 100000
set_option maxHeartbeats 1000000
namespace DL
open PySem PySem.Spec PyProof.Rows L2

/-! ### data, and the values that stand for it -/
def kD : Key → PyData
  | .inl i => .int i
  | .inr x => .str x
mutual
inductive Rep (K : PySem.W.Frag) (G : Hp) : V → PyData → Prop
  | non : Rep K G .non .none
  | bl (b : Bool) : Rep K G (.bl b) (.bool b)
  | int (i : Int) : Rep K G (.int i) (.int i)
  | str (x : Str) : Rep K G (.str x) (.str x)
  | lst {a : Addr} {xs : List V} {ds : List PyData} : SqL K G a xs → Reps K G xs ds → Rep K G (.ref a) (.list ds)
  | tup {a : Addr} {xs : List V} {ds : List PyData} : SqT K G a xs → Reps K G xs ds → Rep K G (.ref a) (.tuple ds)
  | dct {a : Addr} {kvs : List (Key × V)} {es : List (PyData × PyData)} : G a = some (.dK kvs) → RepD K G kvs es → Rep K G (.ref a) (.dict es)
inductive Reps (K : PySem.W.Frag) (G : Hp) : List V → List PyData → Prop
  | nil : Reps K G [] []
  | cons {v : V} {vs : List V} {d : PyData} {ds : List PyData} : Rep K G v d → Reps K G vs ds → Reps K G (v :: vs) (d :: ds)
inductive RepD (K : PySem.W.Frag) (G : Hp) : List (Key × V) → List (PyData × PyData) → Prop
  | nil : RepD K G [] []
  | cons {k : Key} {v : V} {vs : List (Key × V)} {d : PyData} {ds : List (PyData × PyData)} : Rep K G v d → RepD K G vs ds → RepD K G ((k, v) :: vs) ((kD k, d) :: ds)
end
theorem Same.seqT {K : PySem.W.Frag} {H H' : Hp} {a : Addr} {xs : List V} (e : Same H H') (h : SqT K H a xs) : SqT K H' a xs := by
  rcases h with (h | ⟨o, h⟩) | h
  · exact .inl (.inl (e _ _ h))
  · exact .inl (.inr ⟨o, e _ _ h⟩)
  · exact .inr h
section
variable {K : PySem.W.Frag} {G G' : Hp}
mutual
theorem Rep.mono (s : Same G G') : ∀ {v : V} {d : PyData}, Rep K G v d → Rep K G' v d
  | _, _, .non => .non
  | _, _, .bl b => .bl b
  | _, _, .int i => .int i
  | _, _, .str x => .str x
  | _, _, .lst h r => .lst (s.seq h) (Reps.mono s r)
  | _, _, .tup h r => .tup (Same.seqT s h) (Reps.mono s r)
  | _, _, .dct h r => .dct (s _ _ h) (RepD.mono s r)
theorem Reps.mono (s : Same G G') : ∀ {v : List V} {d : List PyData}, Reps K G v d → Reps K G' v d
  | _, _, .nil => .nil
  | _, _, .cons h r => .cons (Rep.mono s h) (Reps.mono s r)
theorem RepD.mono (s : Same G G') : ∀ {v : List (Key × V)} {d : List (PyData × PyData)}, RepD K G v d → RepD K G' v d
  | _, _, .nil => .nil
  | _, _, .cons h r => .cons (Rep.mono s h) (RepD.mono s r)
end
theorem Reps.length : ∀ {vs : List V} {ds : List PyData}, Reps K G vs ds → vs.length = ds.length
  | _, _, .nil => rfl
  | _, _, .cons _ r => congrArg (· + 1) r.length
theorem Reps.get : ∀ {vs : List V} {ds : List PyData} {i : Nat} {d : PyData}, Reps K G vs ds → ds[i]? = some d → ∃ v, vs[i]? = some v ∧ Rep K G v d
  | _, _, _, _, .nil, e => by simp at e
  | _, _, 0, _, .cons r _, e => by simp at e; subst e; exact ⟨_, rfl, r⟩
  | _, _, i + 1, d, .cons _ t, e => by
    obtain ⟨v, h1, h2⟩ := Reps.get (i := i) (d := d) t (by simpa using e)
    exact ⟨v, by simpa using h1, h2⟩
theorem Reps.getV : ∀ {vs : List V} {ds : List PyData} {i : Nat} {v : V}, Reps K G vs ds → vs[i]? = some v → ∃ d, ds[i]? = some d ∧ Rep K G v d
  | _, _, _, _, .nil, e => by simp at e
  | _, _, 0, _, .cons r _, e => by simp at e; subst e; exact ⟨_, rfl, r⟩
  | _, _, i + 1, v, .cons _ t, e => by
    obtain ⟨d, h1, h2⟩ := Reps.getV (i := i) (v := v) t (by simpa using e)
    exact ⟨d, by simpa using h1, h2⟩
theorem Reps.append : ∀ {xs ys : List V} {us ws : List PyData}, Reps K G xs us → Reps K G ys ws → Reps K G (xs ++ ys) (us ++ ws)
  | _, _, _, _, .nil, s => s
  | _, _, _, _, .cons r t, s => .cons r (Reps.append t s)
theorem Reps.take : ∀ {xs : List V} {us : List PyData} (n : Nat), Reps K G xs us → Reps K G (xs.take n) (us.take n)
  | _, _, 0, _ => .nil
  | _, _, _ + 1, .nil => .nil
  | _, _, n + 1, .cons r t => .cons r (Reps.take n t)
theorem Reps.drop : ∀ {xs : List V} {us : List PyData} (n : Nat), Reps K G xs us → Reps K G (xs.drop n) (us.drop n)
  | _, _, 0, r => r
  | _, _, _ + 1, .nil => .nil
  | _, _, n + 1, .cons _ t => Reps.drop n t
theorem Reps.reverse : ∀ {xs : List V} {us : List PyData}, Reps K G xs us → Reps K G xs.reverse us.reverse
  | _, _, .nil => .nil
  | _, _, .cons r t => by
    rw [List.reverse_cons, List.reverse_cons]
    exact t.reverse.append (.cons r .nil)
theorem Reps.ints : ∀ {vs : List V} {ns : List Int}, Reps K G vs (ns.map PyData.int) → vs = ns.map V.int
  | _, [], h => by cases h; rfl
  | _, n :: r, h => by
    cases h with
    | cons a b =>
      cases a
      rw [Reps.ints b]
      rfl
theorem Reps.ofInts : ∀ (ns : List Int), Reps K G (ns.map V.int) (ns.map PyData.int)
  | [] => .nil
  | n :: r => .cons (.int n) (Reps.ofInts r)
theorem Reps.strs : ∀ {vs : List V} {ns : List Str}, Reps K G vs (ns.map PyData.str) → vs = ns.map V.str
  | _, [], h => by cases h; rfl
  | _, n :: r, h => by
    cases h with
    | cons a b =>
      cases a
      rw [Reps.strs b]
      rfl
theorem Reps.ofStrs : ∀ (ns : List Str), Reps K G (ns.map V.str) (ns.map PyData.str)
  | [] => .nil
  | n :: r => .cons (.str n) (Reps.ofStrs r)
theorem Reps.bools : ∀ {vs : List V} {ns : List Bool}, Reps K G vs (ns.map PyData.bool) → vs = ns.map V.bl
  | _, [], h => by cases h; rfl
  | _, n :: r, h => by
    cases h with
    | cons a b =>
      cases a
      rw [Reps.bools b]
      rfl
end

/-! ### cells: what may change -/
inductive SV where
  | val (d : PyData)
  | cell (k : Nat)
inductive CC where
  | lst (xs : List SV)
  | dct (kvs : List (Key × SV))
  | ins (C : Addr) (fs : List (Str × SV))
  | dead
  | frz (od : Obj) (us : List (Key × V)) (kvs : List (Key × SV))
  | tup (xs : List SV)
abbrev Sl := List (Option SV)
abbrev Cs := List CC
def RepV (K : PySem.W.Frag) (G : Hp) (ps : List Addr) (v : V) : SV → Prop
  | .val d => Rep K G v d
  | .cell k => ∃ p, ps[k]? = some p ∧ v = .ref p
abbrev RepVs (K : PySem.W.Frag) (G : Hp) (ps : List Addr) : List V → List SV → Prop := Paired (RepV K G ps)
abbrev RepKs {κ : Type} (K : PySem.W.Frag) (G : Hp) (ps : List Addr) : List (κ × V) → List (κ × SV) → Prop := Paired fun a b => a.1 = b.1 ∧ RepV K G ps a.2 b.2
def RepC (K : PySem.W.Frag) (G : Hp) (ps : List Addr) (H : Hp) (p : Addr) : CC → Prop
  | .lst xs => ∃ vs, H p = some (.lst vs) ∧ RepVs K G ps vs xs
  | .dct kvs => ∃ us, H p = some (.dK us) ∧ RepKs K G ps us kvs
  | .ins C fs => ∃ dx us, H p = some (.ins C dx us) ∧ RepKs K G ps us fs
  | .dead => H p ≠ none
  | .frz od us kvs => H p = some (.frz od (.dK us)) ∧ RepKs K G ps us kvs
  | .tup xs => ∃ vs, H p = some (.tup vs) ∧ RepVs K G ps vs xs
structure Bs where
  G0 : Hp
  H0 : Hp
  As : List Addr
structure Core (K : PySem.W.Frag) (B : Bs) (G : Hp) (ps : List Addr) (cs : Cs) (H : Hp) : Prop where
  g0 : Same B.G0 G
  h0 : ∀ b o, B.H0 b = some o → b ∉ B.As → H b = some o
  gh : Same G H
  nw : ∀ b, G b ≠ none → B.G0 b ≠ none ∨ B.H0 b = none
  len : ps.length = cs.length
  pre : B.As <+: ps
  nd : ps.Nodup
  cell : ∀ (k : Nat) (p : Addr) (c : CC), ps[k]? = some p → cs[k]? = some c → RepC K G ps H p c ∧ (B.H0 p = none ∨ p ∈ B.As) ∧ (c = .dead ∨ G p = none)
def SlotR (K : PySem.W.Frag) (G : Hp) (ps : List Addr) : Option V → Option SV → Prop
  | _, none => True
  | some v, some s => RepV K G ps v s
  | none, some _ => False
def Has (K : PySem.W.Frag) (B : Bs) (sl : Sl) (cs : Cs) (σ : L2.St) (H : Hp) : Prop := ∃ G ps, Core K B G ps cs H ∧ Paired (SlotR K G ps) σ sl
def HasV (K : PySem.W.Frag) (B : Bs) (sl : Sl) (cs : Cs) (σ : L2.St) (H : Hp) (v : V) (s : SV) : Prop := ∃ G ps, Core K B G ps cs H ∧ Paired (SlotR K G ps) σ sl ∧ RepV K G ps v s
def HasA (K : PySem.W.Frag) (B : Bs) (sl : Sl) (cs : Cs) (σ : L2.St) (H : Hp) (vs : List V) (ss : List SV) : Prop := ∃ G ps, Core K B G ps cs H ∧ Paired (SlotR K G ps) σ sl ∧ RepVs K G ps vs ss
def Ret (K : PySem.W.Frag) (B : Bs) (cs : Cs) (H : Hp) (v : V) (s : SV) : Prop := ∃ G ps, Core K B G ps cs H ∧ RepV K G ps v s


theorem pd_get {α β : Type} {F : α → β → Prop} : ∀ {l : List α} {m : List β} {i : Nat} {b : β}, Paired F l m → m[i]? = some b → ∃ a, l[i]? = some a ∧ F a b
  | _, _, _, _, .nil, e => by simp at e
  | _, _, 0, _, .cons r _, e => by simp at e; subst e; exact ⟨_, rfl, r⟩
  | _, _, i + 1, b, .cons _ t, e => by
    obtain ⟨v, h1, h2⟩ := pd_get (i := i) (b := b) t (by simpa using e)
    exact ⟨v, by simpa using h1, h2⟩
theorem pd_getL {α β : Type} {F : α → β → Prop} : ∀ {l : List α} {m : List β} {i : Nat} {a : α}, Paired F l m → l[i]? = some a → ∃ b, m[i]? = some b ∧ F a b
  | _, _, _, _, .nil, e => by simp at e
  | _, _, 0, _, .cons r _, e => by simp at e; subst e; exact ⟨_, rfl, r⟩
  | _, _, i + 1, b, .cons _ t, e => by
    obtain ⟨v, h1, h2⟩ := pd_getL (i := i) (a := b) t (by simpa using e)
    exact ⟨v, by simpa using h1, h2⟩
theorem pd_set {α β : Type} {F : α → β → Prop} {a : α} {b : β} (h : F a b) : ∀ {l : List α} {m : List β} (i : Nat), Paired F l m → Paired F (l.set i a) (m.set i b)
  | _, _, _, .nil => .nil
  | _, _, 0, .cons _ t => .cons h t
  | _, _, i + 1, .cons q t => .cons q (pd_set h i t)
theorem pd_app {α β : Type} {F : α → β → Prop} : ∀ {l l' : List α} {m m' : List β}, Paired F l m → Paired F l' m' → Paired F (l ++ l') (m ++ m')
  | _, _, _, _, .nil, s => s
  | _, _, _, _, .cons r t, s => .cons r (pd_app t s)
theorem pd_take {α β : Type} {F : α → β → Prop} : ∀ {l : List α} {m : List β} (n : Nat), Paired F l m → Paired F (l.take n) (m.take n)
  | _, _, 0, _ => .nil
  | _, _, _ + 1, .nil => .nil
  | _, _, n + 1, .cons r t => .cons r (pd_take n t)
theorem pd_drop {α β : Type} {F : α → β → Prop} : ∀ {l : List α} {m : List β} (n : Nat), Paired F l m → Paired F (l.drop n) (m.drop n)
  | _, _, 0, t => t
  | _, _, _ + 1, .nil => .nil
  | _, _, n + 1, .cons _ t => pd_drop n t
theorem pd_rev {α β : Type} {F : α → β → Prop} : ∀ {l : List α} {m : List β}, Paired F l m → Paired F l.reverse m.reverse
  | _, _, .nil => .nil
  | _, _, .cons r t => by
    rw [List.reverse_cons, List.reverse_cons]
    exact pd_app (pd_rev t) (.cons r .nil)

/-! ### how knowledge grows -/
structure Up (G : Hp) (ps : List Addr) (G' : Hp) (ps' : List Addr) : Prop where
  s : Same G G'
  p : ps <+: ps'
theorem Up.refl (G : Hp) (ps : List Addr) : Up G ps G ps := ⟨Same.refl G, List.prefix_refl ps⟩
theorem Up.trans {G G1 G2 : Hp} {ps ps1 ps2 : List Addr} (a : Up G ps G1 ps1) (b : Up G1 ps1 G2 ps2) : Up G ps G2 ps2 := ⟨a.s.trans b.s, a.p.trans b.p⟩
theorem pre_get {α : Type} {l l' : List α} {i : Nat} {a : α} (h : l <+: l') (e : l[i]? = some a) : l'[i]? = some a := by
  obtain ⟨t, rfl⟩ := h
  rw [List.getElem?_append_left (List.getElem?_eq_some_iff.mp e).1]
  exact e
section
variable {K : PySem.W.Frag} {G G' : Hp} {ps ps' : List Addr} {H : Hp} {B : Bs} {cs : Cs}
theorem RepV.mono (u : Up G ps G' ps') {v : V} : ∀ {s : SV}, RepV K G ps v s → RepV K G' ps' v s
  | .val _, h => Rep.mono u.s h
  | .cell _, ⟨p, e, hv⟩ => ⟨p, pre_get u.p e, hv⟩
theorem RepVs.mono (u : Up G ps G' ps') {vs : List V} {ss : List SV} (h : RepVs K G ps vs ss) : RepVs K G' ps' vs ss := Paired.mono (fun _ _ q => RepV.mono u q) h
theorem RepKs.mono {κ : Type} (u : Up G ps G' ps') {vs : List (κ × V)} {ss : List (κ × SV)} (h : RepKs K G ps vs ss) : RepKs K G' ps' vs ss := Paired.mono (fun _ _ q => ⟨q.1, RepV.mono u q.2⟩) h
abbrev Slots (K : PySem.W.Frag) (G : Hp) (ps : List Addr) : L2.St → Sl → Prop := Paired (SlotR K G ps)
theorem SlotR.mono (u : Up G ps G' ps') : ∀ {v : Option V} {s : Option SV}, SlotR K G ps v s → SlotR K G' ps' v s
  | _, none, _ => trivial
  | some _, some _, h => RepV.mono u h
  | none, some _, h => h.elim
theorem Slots.mono (u : Up G ps G' ps') {σ : L2.St} {sl : Sl} (h : Slots K G ps σ sl) : Slots K G' ps' σ sl := Paired.mono (fun _ _ q => SlotR.mono u q) h
theorem RepC.mono {H' : Hp} {p : Addr} (u : Up G ps G' ps') (e : H' p = H p) : ∀ {c : CC}, RepC K G ps H p c → RepC K G' ps' H' p c
  | .lst _, ⟨vs, h, r⟩ => ⟨vs, e.trans h, RepVs.mono u r⟩
  | .dct _, ⟨vs, h, r⟩ => ⟨vs, e.trans h, RepKs.mono u r⟩
  | .ins _ _, ⟨dx, vs, h, r⟩ => ⟨dx, vs, e.trans h, RepKs.mono u r⟩
  | .dead, h => fun z => h (e.symm.trans z)
  | .frz _ _ _, ⟨h, r⟩ => ⟨e.trans h, RepKs.mono u r⟩
  | .tup _, ⟨vs, h, r⟩ => ⟨vs, e.trans h, RepVs.mono u r⟩
theorem RepC.there {p : Addr} {c : CC} (h : RepC K G ps H p c) : H p ≠ none := by
  cases c with
  | lst _ => obtain ⟨_, e, _⟩ := h; rw [e]; exact Option.some_ne_none _
  | dct _ => obtain ⟨_, e, _⟩ := h; rw [e]; exact Option.some_ne_none _
  | ins _ _ => obtain ⟨_, _, e, _⟩ := h; rw [e]; exact Option.some_ne_none _
  | dead => exact h
  | frz _ _ _ => rw [h.1]; exact Option.some_ne_none _
  | tup _ => obtain ⟨_, e, _⟩ := h; rw [e]; exact Option.some_ne_none _
theorem Same.new {H : Hp} {p : Addr} {o : HO} (h : H p = none) : Same H (upd H p o) := fun b u q => by rw [upd_ne (ne_of_none q h)]; exact q
theorem Same.both {G H : Hp} {p : Addr} {o : HO} (s : Same G H) : Same (upd G p o) (upd H p o) := fun b u q => by
  by_cases e : b = p
  · subst e
    rw [upd_same] at q ⊢
    exact q
  · rw [upd_ne e] at q ⊢
    exact s _ _ q
/-- what stands at the cells' places -/
theorem Core.at (C : Core K B G ps cs H) {k : Nat} {p : Addr} (e : ps[k]? = some p) : ∃ c, cs[k]? = some c := by
  have hk : k < cs.length := by rw [← C.len]; exact (List.getElem?_eq_some_iff.mp e).1
  exact ⟨_, List.getElem?_eq_getElem hk⟩
theorem Core.live (C : Core K B G ps cs H) {p : Addr} (e : p ∈ ps) : H p ≠ none := by
  obtain ⟨k, e⟩ := List.getElem?_of_mem e
  obtain ⟨c, hc⟩ := C.at e
  exact (C.cell k p c e hc).1.there
theorem Core.addr (C : Core K B G ps cs H) {k : Nat} {c : CC} (e : cs[k]? = some c) : ∃ p, ps[k]? = some p := by
  have hk : k < ps.length := by rw [C.len]; exact (List.getElem?_eq_some_iff.mp e).1
  exact ⟨_, List.getElem?_eq_getElem hk⟩
theorem Core.free0 (C : Core K B G ps cs H) {p : Addr} (h : H p = none) : B.H0 p = none := by
  cases q : B.H0 p with
  | none => rfl
  | some o =>
    by_cases m : p ∈ B.As
    · exact (C.live (C.pre.subset m) h).elim
    · rw [C.h0 p o q m] at h
      cases h
theorem Core.freeG (C : Core K B G ps cs H) {p : Addr} (h : H p = none) : G p = none := by
  cases q : G p with
  | none => rfl
  | some o =>
    rw [C.gh p o q] at h
    cases h
theorem nd_at {α : Type} {l : List α} (hN : l.Nodup) {i j : Nat} {x : α} (a : l[i]? = some x) (b : l[j]? = some x) : i = j := by
  obtain ⟨h1, e1⟩ := List.getElem?_eq_some_iff.mp a
  obtain ⟨h2, e2⟩ := List.getElem?_eq_some_iff.mp b
  exact (List.getElem_inj hN).mp (e1.trans e2.symm)
theorem nd_snoc {α : Type} {l : List α} {x : α} (hN : l.Nodup) (h : x ∉ l) : (l ++ [x]).Nodup :=
  List.nodup_append.mpr ⟨hN, List.Pairwise.cons (fun _ h => nomatch h) List.Pairwise.nil, fun a ha b hb z => h (by rw [List.mem_singleton] at hb; rw [← hb, ← z]; exact ha)⟩
/-- a new thing that never changes -/
theorem Core.alloc (C : Core K B G ps cs H) {p : Addr} (o : HO) (h : H p = none) : Core K B (upd G p o) ps cs (upd H p o) where
  g0 := C.g0.trans (Same.new (C.freeG h))
  h0 b u e m := by
    have q := C.h0 b u e m
    rw [upd_ne (ne_of_none q h)]
    exact q
  gh := Same.both C.gh
  nw b e := by
    by_cases z : b = p
    · subst z
      exact .inr (C.free0 h)
    · rw [upd_ne z] at e
      exact C.nw b e
  len := C.len
  pre := C.pre
  nd := C.nd
  cell k q c e hc := by
    have z : q ≠ p := fun z => C.live (List.mem_of_getElem? e) (z ▸ h)
    obtain ⟨h1, hb, h2⟩ := C.cell k q c e hc
    refine ⟨RepC.mono ⟨Same.new (C.freeG h), List.prefix_refl _⟩ (upd_ne z) h1, hb, ?_⟩
    rw [upd_ne z]
    exact h2
/-- a thing that is neither data nor a cell becomes a cell -/
theorem Core.adoptCell (C : Core K B G ps cs H) {p : Addr} {c : CC} (hp : p ∉ ps) (hG : G p = none) (hB : B.H0 p = none) (r : RepC K G (ps ++ [p]) H p c) : Core K B G (ps ++ [p]) (cs ++ [c]) H where
  g0 := C.g0
  h0 := C.h0
  gh := C.gh
  nw := C.nw
  len := by rw [List.length_append, List.length_append, C.len]; rfl
  pre := C.pre.trans (List.prefix_append _ _)
  nd := nd_snoc C.nd hp
  cell k q d e hd := by
    by_cases hk : k < ps.length
    · rw [List.getElem?_append_left hk] at e
      rw [List.getElem?_append_left (by rw [← C.len]; exact hk)] at hd
      obtain ⟨h1, hb, h2⟩ := C.cell k q d e hd
      exact ⟨RepC.mono ⟨Same.refl _, List.prefix_append _ _⟩ rfl h1, hb, h2⟩
    · have hk2 : k = ps.length := by
        have := (List.getElem?_eq_some_iff.mp e).1
        rw [List.length_append, List.length_singleton] at this
        omega
      subst hk2
      rw [List.getElem?_append_right (Nat.le_refl _), Nat.sub_self] at e
      rw [C.len, List.getElem?_append_right (Nat.le_refl _), Nat.sub_self] at hd
      cases e
      cases hd
      exact ⟨r, .inl hB, .inr hG⟩
/-- such a thing may change -/
theorem Core.outside (C : Core K B G ps cs H) {p : Addr} {o : HO} (hp : p ∉ ps) (hG : G p = none) (hB : B.H0 p = none) : Core K B G ps cs (upd H p o) where
  g0 := C.g0
  h0 b u e m := by
    have z : b ≠ p := fun z => by rw [z, hB] at e; cases e
    rw [upd_ne z]
    exact C.h0 b u e m
  gh b u e := by
    have z : b ≠ p := fun z => by rw [z, hG] at e; cases e
    rw [upd_ne z]
    exact C.gh b u e
  nw := C.nw
  len := C.len
  pre := C.pre
  nd := C.nd
  cell k q c e hc := by
    have z : q ≠ p := fun z => hp (z ▸ List.mem_of_getElem? e)
    obtain ⟨h1, h2, h3⟩ := C.cell k q c e hc
    exact ⟨RepC.mono (Up.refl _ _) (upd_ne z) h1, h2, h3⟩
theorem Core.notMem (C : Core K B G ps cs H) {p : Addr} (h : H p = none) : p ∉ ps := fun m => C.live m h
/-- a new cell -/
theorem Core.cellNew (C : Core K B G ps cs H) {p : Addr} {o : HO} {c : CC} (h : H p = none) (r : RepC K G (ps ++ [p]) (upd H p o) p c) : Core K B G (ps ++ [p]) (cs ++ [c]) (upd H p o) :=
  (C.outside (C.notMem h) (C.freeG h) (C.free0 h)).adoptCell (C.notMem h) (C.freeG h) (C.free0 h) r
/-- a cell changes -/
theorem Core.put (C : Core K B G ps cs H) {k : Nat} {p : Addr} {c c' : CC} {o : HO} (e : ps[k]? = some p) (hc : cs[k]? = some c) (hd : c ≠ .dead) (r : RepC K G ps (upd H p o) p c') : Core K B G ps (cs.set k c') (upd H p o) := by
  obtain ⟨_, hB, h2⟩ := C.cell k p c e hc
  have hG : G p = none := h2.elim (fun z => (hd z).elim) id
  have hk : k < cs.length := (List.getElem?_eq_some_iff.mp hc).1
  refine ⟨C.g0, fun b u eb m => ?_, fun b u eb => ?_, C.nw, by rw [List.length_set]; exact C.len, C.pre, C.nd, fun j q d ej hj => ?_⟩
  · have q := C.h0 b u eb m
    have z : b ≠ p := fun z => by
      subst z
      rcases hB with hB | hB
      · rw [hB] at eb; cases eb
      · exact m hB
    rw [upd_ne z]
    exact q
  · have z : b ≠ p := fun z => by
      subst z
      rw [hG] at eb
      cases eb
    rw [upd_ne z]
    exact C.gh b u eb
  · by_cases hjk : j = k
    · subst hjk
      rw [List.getElem?_set_self hk] at hj
      cases hj
      rw [e] at ej
      cases ej
      exact ⟨r, hB, .inr hG⟩
    · rw [List.getElem?_set_ne (Ne.symm hjk)] at hj
      obtain ⟨h1, hb, h2⟩ := C.cell j q d ej hj
      have hq : q ≠ p := fun hq => hjk (nd_at C.nd ej (by rw [hq]; exact e))
      exact ⟨RepC.mono (Up.refl _ _) (upd_ne hq) h1, hb, h2⟩
end
end DL
namespace DL
open PySem PySem.Spec PyProof.Rows L2

/-! ### readings, told by data -/
/-- an expression's reading gives s, the cells are cs' then -/
def DE (K : PySem.W.Frag) (na : Nat) (te : TE) (sl : Sl) (cs : Cs) (s : SV) (cs' : Cs) : Prop := ∀ B G ps σ H, B.As.length = na → Core K B G ps cs H → Slots K G ps σ sl → ∀ Q : VK,
  (∀ v G' ps' H', Core K B G' ps' cs' H' → Up G ps G' ps' → RepV K G' ps' v s → Q v H') → te σ H Q
def DA (K : PySem.W.Frag) (na : Nat) (ta : TA) (sl : Sl) (cs : Cs) (ss : List SV) (cs' : Cs) : Prop := ∀ B G ps σ H, B.As.length = na → Core K B G ps cs H → Slots K G ps σ sl → ∀ Q : List V → Hp → Prop,
  (∀ vs G' ps' H', Core K B G' ps' cs' H' → Up G ps G' ps' → RepVs K G' ps' vs ss → Q vs H') → ta σ H Q
def DT (K : PySem.W.Frag) (na : Nat) (tt : TT) (sl : Sl) (cs : Cs) (b : Bool) (cs' : Cs) : Prop := ∀ B G ps σ H, B.As.length = na → Core K B G ps cs H → Slots K G ps σ sl → ∀ Q : Bool → Hp → Prop,
  (∀ G' ps' H', Core K B G' ps' cs' H' → Up G ps G' ps' → Q b H') → tt σ H Q
structure DEnds where
  nx : Sl → Cs → Prop
  rt : SV → Cs → Prop
  bk : Sl → Cs → Prop := fun _ _ => False
  ct : Sl → Cs → Prop := fun _ _ => False
structure DLe (K : PySem.W.Frag) (B : Bs) (G : Hp) (ps : List Addr) (E : DEnds) (D : Ends) : Prop where
  nx : ∀ sl cs G' ps' σ H, Core K B G' ps' cs H → Up G ps G' ps' → Slots K G' ps' σ sl → E.nx sl cs → D.nx σ H
  rt : ∀ s cs G' ps' v H, Core K B G' ps' cs H → Up G ps G' ps' → RepV K G' ps' v s → E.rt s cs → D.rt v H
  bk : ∀ sl cs G' ps' σ H, Core K B G' ps' cs H → Up G ps G' ps' → Slots K G' ps' σ sl → E.bk sl cs → D.bk σ H
  ct : ∀ sl cs G' ps' σ H, Core K B G' ps' cs H → Up G ps G' ps' → Slots K G' ps' σ sl → E.ct sl cs → D.ct σ H
def DX (K : PySem.W.Frag) (na : Nat) (ts : TS) (sl : Sl) (cs : Cs) (E : DEnds) : Prop := ∀ B G ps σ H, B.As.length = na → Core K B G ps cs H → Slots K G ps σ sl → ∀ D : Ends, DLe K B G ps E D → ts D σ H
theorem DLe.up {K : PySem.W.Frag} {B : Bs} {G G1 : Hp} {ps ps1 : List Addr} {E : DEnds} {D : Ends} (L : DLe K B G ps E D) (u : Up G ps G1 ps1) : DLe K B G1 ps1 E D :=
  ⟨fun sl cs G' ps' σ H c v => L.nx sl cs G' ps' σ H c (u.trans v), fun s cs G' ps' w H c v => L.rt s cs G' ps' w H c (u.trans v), fun sl cs G' ps' σ H c v => L.bk sl cs G' ps' σ H c (u.trans v), fun sl cs G' ps' σ H c v => L.ct sl cs G' ps' σ H c (u.trans v)⟩

/-! ### a part of the text and what it does -/
def anyE (X : Cx) (e : Expr) : TE := fun σ H Q => ∃ te, PE X e te ∧ te σ H Q
def anyA (X : Cx) (es : List Expr) : TA := fun σ H Q => ∃ te, PA X es te ∧ te σ H Q
def anyT (X : Cx) (e : Expr) : TT := fun σ H Q => ∃ te, PT X e te ∧ te σ H Q
def anyW (X : Cx) (e : Expr) : TT := fun σ H Q => ∃ te, PW X e te ∧ te σ H Q
def anyS (X : Cx) (st : Stmt) : TS := fun D σ H => ∃ te, PS X st te ∧ te D σ H
def anySs (X : Cx) (sts : List Stmt) : TS := fun D σ H => ∃ te, PSs X sts te ∧ te D σ H
theorem pe_any {X : Cx} {e : Expr} : PE X e (anyE X e) := ⟨fun pins s σ H Q I ⟨_, p, h⟩ => p.run pins s σ H Q I h⟩
theorem pa_any {X : Cx} {es : List Expr} : PA X es (anyA X es) := ⟨fun pos pins s σ H Q I ⟨_, p, h⟩ => p.run pos pins s σ H Q I h⟩
theorem pt_any {X : Cx} {e : Expr} : PT X e (anyT X e) := ⟨fun pins s σ H Q I ⟨_, p, h⟩ => p.run pins s σ H Q I h⟩
theorem pw_any {X : Cx} {e : Expr} : PW X e (anyW X e) := ⟨fun whole pins s σ H Q I ⟨_, p, h⟩ => p.run whole pins s σ H Q I h⟩
theorem ps_any {X : Cx} {st : Stmt} : PS X st (anyS X st) := ⟨fun pins s σ H D I ⟨_, p, h⟩ => p.run pins s σ H D I h⟩
theorem pss_any {X : Cx} {sts : List Stmt} : PSs X sts (anySs X sts) := ⟨fun pins s σ H D I ⟨_, p, h⟩ => p.run pins s σ H D I h⟩
def EV (X : Cx) (na : Nat) (e : Expr) (sl : Sl) (cs : Cs) (s : SV) (cs' : Cs) : Prop := DE X.K na (anyE X e) sl cs s cs'
def AV (X : Cx) (na : Nat) (es : List Expr) (sl : Sl) (cs : Cs) (ss : List SV) (cs' : Cs) : Prop := DA X.K na (anyA X es) sl cs ss cs'
def TV (X : Cx) (na : Nat) (e : Expr) (sl : Sl) (cs : Cs) (b : Bool) (cs' : Cs) : Prop := DT X.K na (anyT X e) sl cs b cs'
def WV (X : Cx) (na : Nat) (e : Expr) (sl : Sl) (cs : Cs) (b : Bool) (cs' : Cs) : Prop := DT X.K na (anyW X e) sl cs b cs'
def S1 (X : Cx) (na : Nat) (st : Stmt) (sl : Sl) (cs : Cs) (E : DEnds) : Prop := DX X.K na (anyS X st) sl cs E
def SX (X : Cx) (na : Nat) (sts : List Stmt) (sl : Sl) (cs : Cs) (E : DEnds) : Prop := DX X.K na (anySs X sts) sl cs E
section
variable {X : Cx} {na : Nat} {sl : Sl} {cs cs' : Cs} {s : SV}
theorem ev_of {e : Expr} {te : TE} (p : PE X e te) (d : DE X.K na te sl cs s cs') : EV X na e sl cs s cs' := fun B G ps σ H hn C S Q q => ⟨te, p, d B G ps σ H hn C S Q q⟩
theorem av_of {es : List Expr} {te : TA} {ss : List SV} (p : PA X es te) (d : DA X.K na te sl cs ss cs') : AV X na es sl cs ss cs' := fun B G ps σ H hn C S Q q => ⟨te, p, d B G ps σ H hn C S Q q⟩
theorem tv_of {e : Expr} {te : TT} {b : Bool} (p : PT X e te) (d : DT X.K na te sl cs b cs') : TV X na e sl cs b cs' := fun B G ps σ H hn C S Q q => ⟨te, p, d B G ps σ H hn C S Q q⟩
theorem wv_of {e : Expr} {te : TT} {b : Bool} (p : PW X e te) (d : DT X.K na te sl cs b cs') : WV X na e sl cs b cs' := fun B G ps σ H hn C S Q q => ⟨te, p, d B G ps σ H hn C S Q q⟩
theorem s1_of {st : Stmt} {ts : TS} {E : DEnds} (p : PS X st ts) (d : DX X.K na ts sl cs E) : S1 X na st sl cs E := fun B G ps σ H hn C S D L => ⟨ts, p, d B G ps σ H hn C S D L⟩
theorem sx_of {st : List Stmt} {ts : TS} {E : DEnds} (p : PSs X st ts) (d : DX X.K na ts sl cs E) : SX X na st sl cs E := fun B G ps σ H hn C S D L => ⟨ts, p, d B G ps σ H hn C S D L⟩
end

/-! ### names -/
/-- the slots of the names -/
structure Tab (X : Cx) (m : Nat) : Prop where
  nd : X.N.Nodup
  vis : ∀ x ∈ X.N.take m, Vis X.env.scope x ∧ (x == ("__debug__" : Str)) = false ∧ (x == ("__classdict__" : Str)) = false
inductive Lk : List Str → Sl → Str → Nat → SV → Prop
  | here {x : Str} {N : List Str} {s : SV} {sl : Sl} : Lk (x :: N) (some s :: sl) x 0 s
  | there {x y : Str} {N : List Str} {o : Option SV} {s : SV} {sl : Sl} {i : Nat} : Lk N sl x i s → Lk (y :: N) (o :: sl) x (i + 1) s
inductive Put : List Str → Sl → Str → Nat → SV → Sl → Prop
  | here {x : Str} {N : List Str} {s : SV} {o : Option SV} {sl : Sl} : Put (x :: N) (o :: sl) x 0 s (some s :: sl)
  | there {x y : Str} {N : List Str} {o : Option SV} {s : SV} {sl sl' : Sl} {i : Nat} : Put N sl x i s sl' → Put (y :: N) (o :: sl) x (i + 1) s (o :: sl')
theorem Lk.at : ∀ {N : List Str} {sl : Sl} {x : Str} {i : Nat} {s : SV}, Lk N sl x i s → N[i]? = some x ∧ sl[i]? = some (some s)
  | _, _, _, _, _, .here => ⟨rfl, rfl⟩
  | _, _, _, _, _, .there h => by
    obtain ⟨a, b⟩ := h.at
    exact ⟨by simpa using a, by simpa using b⟩
theorem Put.at : ∀ {N : List Str} {sl sl' : Sl} {x : Str} {i : Nat} {s : SV}, Put N sl x i s sl' → N[i]? = some x ∧ sl' = sl.set i (some s)
  | _, _, _, _, _, _, .here => ⟨rfl, rfl⟩
  | _, _, _, _, _, _, .there h => by
    obtain ⟨a, b⟩ := h.at
    exact ⟨by simpa using a, by rw [b]; rfl⟩
section
variable {X : Cx} {na : Nat} {sl sl' : Sl} {cs cs1 cs2 cs3 : Cs} {s t u : SV} {pos : Pos} {x : Str}
theorem mem_take {α : Type} {l : List α} {i m : Nat} {a : α} (h : l[i]? = some a) (hi : Nat.blt i m = true) : a ∈ l.take m := by
  have h' : i < m := by simpa [Nat.blt_eq] using hi
  exact List.mem_of_getElem? (i := i) (by rw [List.getElem?_take_of_lt h']; exact h)
theorem ev_name {N : List Str} {i m : Nat} (T : Tab X m) (hN : X.N = N) (l : Lk N sl x i s) (hi : Nat.blt i m = true) : EV X na (.Name x pos) sl cs s cs := by
  subst hN
  obtain ⟨h1, h2⟩ := l.at
  obtain ⟨a, b, c⟩ := T.vis x (mem_take h1 hi)
  refine ev_of (pe_var h1 a b c) fun B G ps σ H hn C S Q q => ?_
  obtain ⟨o, ho, hr⟩ := pd_get S h2
  cases o with
  | none => exact hr.elim
  | some v => exact ⟨v, ho, q v G ps H C (Up.refl _ _) hr⟩
theorem de_c {K : PySem.W.Frag} {v : V} {d : PyData} (h : ∀ G, Rep K G v d) : DE K na (tC v) sl cs (.val d) cs := fun B G ps σ H hn C S Q q => q v G ps H C (Up.refl _ _) (h G)
theorem ev_int {i : Int} {j : Nat} : EV X na (.Constant (.int i) j pos) sl cs (.val (.int i)) cs := ev_of pe_int (de_c fun _ => .int i)
theorem ev_bool {b : Bool} {j : Nat} : EV X na (.Constant (.bool b) j pos) sl cs (.val (.bool b)) cs := ev_of pe_bl (de_c fun _ => .bl b)
theorem ev_none {j : Nat} : EV X na (.Constant .none j pos) sl cs (.val .none) cs := ev_of pe_non (de_c fun _ => .non)
theorem ev_str {y : Str} {j : Nat} : EV X na (.Constant (.str y) j pos) sl cs (.val (.str y)) cs := ev_of pe_str (de_c fun _ => .str y)

/-! ### operations by values -/
def RV (K : PySem.W.Frag) (na : Nat) (r : R2) (s t : SV) (cs : Cs) (u : SV) (cs' : Cs) : Prop := ∀ B G ps H v w, B.As.length = na → Core K B G ps cs H → RepV K G ps v s → RepV K G ps w t → ∀ Q : VK,
  (∀ z G' ps' H', Core K B G' ps' cs' H' → Up G ps G' ps' → RepV K G' ps' z u → Q z H') → r v w H Q
def RU (K : PySem.W.Frag) (na : Nat) (r : V → Hp → VK → Prop) (s : SV) (cs : Cs) (u : SV) (cs' : Cs) : Prop := ∀ B G ps H v, B.As.length = na → Core K B G ps cs H → RepV K G ps v s → ∀ Q : VK,
  (∀ z G' ps' H', Core K B G' ps' cs' H' → Up G ps G' ps' → RepV K G' ps' z u → Q z H') → r v H Q
def RC (K : PySem.W.Frag) (na : Nat) (r : List V → Hp → VK → Prop) (ss : List SV) (cs : Cs) (u : SV) (cs' : Cs) : Prop := ∀ B G ps H vs, B.As.length = na → Core K B G ps cs H → RepVs K G ps vs ss → ∀ Q : VK,
  (∀ z G' ps' H', Core K B G' ps' cs' H' → Up G ps G' ps' → RepV K G' ps' z u → Q z H') → r vs H Q
def RM (K : PySem.W.Frag) (na : Nat) (r : V → List V → Hp → VK → Prop) (s : SV) (ss : List SV) (cs : Cs) (u : SV) (cs' : Cs) : Prop := ∀ B G ps H v vs, B.As.length = na → Core K B G ps cs H → RepV K G ps v s → RepVs K G ps vs ss → ∀ Q : VK,
  (∀ z G' ps' H', Core K B G' ps' cs' H' → Up G ps G' ps' → RepV K G' ps' z u → Q z H') → r v vs H Q
section
variable {K : PySem.W.Frag} {ta tb : TE} {r : R2}
theorem de_op (ha : DE K na ta sl cs s cs1) (hb : DE K na tb sl cs1 t cs2) (hr : RV K na r s t cs2 u cs3) : DE K na (tOp r ta tb) sl cs u cs3 := fun B G ps σ H hn C S Q q =>
  ha B G ps σ H hn C S _ fun v G1 ps1 H1 C1 u1 r1 => hb B G1 ps1 σ H1 hn C1 (Slots.mono u1 S) _ fun w G2 ps2 H2 C2 u2 r2 =>
    hr B G2 ps2 H2 v w hn C2 (RepV.mono u2 r1) r2 Q fun z G3 ps3 H3 C3 u3 r3 => q z G3 ps3 H3 C3 ((u1.trans u2).trans u3) r3
theorem de_un {r : V → Hp → VK → Prop} (ha : DE K na ta sl cs s cs1) (hr : RU K na r s cs1 u cs2) : DE K na (tUn r ta) sl cs u cs2 := fun B G ps σ H hn C S Q q =>
  ha B G ps σ H hn C S _ fun v G1 ps1 H1 C1 u1 r1 => hr B G1 ps1 H1 v hn C1 r1 Q fun z G3 ps3 H3 C3 u3 r3 => q z G3 ps3 H3 C3 (u1.trans u3) r3
theorem da_nil : DA K na tNil sl cs [] cs := fun B G ps σ H hn C S Q q => q [] G ps H C (Up.refl _ _) .nil
theorem da_cons {ss : List SV} {tr : TA} (ha : DE K na ta sl cs s cs1) (hr : DA K na tr sl cs1 ss cs2) : DA K na (tCons ta tr) sl cs (s :: ss) cs2 := fun B G ps σ H hn C S Q q =>
  ha B G ps σ H hn C S _ fun v G1 ps1 H1 C1 u1 r1 => hr B G1 ps1 σ H1 hn C1 (Slots.mono u1 S) _ fun vs G2 ps2 H2 C2 u2 r2 => q (v :: vs) G2 ps2 H2 C2 (u1.trans u2) (.cons (RepV.mono u2 r1) r2)
theorem de_cb {r : List V → Hp → VK → Prop} {ta : TA} {ss : List SV} (ha : DA K na ta sl cs ss cs1) (hr : RC K na r ss cs1 u cs2) : DE K na (tCB r ta) sl cs u cs2 := fun B G ps σ H hn C S Q q =>
  ha B G ps σ H hn C S _ fun vs G1 ps1 H1 C1 u1 r1 => hr B G1 ps1 H1 vs hn C1 r1 Q fun z G3 ps3 H3 C3 u3 r3 => q z G3 ps3 H3 C3 (u1.trans u3) r3
end
theorem av_nil : AV X na [] sl cs [] cs := av_of pa_nil da_nil
theorem av_cons {e : Expr} {es : List Expr} {ss : List SV} (ha : EV X na e sl cs s cs1) (hr : AV X na es sl cs1 ss cs2) (hs : starEach (e :: es) X.env = (false, eval e X.env) :: starEach es X.env := by rfl) : AV X na (e :: es) sl cs (s :: ss) cs2 :=
  av_of (pa_cons pe_any pa_any hs) (da_cons ha hr)
theorem ev_op {a b : Expr} {op : Operator} {r : R2} (ho : OpR X (binaryOp op) r) (ha : EV X na a sl cs s cs1) (hb : EV X na b sl cs1 t cs2) (hr : RV X.K na r s t cs2 u cs3) : EV X na (.BinOp a op b pos) sl cs u cs3 :=
  ev_of (pe_op ho pe_any pe_any) (de_op ha hb hr)
theorem ev_cmp {a b : Expr} {op : CmpOp} {r : R2} (ho : OpR X (compareOp op) r) (hm : behindInMarks op b = false) (ha : EV X na a sl cs s cs1) (hb : EV X na b sl cs1 t cs2) (hr : RV X.K na r s t cs2 u cs3) : EV X na (.Compare a [op] [b] pos) sl cs u cs3 :=
  ev_of (pe_cmpR ho pe_any pe_any hm) (de_op ha hb hr)
theorem tv_cmp {a b : Expr} {op : CmpOp} {r : R2} {k : Bool} (ho : OpR X (compareOp op) r) (hm : behindInMarks op b = false) (ha : EV X na a sl cs s cs1) (hb : EV X na b sl cs1 t cs2) (hr : RV X.K na r s t cs2 (.val (.bool k)) cs3) : TV X na (.Compare a [op] [b] pos) sl cs k cs3 := by
  refine tv_of (pt_cmpR ho pe_any pe_any hm) fun B G ps σ H hn C S Q q => de_op ha hb hr B G ps σ H hn C S _ fun v G1 ps1 H1 C1 u1 r1 => ?_
  cases (r1 : Rep _ _ _ _)
  exact ⟨k, rfl, q G1 ps1 H1 C1 u1⟩
theorem ev_un {a : Expr} {op : UnaryOp} {r : V → Hp → VK → Prop} (ho : UnR X (unaryOp op) r) (ha : EV X na a sl cs s cs1) (hr : RU X.K na r s cs1 u cs2) : EV X na (.UnaryOp op a pos) sl cs u cs2 :=
  ev_of (pe_un ho pe_any) (de_un ha hr)
theorem tv_val {e : Expr} {b : Bool} (h : EV X na e sl cs (.val (.bool b)) cs1) (he : ∀ whole, isTrue e X.env whole = (do let v ← whole; standAt e.pos; holding [v] (truthy v)) := by intro _; rfl) : TV X na e sl cs b cs1 := by
  refine tv_of (pt_val pe_any he) fun B G ps σ H hn C S Q q => h B G ps σ H hn C S _ fun v G1 ps1 H1 C1 u1 r1 => ?_
  cases (r1 : Rep _ _ _ _)
  exact ⟨b, rfl, q G1 ps1 H1 C1 u1⟩
theorem tv_w {e : Expr} {b : Bool} (h : WV X na e sl cs b cs1) : TV X na e sl cs b cs1 := tv_of (PW.pt pw_any) h
theorem dt_and {K : PySem.W.Frag} {ta tb : TT} {a b : Bool} (ha : DT K na ta sl cs a cs1) (hb : a = true → DT K na tb sl cs1 b cs1) : DT K na (L2.tAnd ta tb) sl cs (a && b) cs1 := fun B G ps σ H hn C S Q q =>
  ha B G ps σ H hn C S _ fun G1 ps1 H1 C1 u1 => by
    cases a with
    | true => exact hb rfl B G1 ps1 σ H1 hn C1 (Slots.mono u1 S) Q fun G2 ps2 H2 C2 u2 => q G2 ps2 H2 C2 (u1.trans u2)
    | false => exact q G1 ps1 H1 C1 u1
theorem dt_or {K : PySem.W.Frag} {ta tb : TT} {a b : Bool} (ha : DT K na ta sl cs a cs1) (hb : a = false → DT K na tb sl cs1 b cs1) : DT K na (L2.tOr ta tb) sl cs (a || b) cs1 := fun B G ps σ H hn C S Q q =>
  ha B G ps σ H hn C S _ fun G1 ps1 H1 C1 u1 => by
    cases a with
    | true => exact q G1 ps1 H1 C1 u1
    | false => exact hb rfl B G1 ps1 σ H1 hn C1 (Slots.mono u1 S) Q fun G2 ps2 H2 C2 u2 => q G2 ps2 H2 C2 (u1.trans u2)
theorem dt_not {K : PySem.W.Frag} {ta : TT} {a : Bool} (ha : DT K na ta sl cs a cs1) : DT K na (L2.tNot ta) sl cs (!a) cs1 := fun B G ps σ H hn C S Q q => ha B G ps σ H hn C S _ q
theorem wv_and1 {a : Expr} {b : Bool} (h : TV X na a sl cs b cs1) : WV X na (.BoolOp .And [a] pos) sl cs b cs1 := wv_of (pw_and1 pt_any) h
theorem wv_or1 {a : Expr} {b : Bool} (h : TV X na a sl cs b cs1) : WV X na (.BoolOp .Or [a] pos) sl cs b cs1 := wv_of (pw_or1 pt_any) h
theorem wv_and {a b : Expr} {rest : List Expr} {k l : Bool} (ha : TV X na a sl cs k cs1) (hb : k = true → WV X na (.BoolOp .And (b :: rest) pos) sl cs1 l cs1) : WV X na (.BoolOp .And (a :: b :: rest) pos) sl cs (k && l) cs1 := wv_of (pw_and pt_any pw_any) (dt_and ha hb)
theorem wv_or {a b : Expr} {rest : List Expr} {k l : Bool} (ha : TV X na a sl cs k cs1) (hb : k = false → WV X na (.BoolOp .Or (b :: rest) pos) sl cs1 l cs1) : WV X na (.BoolOp .Or (a :: b :: rest) pos) sl cs (k || l) cs1 := wv_of (pw_or pt_any pw_any) (dt_or ha hb)
theorem tv_not {a : Expr} {k : Bool} (ha : TV X na a sl cs k cs1) : TV X na (.UnaryOp .Not a pos) sl cs (!k) cs1 := tv_of (pt_not pt_any) (dt_not ha)
theorem ev_not {a : Expr} {k : Bool} (ha : EV X na a sl cs (.val (.bool k)) cs1) : EV X na (.UnaryOp .Not a pos) sl cs (.val (.bool (!k))) cs1 :=
  ev_of (L2.pe_not pe_any) fun B G ps σ H hn C S Q q => ha B G ps σ H hn C S _ fun v G1 ps1 H1 C1 u1 r1 => by
    cases (r1 : Rep _ _ _ _)
    exact ⟨k, rfl, q _ G1 ps1 H1 C1 u1 (Rep.bl _)⟩
theorem ev_and1 {op : BoolOp} {a : Expr} (h : EV X na a sl cs s cs1) : EV X na (.BoolOp op [a] pos) sl cs s cs1 := ev_of (pe_one pe_any) h
theorem ev_and {a b : Expr} {rest : List Expr} {k l : Bool} (ha : EV X na a sl cs (.val (.bool k)) cs1) (hb : k = true → EV X na (.BoolOp .And (b :: rest) pos) sl cs1 (.val (.bool l)) cs1) : EV X na (.BoolOp .And (a :: b :: rest) pos) sl cs (.val (.bool (k && l))) cs1 :=
  ev_of (pe_and pe_any pe_any) fun B G ps σ H hn C S Q q => ha B G ps σ H hn C S _ fun v G1 ps1 H1 C1 u1 r1 => by
    cases (r1 : Rep _ _ _ _)
    refine ⟨k, rfl, ?_⟩
    cases k with
    | true => exact hb rfl B G1 ps1 σ H1 hn C1 (Slots.mono u1 S) Q fun v G2 ps2 H2 C2 u2 => q v G2 ps2 H2 C2 (u1.trans u2)
    | false => exact q _ G1 ps1 H1 C1 u1 (Rep.bl _)
theorem ev_or {a b : Expr} {rest : List Expr} {k l : Bool} (ha : EV X na a sl cs (.val (.bool k)) cs1) (hb : k = false → EV X na (.BoolOp .Or (b :: rest) pos) sl cs1 (.val (.bool l)) cs1) : EV X na (.BoolOp .Or (a :: b :: rest) pos) sl cs (.val (.bool (k || l))) cs1 :=
  ev_of (pe_or pe_any pe_any) fun B G ps σ H hn C S Q q => ha B G ps σ H hn C S _ fun v G1 ps1 H1 C1 u1 r1 => by
    cases (r1 : Rep _ _ _ _)
    refine ⟨k, rfl, ?_⟩
    cases k with
    | true => exact q _ G1 ps1 H1 C1 u1 (Rep.bl _)
    | false => exact hb rfl B G1 ps1 σ H1 hn C1 (Slots.mono u1 S) Q fun v G2 ps2 H2 C2 u2 => q v G2 ps2 H2 C2 (u1.trans u2)
theorem ev_ifExp {c a b : Expr} {k : Bool} (hc : TV X na c sl cs k cs1) (ha : k = true → EV X na a sl cs1 s cs2) (hb : k = false → EV X na b sl cs1 s cs2) : EV X na (.IfExp c a b pos) sl cs s cs2 :=
  ev_of (pe_ifExp pt_any pe_any pe_any) fun B G ps σ H hn C S Q q => hc B G ps σ H hn C S _ fun G1 ps1 H1 C1 u1 => by
    cases k with
    | true => exact ha rfl B G1 ps1 σ H1 hn C1 (Slots.mono u1 S) Q fun v G2 ps2 H2 C2 u2 => q v G2 ps2 H2 C2 (u1.trans u2)
    | false => exact hb rfl B G1 ps1 σ H1 hn C1 (Slots.mono u1 S) Q fun v G2 ps2 H2 C2 u2 => q v G2 ps2 H2 C2 (u1.trans u2)

/-! ### operators -/
section
variable {K : PySem.W.Frag} {i j : Int}
theorem Rep.intI {G : Hp} {v : V} (h : Rep K G v (.int i)) : v = .int i := by cases h; rfl
theorem Rep.strI {G : Hp} {v : V} {x : Str} (h : Rep K G v (.str x)) : v = .str x := by cases h; rfl
theorem Rep.boolI {G : Hp} {v : V} {b : Bool} (h : Rep K G v (.bool b)) : v = .bl b := by cases h; rfl
theorem Rep.noneI {G : Hp} {v : V} (h : Rep K G v .none) : v = .non := by cases h; rfl
theorem rv_int {g : Int → Int → Int} : RV K na (rI0 fun i j => .int (g i j)) (.val (.int i)) (.val (.int j)) cs (.val (.int (g i j))) cs := fun B G ps H v w hn C h1 h2 Q q =>
  ⟨i, j, Rep.intI h1, Rep.intI h2, q _ G ps H C (Up.refl _ _) (Rep.int _)⟩
theorem rv_intC {c : Int → Int → Prop} {g : Int → Int → Int} (hc : c i j) : RV K na (rI c fun i j => .int (g i j)) (.val (.int i)) (.val (.int j)) cs (.val (.int (g i j))) cs := fun B G ps H v w hn C h1 h2 Q q =>
  ⟨i, j, Rep.intI h1, Rep.intI h2, hc, q _ G ps H C (Up.refl _ _) (Rep.int _)⟩
theorem rv_bool {g : Int → Int → Bool} : RV K na (rI0 fun i j => .bl (g i j)) (.val (.int i)) (.val (.int j)) cs (.val (.bool (g i j))) cs := fun B G ps H v w hn C h1 h2 Q q =>
  ⟨i, j, Rep.intI h1, Rep.intI h2, q _ G ps H C (Up.refl _ _) (Rep.bl _)⟩
end
theorem ev_add {a b : Expr} {i j : Int} (ha : EV X na a sl cs (.val (.int i)) cs1) (hb : EV X na b sl cs1 (.val (.int j)) cs2) : EV X na (.BinOp a .Add b pos) sl cs (.val (.int (i + j))) cs2 := ev_op op_add ha hb rv_int
theorem ev_sub {a b : Expr} {i j : Int} (ha : EV X na a sl cs (.val (.int i)) cs1) (hb : EV X na b sl cs1 (.val (.int j)) cs2) : EV X na (.BinOp a .Sub b pos) sl cs (.val (.int (i - j))) cs2 := ev_op op_sub ha hb rv_int
theorem ev_mul {a b : Expr} {i j : Int} (ha : EV X na a sl cs (.val (.int i)) cs1) (hb : EV X na b sl cs1 (.val (.int j)) cs2) (hc : CMulX i j) : EV X na (.BinOp a .Mult b pos) sl cs (.val (.int (i * j))) cs2 := ev_op op_mulX ha hb (rv_intC hc)
theorem ev_div {a b : Expr} {i j : Int} (ha : EV X na a sl cs (.val (.int i)) cs1) (hb : EV X na b sl cs1 (.val (.int j)) cs2) (hc : CDivW i j) : EV X na (.BinOp a .FloorDiv b pos) sl cs (.val (.int (i / j))) cs2 := ev_op op_fdivW ha hb (rv_intC hc)
theorem ev_mod {a b : Expr} {i j : Int} (ha : EV X na a sl cs (.val (.int i)) cs1) (hb : EV X na b sl cs1 (.val (.int j)) cs2) (hc : 0 < j) : EV X na (.BinOp a .Mod b pos) sl cs (.val (.int (i % j))) cs2 := ev_op op_mod ha hb (rv_intC (c := fun _ j => 0 < j) hc)
theorem ev_pow {a b : Expr} {i j : Int} (ha : EV X na a sl cs (.val (.int i)) cs1) (hb : EV X na b sl cs1 (.val (.int j)) cs2) (hc : CPow i j) : EV X na (.BinOp a .Pow b pos) sl cs (.val (.int (i ^ j.toNat))) cs2 := ev_op op_pow ha hb (rv_intC hc)
theorem ev_neg {a : Expr} {i : Int} (ha : EV X na a sl cs (.val (.int i)) cs1) : EV X na (.UnaryOp .USub a pos) sl cs (.val (.int (-i))) cs1 :=
  ev_un un_neg ha fun B G ps H v hn C h Q q => ⟨i, Rep.intI h, q _ G ps H C (Up.refl _ _) (Rep.int _)⟩
theorem ev_lt {a b : Expr} {i j : Int} (ha : EV X na a sl cs (.val (.int i)) cs1) (hb : EV X na b sl cs1 (.val (.int j)) cs2) : EV X na (.Compare a [.Lt] [b] pos) sl cs (.val (.bool (decide (i < j)))) cs2 := ev_cmp op_lt (nomark _) ha hb rv_bool
theorem ev_le {a b : Expr} {i j : Int} (ha : EV X na a sl cs (.val (.int i)) cs1) (hb : EV X na b sl cs1 (.val (.int j)) cs2) : EV X na (.Compare a [.LtE] [b] pos) sl cs (.val (.bool (decide (i ≤ j)))) cs2 := ev_cmp op_le (nomark _) ha hb rv_bool
theorem ev_gt {a b : Expr} {i j : Int} (ha : EV X na a sl cs (.val (.int i)) cs1) (hb : EV X na b sl cs1 (.val (.int j)) cs2) : EV X na (.Compare a [.Gt] [b] pos) sl cs (.val (.bool (decide (j < i)))) cs2 := ev_cmp op_gt (nomark _) ha hb rv_bool
theorem ev_ge {a b : Expr} {i j : Int} (ha : EV X na a sl cs (.val (.int i)) cs1) (hb : EV X na b sl cs1 (.val (.int j)) cs2) : EV X na (.Compare a [.GtE] [b] pos) sl cs (.val (.bool (decide (j ≤ i)))) cs2 := ev_cmp op_ge (nomark _) ha hb rv_bool
theorem tv_lt {a b : Expr} {i j : Int} (ha : EV X na a sl cs (.val (.int i)) cs1) (hb : EV X na b sl cs1 (.val (.int j)) cs2) : TV X na (.Compare a [.Lt] [b] pos) sl cs (decide (i < j)) cs2 := tv_cmp op_lt (nomark _) ha hb rv_bool
theorem tv_le {a b : Expr} {i j : Int} (ha : EV X na a sl cs (.val (.int i)) cs1) (hb : EV X na b sl cs1 (.val (.int j)) cs2) : TV X na (.Compare a [.LtE] [b] pos) sl cs (decide (i ≤ j)) cs2 := tv_cmp op_le (nomark _) ha hb rv_bool
theorem tv_gt {a b : Expr} {i j : Int} (ha : EV X na a sl cs (.val (.int i)) cs1) (hb : EV X na b sl cs1 (.val (.int j)) cs2) : TV X na (.Compare a [.Gt] [b] pos) sl cs (decide (j < i)) cs2 := tv_cmp op_gt (nomark _) ha hb rv_bool
theorem tv_ge {a b : Expr} {i j : Int} (ha : EV X na a sl cs (.val (.int i)) cs1) (hb : EV X na b sl cs1 (.val (.int j)) cs2) : TV X na (.Compare a [.GtE] [b] pos) sl cs (decide (j ≤ i)) cs2 := tv_cmp op_ge (nomark _) ha hb rv_bool
end
end DL
namespace DL
open PySem PySem.Spec PyProof.Rows L2
section
variable {K : PySem.W.Frag} {G G' : Hp} {ps ps' : List Addr} {H H' : Hp} {B : Bs} {cs cs' : Cs}

/-! ### another base, and back -/
theorem Core.sub (C : Core K B G ps cs H) : Core K ⟨G, H, ps⟩ G ps cs H :=
  ⟨Same.refl _, fun _ _ e _ => e, C.gh, fun _ e => .inl e, C.len, List.prefix_refl _, C.nd, fun k p c e hc => by
    obtain ⟨h1, _, h2⟩ := C.cell k p c e hc
    exact ⟨h1, .inr (List.mem_of_getElem? e), h2⟩⟩
theorem Core.own (C : Core K B G ps cs H) {p : Addr} (h : p ∈ ps) : B.H0 p = none ∨ p ∈ B.As := by
  obtain ⟨k, ek⟩ := List.getElem?_of_mem h
  obtain ⟨c, hc⟩ := C.at ek
  exact (C.cell k p c ek hc).2.1
/-- from a base that lies between -/
theorem Core.back (C : Core K B G ps cs H) (C' : Core K ⟨G, H, ps⟩ G' ps' cs' H') : Core K B G' ps' cs' H' where
  g0 := C.g0.trans C'.g0
  h0 b o e m := C'.h0 b o (C.h0 b o e m) fun z => by
    rcases C.own z with h | h
    · rw [h] at e; cases e
    · exact m h
  gh := C'.gh
  nw b e := (C'.nw b e).elim (C.nw b) fun h => .inr (C.free0 h)
  len := C'.len
  pre := C.pre.trans C'.pre
  nd := C'.nd
  cell k p c e hc := by
    obtain ⟨h1, h2, h3⟩ := C'.cell k p c e hc
    exact ⟨h1, h2.elim (fun h => .inl (C.free0 h)) C.own, h3⟩
theorem Core.backUp (C' : Core K ⟨G, H, ps⟩ G' ps' cs' H') : Up G ps G' ps' := ⟨C'.g0, C'.pre⟩
/-- a thing that is neither data nor a cell becomes data -/
theorem Core.adopt (C : Core K B G ps cs H) {p : Addr} {o : HO} (hp : p ∉ ps) (hG : G p = none) (hB : B.H0 p = none) (hH : H p = some o) : Core K B (upd G p o) ps cs H where
  g0 := C.g0.trans (Same.new hG)
  h0 := C.h0
  gh b u e := by
    by_cases z : b = p
    · subst z
      rw [upd_same] at e
      rw [hH]
      exact e
    · rw [upd_ne z] at e
      exact C.gh b u e
  nw b e := by
    by_cases z : b = p
    · subst z
      exact .inr hB
    · rw [upd_ne z] at e
      exact C.nw b e
  len := C.len
  pre := C.pre
  nd := C.nd
  cell k q c e hc := by
    have z : q ≠ p := fun z => hp (z ▸ List.mem_of_getElem? e)
    obtain ⟨h1, h2, h3⟩ := C.cell k q c e hc
    refine ⟨RepC.mono ⟨Same.new hG, List.prefix_refl _⟩ rfl h1, h2, ?_⟩
    rw [upd_ne z]
    exact h3
/-! ### cells as data -/
def SV.data : SV → Option PyData
  | .val d => some d
  | .cell _ => none
def svData : List SV → Option (List PyData)
  | [] => some []
  | .val d :: r => (svData r).map (d :: ·)
  | .cell _ :: _ => none
def kvData : List (Key × SV) → Option (List (PyData × PyData))
  | [] => some []
  | (k, .val d) :: r => (kvData r).map ((kD k, d) :: ·)
  | (_, .cell _) :: _ => none
def CC.data : CC → Option PyData
  | .lst xs => (svData xs).map .list
  | .dct kvs => (kvData kvs).map .dict
  | _ => none
theorem svData_map (ds : List PyData) : svData (ds.map SV.val) = some ds := by
  induction ds with
  | nil => rfl
  | cons d r ih => simp [svData, ih]
theorem kvData_map (ds : List (Key × PyData)) : kvData (ds.map fun kv => (kv.1, SV.val kv.2)) = some (ds.map fun kv => (kD kv.1, kv.2)) := by
  induction ds with
  | nil => rfl
  | cons d r ih => simp [kvData, ih]
theorem RepVs.data : ∀ {vs : List V} {xs : List SV} {ds : List PyData}, RepVs K G ps vs xs → svData xs = some ds → Reps K G vs ds
  | _, _, _, .nil, e => by cases e; exact .nil
  | _, .val d :: r, ds, .cons h t, e => by
    cases q : svData r with
    | none => simp [svData, q] at e
    | some es =>
      simp [svData, q] at e
      subst e
      exact .cons h (RepVs.data t q)
  | _, .cell _ :: _, _, .cons _ _, e => by simp [svData] at e
theorem RepKs.data : ∀ {vs : List (Key × V)} {xs : List (Key × SV)} {ds : List (PyData × PyData)}, RepKs K G ps vs xs → kvData xs = some ds → RepD K G vs ds
  | _, _, _, .nil, e => by cases e; exact .nil
  | (k, v) :: _, (k', .val d) :: r, ds, .cons h t, e => by
    cases q : kvData r with
    | none => simp [kvData, q] at e
    | some es =>
      simp [kvData, q] at e
      subst e
      obtain ⟨h1, h2⟩ := h
      cases (show k = k' from h1)
      exact .cons h2 (RepKs.data t q)
  | _, (_, .cell _) :: _, _, .cons _ _, e => by simp [kvData] at e
/-- the object at a cell that is all data -/
theorem RepC.data {p : Addr} {c : CC} {d : PyData} (h : RepC K G ps H p c) (e : c.data = some d) : ∃ o, H p = some o ∧ ∀ G' : Hp, Same G G' → G' p = some o → Rep K G' (.ref p) d := by
  cases c with
  | lst xs =>
    obtain ⟨vs, h1, h2⟩ := h
    cases q : svData xs with
    | none => simp [CC.data, q] at e
    | some ds =>
      simp [CC.data, q] at e
      subst e
      exact ⟨_, h1, fun G' s g => .lst (.inl (.inl g)) (Reps.mono s (RepVs.data h2 q))⟩
  | dct xs =>
    obtain ⟨vs, h1, h2⟩ := h
    cases q : kvData xs with
    | none => simp [CC.data, q] at e
    | some ds =>
      simp [CC.data, q] at e
      subst e
      exact ⟨_, h1, fun G' s g => .dct g (RepD.mono s (RepKs.data h2 q))⟩
  | ins _ _ => simp [CC.data] at e
  | dead => simp [CC.data] at e
  | frz _ _ _ => simp [CC.data] at e
  | tup _ => simp [CC.data] at e
/-- a cell of one's own becomes data for good -/
theorem Core.freeze (C : Core K B G ps cs H) {k : Nat} {p : Addr} {c : CC} {o : HO} (hk : B.As.length ≤ k) (e : ps[k]? = some p) (hc : cs[k]? = some c) (hd : c ≠ .dead) (hH : H p = some o) :
    Core K B (upd G p o) ps (cs.set k .dead) H := by
  obtain ⟨_, hB, h2⟩ := C.cell k p c e hc
  have hG : G p = none := h2.elim (fun z => (hd z).elim) id
  have hB' : B.H0 p = none := hB.elim id fun h => by
    obtain ⟨j, ej⟩ := List.getElem?_of_mem h
    have h1 := nd_at C.nd (pre_get C.pre ej) e
    have h2 := (List.getElem?_eq_some_iff.mp ej).1
    omega
  have hkl : k < cs.length := (List.getElem?_eq_some_iff.mp hc).1
  refine ⟨C.g0.trans (Same.new hG), C.h0, fun b u eb => ?_, fun b eb => ?_, by rw [List.length_set]; exact C.len, C.pre, C.nd, fun j q d ej hj => ?_⟩
  · by_cases z : b = p
    · subst z
      rw [upd_same] at eb
      rw [hH]
      exact eb
    · rw [upd_ne z] at eb
      exact C.gh b u eb
  · by_cases z : b = p
    · subst z
      exact .inr hB'
    · rw [upd_ne z] at eb
      exact C.nw b eb
  · by_cases hjk : j = k
    · subst hjk
      rw [List.getElem?_set_self hkl] at hj
      cases hj
      rw [e] at ej
      cases ej
      exact ⟨by show H p ≠ none; rw [hH]; exact Option.some_ne_none _, hB, .inl rfl⟩
    · rw [List.getElem?_set_ne (Ne.symm hjk)] at hj
      obtain ⟨h1, hb, h2⟩ := C.cell j q d ej hj
      have hq : q ≠ p := fun hq => hjk (nd_at C.nd ej (by rw [hq]; exact e))
      refine ⟨RepC.mono ⟨Same.new hG, List.prefix_refl _⟩ rfl h1, hb, ?_⟩
      rw [upd_ne hq]
      exact h2
/-! ### fewer cells -/
def SV.lt (n : Nat) : SV → Bool
  | .val _ => true
  | .cell k => decide (k < n)
def CC.lt (n : Nat) : CC → Bool
  | .lst xs => xs.all (SV.lt n)
  | .dct kvs => kvs.all fun kv => SV.lt n kv.2
  | .ins _ fs => fs.all fun kv => SV.lt n kv.2
  | .dead => true
  | .frz _ _ kvs => kvs.all fun kv => SV.lt n kv.2
  | .tup xs => xs.all (SV.lt n)
theorem RepV.take {n : Nat} {v : V} : ∀ {s : SV}, RepV K G ps v s → SV.lt n s = true → RepV K G (ps.take n) v s
  | .val _, h, _ => h
  | .cell k, ⟨p, e, hv⟩, l => ⟨p, by rw [List.getElem?_take_of_lt (of_decide_eq_true l)]; exact e, hv⟩
theorem RepVs.take {n : Nat} : ∀ {vs : List V} {ss : List SV}, RepVs K G ps vs ss → ss.all (SV.lt n) = true → RepVs K G (ps.take n) vs ss
  | _, _, .nil, _ => .nil
  | _, _, .cons h t, l => by
    rw [List.all_cons, Bool.and_eq_true] at l
    exact .cons (RepV.take h l.1) (RepVs.take t l.2)
theorem RepKs.take {κ : Type} {n : Nat} : ∀ {vs : List (κ × V)} {ss : List (κ × SV)}, RepKs K G ps vs ss → (ss.all fun kv => SV.lt n kv.2) = true → RepKs K G (ps.take n) vs ss
  | _, _, .nil, _ => .nil
  | _, _, .cons h t, l => by
    rw [List.all_cons, Bool.and_eq_true] at l
    exact .cons ⟨h.1, RepV.take h.2 l.1⟩ (RepKs.take t l.2)
theorem RepC.take {n : Nat} {p : Addr} {c : CC} (h : RepC K G ps H p c) (l : c.lt n = true) : RepC K G (ps.take n) H p c := by
  cases c with
  | lst xs => obtain ⟨vs, e, r⟩ := h; exact ⟨vs, e, RepVs.take r l⟩
  | dct xs => obtain ⟨vs, e, r⟩ := h; exact ⟨vs, e, RepKs.take r l⟩
  | ins _ _ => obtain ⟨dx, vs, e, r⟩ := h; exact ⟨dx, vs, e, RepKs.take r l⟩
  | dead => exact h
  | frz _ _ _ => exact ⟨h.1, RepKs.take h.2 l⟩
  | tup xs => obtain ⟨vs, e, r⟩ := h; exact ⟨vs, e, RepVs.take r l⟩
theorem Core.take (C : Core K B G ps cs H) {n : Nat} (hn : B.As.length ≤ n) (l : (cs.take n).all (CC.lt n) = true) : Core K B G (ps.take n) (cs.take n) H where
  g0 := C.g0
  h0 := C.h0
  gh := C.gh
  nw := C.nw
  len := by rw [List.length_take, List.length_take, C.len]
  pre := by
    obtain ⟨t, e⟩ := C.pre
    rw [← e, List.take_append, List.take_of_length_le hn]
    exact List.prefix_append _ _
  nd := C.nd.sublist (List.take_sublist _ _)
  cell k p c e hc := by
    have hk : k < n := by
      have := (List.getElem?_eq_some_iff.mp e).1
      rw [List.length_take] at this
      omega
    have hl : c.lt n = true := List.all_eq_true.mp l c (List.mem_of_getElem? hc)
    rw [List.getElem?_take_of_lt hk] at e hc
    obtain ⟨h1, h2, h3⟩ := C.cell k p c e hc
    exact ⟨RepC.take h1 hl, h2, h3⟩
end
end DL
namespace DL
open PySem PySem.Spec PyProof.Rows L2

/-! ### statements -/
section
variable {X : Cx} {na : Nat} {sl sl' : Sl} {cs cs1 cs2 cs3 : Cs} {s t u : SV} {pos : Pos} {x : Str} {E : DEnds} {N : List Str}
theorem dle_nx {K : PySem.W.Frag} {B : Bs} {G : Hp} {ps : List Addr} {D : Ends} {R : Sl → Cs → Prop} {T : L2.St → Hp → Prop} (L : DLe K B G ps E D)
    (h : ∀ sl cs G' ps' σ H, Core K B G' ps' cs H → Up G ps G' ps' → Slots K G' ps' σ sl → R sl cs → T σ H) : DLe K B G ps { E with nx := R } { D with nx := T } :=
  ⟨h, L.rt, L.bk, L.ct⟩
theorem sx_nil (h : E.nx sl cs) : SX X na [] sl cs E := sx_of pss_nil fun B G ps σ H hn C S D L => L.nx sl cs G ps σ H C (Up.refl _ _) S h
theorem sx_cons {st : Stmt} {rest : List Stmt} (h : S1 X na st sl cs { E with nx := fun sl' cs' => SX X na rest sl' cs' E }) : SX X na (st :: rest) sl cs E :=
  sx_of (pss_cons ps_any pss_any) fun B G ps σ H hn C S D L => h B G ps σ H hn C S _ (dle_nx L fun sl' cs' G' ps' σ' H' C' u S' r => r B G' ps' σ' H' hn C' S' D (L.up u))
theorem sx_one {st : Stmt} (h : S1 X na st sl cs E) : SX X na [st] sl cs E := sx_of (pss_one ps_any) h
theorem s1_pass (h : E.nx sl cs) : S1 X na (.Pass pos) sl cs E := s1_of ps_pass fun B G ps σ H hn C S D L => L.nx sl cs G ps σ H C (Up.refl _ _) S h
theorem s1_break (h : E.bk sl cs) : S1 X na (.Break pos) sl cs E := s1_of ps_break fun B G ps σ H hn C S D L => L.bk sl cs G ps σ H C (Up.refl _ _) S h
theorem s1_continue (h : E.ct sl cs) : S1 X na (.Continue pos) sl cs E := s1_of ps_continue fun B G ps σ H hn C S D L => L.ct sl cs G ps σ H C (Up.refl _ _) S h
theorem s1_ret {e : Expr} (h : EV X na e sl cs s cs1) (q : E.rt s cs1) : S1 X na (.Return (some e) pos) sl cs E :=
  s1_of (ps_ret pe_any) fun B G ps σ H hn C S D L => h B G ps σ H hn C S _ fun v G1 ps1 H1 C1 u1 r1 => L.rt s cs1 G1 ps1 v H1 C1 u1 r1 q
theorem s1_retN (q : E.rt (.val .none) cs) : S1 X na (.Return none pos) sl cs E :=
  s1_of ps_retN fun B G ps σ H hn C S D L => L.rt (.val .none) cs G ps .non H C (Up.refl _ _) Rep.non q
theorem s1_expr {e : Expr} (h : EV X na e sl cs s cs1) (q : E.nx sl cs1) (hs : swapsWith e none pos.line X.env = pure false := by rfl) : S1 X na (.Expr e pos) sl cs E :=
  s1_of (ps_expr pe_any hs) fun B G ps σ H hn C S D L => h B G ps σ H hn C S _ fun v G1 ps1 H1 C1 u1 r1 => L.nx sl cs1 G1 ps1 σ H1 C1 u1 (Slots.mono u1 S) q
theorem s1_if {c : Expr} {a b : List Stmt} {k : Bool} (h : TV X na c sl cs k cs1) (h1 : k = true → SX X na a sl cs1 E) (h2 : k = false → SX X na b sl cs1 E) : S1 X na (.If c a b pos) sl cs E :=
  s1_of (ps_if pt_any pss_any pss_any) fun B G ps σ H hn C S D L => h B G ps σ H hn C S _ fun G1 ps1 H1 C1 u1 => by
    cases k with
    | true => exact h1 rfl B G1 ps1 σ H1 hn C1 (Slots.mono u1 S) D (L.up u1)
    | false => exact h2 rfl B G1 ps1 σ H1 hn C1 (Slots.mono u1 S) D (L.up u1)
/-- names that may be stored -/
structure TabL (X : Cx) (m : Nat) : Prop where
  nd : X.N.Nodup
  loc : ∀ x ∈ X.N.take m, Loc X.env.scope x
  fn : ∀ x, X.fn x = true
theorem Slots.set {K : PySem.W.Frag} {G : Hp} {ps : List Addr} {σ : L2.St} {v : V} (S : Slots K G ps σ sl) (r : RepV K G ps v s) (i : Nat) : Slots K G ps (σ.set i (some v)) (sl.set i (some s)) := pd_set (show SlotR K G ps (some v) (some s) from r) i S
theorem s1_set {e : Expr} {pos' : Pos} {i m : Nat} (T : TabL X m) (hN : X.N = N) (h : EV X na e sl cs s cs1) (p : Put N sl x i s sl') (q : E.nx sl' cs1) (hi : Nat.blt i m = true) (hs : swapsWith e (some (.Name x pos')) pos.line X.env = pure false := by rfl) :
    S1 X na (.Assign [.Name x pos'] e pos) sl cs E := by
  subst hN
  obtain ⟨h1, h2⟩ := p.at
  subst h2
  exact s1_of (ps_set T.nd h1 (T.loc x (mem_take h1 hi)) pe_any hs (.inl (T.fn x))) fun B G ps σ H hn C S D L => h B G ps σ H hn C S _ fun v G1 ps1 H1 C1 u1 r1 =>
    L.nx _ cs1 G1 ps1 _ H1 C1 u1 (Slots.set (Slots.mono u1 S) r1 i) q
theorem s1_aug {e : Expr} {pos' : Pos} {op : Operator} {f : Int → Int → Int} {i m : Nat} {a b : Int} (T : TabL X m) (hN : X.N = N) (ho : PIp X op (ipI f)) (l : Lk N sl x i (.val (.int a))) (h : EV X na e sl cs (.val (.int b)) cs1) (p : Put N sl x i (.val (.int (f a b))) sl') (q : E.nx sl' cs1) (hi : Nat.blt i m = true) :
    S1 X na (.AugAssign (.Name x pos') op e pos) sl cs E := by
  subst hN
  obtain ⟨h1, h2⟩ := p.at
  subst h2
  obtain ⟨_, h3⟩ := l.at
  refine s1_of (ps_aug T.nd h1 (T.loc x (mem_take h1 hi)) pe_any ho (.inl (T.fn x))) fun B G ps σ H hn C S D L => ?_
  obtain ⟨o, hso, hr⟩ := pd_get S h3
  cases o with
  | none => exact hr.elim
  | some w =>
    refine ⟨w, hso, h B G ps σ H hn C S _ fun v G1 ps1 H1 C1 u1 r1 => ⟨a, b, Rep.intI hr, Rep.intI r1, ?_⟩⟩
    exact L.nx _ cs1 G1 ps1 _ H1 C1 u1 (Slots.set (Slots.mono u1 S) (show RepV X.K G1 ps1 (.int (f a b)) (.val (.int (f a b))) from Rep.int _) i) q

/-! ### targets -/
def DG (K : PySem.W.Frag) (na : Nat) (tg : TG) (s : SV) (sl : Sl) (cs : Cs) (R : Sl → Cs → Prop) : Prop := ∀ B G ps σ H v, B.As.length = na → Core K B G ps cs H → Slots K G ps σ sl → RepV K G ps v s → ∀ Q : L2.St → Hp → Prop,
  (∀ sl' cs' G' ps' σ' H', Core K B G' ps' cs' H' → Up G ps G' ps' → Slots K G' ps' σ' sl' → R sl' cs' → Q σ' H') → tg v σ H Q
def DGs (K : PySem.W.Frag) (na : Nat) (tg : TGs) (ss : List SV) (sl : Sl) (cs : Cs) (R : Sl → Cs → Prop) : Prop := ∀ B G ps σ H vs, B.As.length = na → Core K B G ps cs H → Slots K G ps σ sl → RepVs K G ps vs ss → ∀ Q : L2.St → Hp → Prop,
  (∀ sl' cs' G' ps' σ' H', Core K B G' ps' cs' H' → Up G ps G' ps' → Slots K G' ps' σ' sl' → R sl' cs' → Q σ' H') → tg vs σ H Q
def anyG (X : Cx) (e : Expr) : TG := fun v σ H Q => ∃ t, PG X e t ∧ t v σ H Q
def anyGs (X : Cx) (es : List Expr) : TGs := fun v σ H Q => ∃ t, PGs X es t ∧ t v σ H Q
theorem pg_any {e : Expr} : PG X e (anyG X e) := ⟨fun pins s σ H v u Q I r ⟨_, p, h⟩ => p.run pins s σ H v u Q I r h⟩
theorem pgs_any {es : List Expr} : PGs X es (anyGs X es) := ⟨fun pins s σ H vs us Q I r ⟨_, p, h⟩ => p.run pins s σ H vs us Q I r h⟩
def GX (X : Cx) (na : Nat) (e : Expr) (s : SV) (sl : Sl) (cs : Cs) (R : Sl → Cs → Prop) : Prop := DG X.K na (anyG X e) s sl cs R
def GXs (X : Cx) (na : Nat) (es : List Expr) (ss : List SV) (sl : Sl) (cs : Cs) (R : Sl → Cs → Prop) : Prop := DGs X.K na (anyGs X es) ss sl cs R
variable {R : Sl → Cs → Prop}
theorem gx_of {e : Expr} {t : TG} (p : PG X e t) (d : DG X.K na t s sl cs R) : GX X na e s sl cs R := fun B G ps σ H v hn C S r Q q => ⟨t, p, d B G ps σ H v hn C S r Q q⟩
theorem gxs_of {e : List Expr} {t : TGs} {ss : List SV} (p : PGs X e t) (d : DGs X.K na t ss sl cs R) : GXs X na e ss sl cs R := fun B G ps σ H v hn C S r Q q => ⟨t, p, d B G ps σ H v hn C S r Q q⟩
theorem gx_name {i m : Nat} (T : TabL X m) (hN : X.N = N) (p : Put N sl x i s sl') (q : R sl' cs) (hi : Nat.blt i m = true) : GX X na (.Name x pos) s sl cs R := by
  subst hN
  obtain ⟨h1, h2⟩ := p.at
  subst h2
  exact gx_of (pg_name T.nd h1 (T.loc x (mem_take h1 hi)) (.inl (T.fn x))) fun B G ps σ H v hn C S r Q k => k _ cs G ps _ H C (Up.refl _ _) (Slots.set S r i) q
theorem gxs_nil (q : R sl cs) : GXs X na [] [] sl cs R := gxs_of pgs_nil fun B G ps σ H vs hn C S r Q k => by
  cases r
  exact ⟨rfl, k sl cs G ps σ H C (Up.refl _ _) S q⟩
theorem gxs_cons {e : Expr} {es : List Expr} {ss : List SV} (h : GX X na e s sl cs fun sl' cs' => GXs X na es ss sl' cs' R)
    (hs : (assignEach (e :: es) X.env).map (·.2) = assign e X.env :: (assignEach es X.env).map (·.2) := by rfl) : GXs X na (e :: es) (s :: ss) sl cs R :=
  gxs_of (pgs_cons pg_any pgs_any hs) fun B G ps σ H vs hn C S r Q k => by
    cases r with
    | cons r1 rr =>
      exact ⟨_, _, rfl, h B G ps σ H _ hn C S r1 _ fun sl' cs' G1 ps1 σ1 H1 C1 u1 S1 q => q B G1 ps1 σ1 H1 _ hn C1 S1 (RepVs.mono u1 rr) _ fun sl2 cs2 G2 ps2 σ2 H2 C2 u2 => k sl2 cs2 G2 ps2 σ2 H2 C2 (u1.trans u2)⟩
theorem Reps.vs {K : PySem.W.Frag} {G : Hp} {ps : List Addr} : ∀ {vs : List V} {ds : List PyData}, Reps K G vs ds → RepVs K G ps vs (ds.map SV.val)
  | _, _, .nil => .nil
  | _, _, .cons h t => .cons h (Reps.vs t)
theorem Reps.ofVs {K : PySem.W.Frag} {G : Hp} {ps : List Addr} : ∀ {vs : List V} {ds : List PyData}, RepVs K G ps vs (ds.map SV.val) → Reps K G vs ds
  | _, [], h => by cases h; exact .nil
  | _, d :: r, h => by
    cases h with
    | cons a b => exact .cons a (Reps.ofVs b)
theorem gx_tup {es : List Expr} {k : Nat} {ds : List PyData} {n : Nat} (hc : X.calm = true) (h : GXs X na es (ds.map SV.val) sl cs R) (hl : ds.length = n)
    (hn : (assignEach es X.env).length = n := by rfl) (hst : (assignEach es X.env).findIdx? (·.1) = none := by rfl) : GX X na (.Tuple es k pos) (.val (.tuple ds)) sl cs R :=
  gx_of (pg_tup hc pgs_any hn hst) fun B G ps σ H v hn C S r Q q => by
    cases (r : Rep _ _ _ _) with
    | tup h1 h2 => exact ⟨_, _, rfl, Same.seqT C.gh h1, h2.length.trans hl, h B G ps σ H _ hn C S (Reps.vs h2) Q q⟩
theorem s1_asg {tg e : Expr} (h : EV X na e sl cs s cs1) (g : GX X na tg s sl cs1 E.nx) (hs : swapsWithSole [tg] e pos.line X.env = pure false := by rfl) (hw : swappedStores [tg] e X.env = pure none := by rfl)
    (h1 : (assignEach [tg] X.env).map (·.2) = [assign tg X.env] := by rfl) : S1 X na (.Assign [tg] e pos) sl cs E :=
  s1_of (ps_asg pe_any pg_any hs hw h1) fun B G ps σ H hn C S D L => h B G ps σ H hn C S _ fun v G1 ps1 H1 C1 u1 r1 =>
    g B G1 ps1 σ H1 v hn C1 (Slots.mono u1 S) r1 _ fun sl' cs' G2 ps2 σ2 H2 C2 u2 S2 q => L.nx sl' cs' G2 ps2 σ2 H2 C2 (u1.trans u2) S2 q
end
end DL
namespace DL
open PySem PySem.Spec PyProof.Rows L2

/-! ### cells, by place -/
inductive PutC : Cs → Nat → CC → Cs → Prop
  | here {c c' : CC} {cs : Cs} : PutC (c :: cs) 0 c' (c' :: cs)
  | there {c c' : CC} {cs cs' : Cs} {k : Nat} : PutC cs k c' cs' → PutC (c :: cs) (k + 1) c' (c :: cs')
inductive AppC : Cs → CC → Nat → Cs → Prop
  | nil {c : CC} : AppC [] c 0 [c]
  | cons {c c' : CC} {cs cs' : Cs} {n : Nat} : AppC cs c n cs' → AppC (c' :: cs) c (n + 1) (c' :: cs')
theorem PutC.at : ∀ {cs cs' : Cs} {k : Nat} {c : CC}, PutC cs k c cs' → cs' = cs.set k c
  | _, _, _, _, .here => rfl
  | _, _, _, _, .there h => by rw [h.at]; rfl
theorem PutC.of {cs : Cs} {k : Nat} {c : CC} (h : k < cs.length) : PutC cs k c (cs.set k c) := by
  induction cs generalizing k with
  | nil => exact absurd h (Nat.not_lt_zero _)
  | cons d r ih =>
    cases k with
    | zero => exact .here
    | succ k => exact .there (ih (Nat.lt_of_succ_lt_succ h))
theorem AppC.at : ∀ {cs cs' : Cs} {n : Nat} {c : CC}, AppC cs c n cs' → n = cs.length ∧ cs' = cs ++ [c]
  | _, _, _, _, .nil => ⟨rfl, rfl⟩
  | _, _, _, _, .cons h => by
    obtain ⟨a, b⟩ := h.at
    exact ⟨congrArg (· + 1) a, by rw [b]; rfl⟩
theorem AppC.of (cs : Cs) (c : CC) : AppC cs c cs.length (cs ++ [c]) := by
  induction cs with
  | nil => exact .nil
  | cons d r ih => exact .cons ih

/-! ### what is read as a list -/
inductive IsL (cs : Cs) : SV → List SV → Prop
  | val {ds : List PyData} : IsL cs (.val (.list ds)) (ds.map SV.val)
  | cell {k : Nat} {xs : List SV} : cs[k]? = some (.lst xs) → IsL cs (.cell k) xs
section
variable {K : PySem.W.Frag} {B : Bs} {G : Hp} {ps : List Addr} {cs cs' : Cs} {H : Hp} {v : V} {s : SV} {xs : List SV}
theorem Core.cellAt (C : Core K B G ps cs H) {k : Nat} {c : CC} (r : RepV K G ps v (.cell k)) (h : cs[k]? = some c) : ∃ p, v = .ref p ∧ ps[k]? = some p ∧ RepC K G ps H p c := by
  obtain ⟨p, e, hv⟩ := r
  exact ⟨p, hv, e, (C.cell k p c e h).1⟩
theorem IsL.sq (C : Core K B G ps cs H) (r : RepV K G ps v s) (h : IsL cs s xs) : ∃ a vs, v = .ref a ∧ SqL K H a vs ∧ RepVs K G ps vs xs := by
  cases h with
  | val =>
    cases (r : Rep _ _ _ _) with
    | lst h1 h2 => exact ⟨_, _, rfl, C.gh.seq h1, Reps.vs h2⟩
  | cell h =>
    obtain ⟨p, hv, _, vs, h1, h2⟩ := C.cellAt r h
    exact ⟨p, vs, hv, SqL.of h1, h2⟩
theorem Rep.tupI {ds : List PyData} (r : Rep K G v (.tuple ds)) : ∃ a vs, v = .ref a ∧ SqT K G a vs ∧ Reps K G vs ds := by
  cases r with
  | tup h1 h2 => exact ⟨_, _, rfl, h1, h2⟩
theorem Rep.lstI {ds : List PyData} (r : Rep K G v (.list ds)) : ∃ a vs, v = .ref a ∧ SqL K G a vs ∧ Reps K G vs ds := by
  cases r with
  | lst h1 h2 => exact ⟨_, _, rfl, h1, h2⟩
theorem Core.newTup (C : Core K B G ps cs H) {vs : List V} {ds : List PyData} (r : Reps K G vs ds) {Q : VK} (q : ∀ v G' ps' H', Core K B G' ps' cs H' → Up G ps G' ps' → RepV K G' ps' v (.val (.tuple ds)) → Q v H') : ∀ p, H p = none → Q (.ref p) (upd H p (.tup vs)) := fun p hp =>
  q _ _ ps _ (C.alloc (.tup vs) hp) ⟨Same.new (C.freeG hp), List.prefix_refl _⟩ (Rep.tup (SqT.of upd_same) (Reps.mono (Same.new (C.freeG hp)) r))
theorem Core.newLst (C : Core K B G ps cs H) {vs : List V} {ds : List PyData} (r : Reps K G vs ds) {Q : VK} (q : ∀ v G' ps' H', Core K B G' ps' cs H' → Up G ps G' ps' → RepV K G' ps' v (.val (.list ds)) → Q v H') : ∀ p, H p = none → Q (.ref p) (upd H p (.lst vs)) := fun p hp =>
  q _ _ ps _ (C.alloc (.lst vs) hp) ⟨Same.new (C.freeG hp), List.prefix_refl _⟩ (Rep.lst (SqL.of upd_same) (Reps.mono (Same.new (C.freeG hp)) r))
theorem pre_snoc_get (ps : List Addr) (p : Addr) : (ps ++ [p])[ps.length]? = some p := by
  rw [List.getElem?_append_right (Nat.le_refl _), Nat.sub_self]
  rfl
theorem Core.newCell (C : Core K B G ps cs H) {o : HO} {c : CC} {n : Nat} (a : AppC cs c n cs') (r : ∀ p, H p = none → RepC K G (ps ++ [p]) (upd H p o) p c) {Q : VK} (q : ∀ v G' ps' H', Core K B G' ps' cs' H' → Up G ps G' ps' → RepV K G' ps' v (.cell n) → Q v H') : ∀ p, H p = none → Q (.ref p) (upd H p o) := fun p hp => by
  obtain ⟨rfl, rfl⟩ := a.at
  exact q _ _ _ _ (C.cellNew hp (r p hp)) ⟨Same.refl _, List.prefix_append _ _⟩ ⟨p, by rw [← C.len]; exact pre_snoc_get ps p, rfl⟩
end
theorem sz {n : Nat} (h : n ≤ 1000000) : n ≤ sizeLine := Nat.le_trans h (by rw [sizeLine_eq]; decide)
theorem szl {n : Nat} (h : n ≤ 1000000) : n < sizeLine := Nat.lt_of_le_of_lt h (by rw [sizeLine_eq]; decide)

section
variable {X : Cx} {na : Nat} {sl sl' : Sl} {cs cs1 cs2 cs3 : Cs} {s t u : SV} {pos : Pos} {x : Str} {E : DEnds} {N : List Str}
/-! ### displays -/
def AD (X : Cx) (na : Nat) (es : List Expr) (sl : Sl) (cs : Cs) (ds : List PyData) (cs' : Cs) : Prop := AV X na es sl cs (ds.map SV.val) cs'
theorem ad_nil : AD X na [] sl cs [] cs := av_nil
theorem ad_cons {e : Expr} {es : List Expr} {d : PyData} {ds : List PyData} (ha : EV X na e sl cs (.val d) cs1) (hr : AD X na es sl cs1 ds cs2) (hs : starEach (e :: es) X.env = (false, eval e X.env) :: starEach es X.env := by rfl) : AD X na (e :: es) sl cs (d :: ds) cs2 := av_cons ha hr hs
theorem ev_tup {es : List Expr} {k : Nat} {ds : List PyData} (h : AD X na es sl cs ds cs1) (hz : Nat.ble ds.length 1000000 = true) : EV X na (.Tuple es k pos) sl cs (.val (.tuple ds)) cs1 :=
  ev_of (pe_tup pa_any) fun B G ps σ H hn C S Q q => h B G ps σ H hn C S _ fun vs G1 ps1 H1 C1 u1 r1 => by
    have r := Reps.ofVs r1
    exact ⟨sz (by rw [r.length]; exact Nat.le_of_ble_eq_true hz), C1.newTup r fun v G2 ps2 H2 C2 u2 => q v G2 ps2 H2 C2 (u1.trans u2)⟩
theorem ev_lstV {es : List Expr} {ds : List PyData} (h : AD X na es sl cs ds cs1) (hz : Nat.ble ds.length 1000000 = true) : EV X na (.List es pos) sl cs (.val (.list ds)) cs1 :=
  ev_of (pe_lst pa_any) fun B G ps σ H hn C S Q q => h B G ps σ H hn C S _ fun vs G1 ps1 H1 C1 u1 r1 => by
    have r := Reps.ofVs r1
    exact ⟨sz (by rw [r.length]; exact Nat.le_of_ble_eq_true hz), C1.newLst r fun v G2 ps2 H2 C2 u2 => q v G2 ps2 H2 C2 (u1.trans u2)⟩
theorem ev_lstC {es : List Expr} {ss : List SV} {n : Nat} (h : AV X na es sl cs ss cs1) (a : AppC cs1 (.lst ss) n cs2) (hz : Nat.ble ss.length 1000000 = true) : EV X na (.List es pos) sl cs (.cell n) cs2 :=
  ev_of (pe_lst pa_any) fun B G ps σ H hn C S Q q => h B G ps σ H hn C S _ fun vs G1 ps1 H1 C1 u1 r1 =>
    ⟨sz (by rw [Paired.length r1]; exact Nat.le_of_ble_eq_true hz), C1.newCell a (fun p hp => ⟨vs, upd_same, RepVs.mono ⟨Same.refl _, List.prefix_append _ _⟩ r1⟩) fun v G2 ps2 H2 C2 u2 => q v G2 ps2 H2 C2 (u1.trans u2)⟩
theorem ev_dict0 {n : Nat} (a : AppC cs (.dct []) n cs1) : EV X na (.Dict [] [] pos) sl cs (.cell n) cs1 :=
  ev_of pe_dnewK fun B G ps σ H hn C S Q q => C.newCell a (fun p hp => ⟨[], upd_same, .nil⟩) q

/-! ### items -/
theorem ev_ixT {a b : Expr} {ds : List PyData} {i : Int} {d : PyData} (ha : EV X na a sl cs (.val (.tuple ds)) cs1) (hb : EV X na b sl cs1 (.val (.int i)) cs2) (h : atI ds i = some d) (hs : PlainIx b := by exact fun _ _ => rfl) : EV X na (.Subscript a b pos) sl cs (.val d) cs2 :=
  ev_of (pe_ix ix_tup pe_any pe_any hs) (de_op ha hb fun B G ps H v w hn C r1 r2 Q q => by
    obtain ⟨p, vs, rfl, h1, h2⟩ := Rep.tupI r1
    obtain ⟨j, e1, e2, e3, e4, e5⟩ := atI_get h
    have e6 : ixN ds.length i = some j ∧ ds[j]? = some d := by
      unfold atI at h
      cases q : ixN ds.length i with
      | none => rw [q] at h; cases h
      | some j' =>
        rw [q] at h
        have := (ixN_seq q).1
        rw [this] at e1
        cases e1
        exact ⟨rfl, h⟩
    obtain ⟨z, hz, rz⟩ := h2.get e6.2
    refine ⟨p, vs, i, z, rfl, Rep.intI r2, Same.seqT C.gh h1, ?_, q z G ps H C (Up.refl _ _) rz⟩
    unfold atI
    rw [h2.length, e6.1]
    exact hz)
theorem ev_ixL {a b : Expr} {xs : List SV} {i : Int} (ha : EV X na a sl cs s cs1) (hb : EV X na b sl cs1 (.val (.int i)) cs2) (hl : IsL cs2 s xs) (h : atI xs i = some t) (hs : PlainIx b := by exact fun _ _ => rfl) : EV X na (.Subscript a b pos) sl cs t cs2 :=
  ev_of (pe_ix ix_list pe_any pe_any hs) (de_op ha hb fun B G ps H v w hn C r1 r2 Q q => by
    obtain ⟨p, vs, rfl, h1, h2⟩ := hl.sq C r1
    cases q' : ixN xs.length i with
    | none => unfold atI at h; rw [q'] at h; cases h
    | some j =>
      have h' : xs[j]? = some t := by unfold atI at h; rw [q'] at h; exact h
      obtain ⟨z, hz, rz⟩ := pd_get h2 h'
      refine ⟨p, vs, i, z, rfl, Rep.intI r2, h1, ?_, q z G ps H C (Up.refl _ _) rz⟩
      unfold atI
      rw [Paired.length h2, q']
      exact hz)
theorem atI_map {ds : List PyData} {i : Int} {d : PyData} (h : atI ds i = some d) : atI (ds.map SV.val) i = some (.val d) := by
  unfold atI at h ⊢
  rw [List.length_map]
  cases q : ixN ds.length i with
  | none => rw [q] at h; cases h
  | some j =>
    rw [q] at h
    show (ds.map SV.val)[j]? = _
    rw [List.getElem?_map, show ds[j]? = some d from h]
    rfl
theorem ev_ixLv {a b : Expr} {ds : List PyData} {i : Int} {d : PyData} (ha : EV X na a sl cs (.val (.list ds)) cs1) (hb : EV X na b sl cs1 (.val (.int i)) cs2) (h : atI ds i = some d) (hs : PlainIx b := by exact fun _ _ => rfl) : EV X na (.Subscript a b pos) sl cs (.val d) cs2 :=
  ev_ixL ha hb .val (atI_map h) hs
/-! ### built-ins by name -/
theorem ev_callB {e : Expr} {es : List Expr} {p : Pos} {id : String} {r : List V → Hp → VK → Prop} {ss : List SV} (hc : CallR X (.builtin id) r) (hv : bootBuiltins x = some (.builtin id)) (hg : Gl X x) (hm : X.mg x = none) (ha : AV X na (e :: es) sl cs ss cs1) (hr : RC X.K na r ss cs1 u cs2)
    (hn : x ≠ "__name__" := by decide) (hdb : (x == ("__debug__" : Str)) = false := by decide) (he : starEach (e :: es) X.env = (false, eval e X.env) :: starEach es X.env := by rfl) (hpl : (backTo pos (starEach es X.env)).any (·.1) = false := by rfl) : EV X na (.Call (.Name x p) (e :: es) [] pos) sl cs u cs2 :=
  ev_of (pe_callB hc hg hm hv pa_any hn hdb he hpl) (de_cb ha hr)
theorem ev_callTy {e : Expr} {es : List Expr} {p : Pos} {T : String} {r : List V → Hp → VK → Prop} {ss : List SV} (hc : CallR X (.type T) r) (hv : bootBuiltins x = some (.type T)) (hg : Gl X x) (hm : X.mg x = none) (ha : AV X na (e :: es) sl cs ss cs1) (hr : RC X.K na r ss cs1 u cs2)
    (hn : x ≠ "__name__" := by decide) (hdb : (x == ("__debug__" : Str)) = false := by decide) (he : starEach (e :: es) X.env = (false, eval e X.env) :: starEach es X.env := by rfl) (hpl : (backTo pos (starEach es X.env)).any (·.1) = false := by rfl) : EV X na (.Call (.Name x p) (e :: es) [] pos) sl cs u cs2 :=
  ev_of (pe_callTy hc hg hm hv pa_any hn hdb he hpl) (de_cb ha hr)
section
variable {a : Expr} {p : Pos}
theorem rc1 {K : PySem.W.Frag} {r : List V → Hp → VK → Prop} (h : ∀ B G ps H v, B.As.length = na → Core K B G ps cs H → RepV K G ps v s → ∀ Q : VK, (∀ z G' ps' H', Core K B G' ps' cs1 H' → Up G ps G' ps' → RepV K G' ps' z u → Q z H') → r [v] H Q) : RC K na r [s] cs u cs1 := fun B G ps H vs hn C rr Q q => by
  cases rr with
  | cons r1 r2 =>
    cases r2
    exact h B G ps H _ hn C r1 Q q
theorem rc_lenL {xs : List SV} (hl : IsL cs s xs) : RC X.K na (fun xs H Q => ∃ p ys, xs = [.ref p] ∧ (SqL X.K H p ys ∨ SqT X.K H p ys) ∧ Q (.int ys.length) H) [s] cs (.val (.int (xs.length : Int))) cs := rc1 fun B G ps H v hn C r1 Q q => by
  obtain ⟨p, ws, rfl, h1, h2⟩ := hl.sq C r1
  exact ⟨p, ws, rfl, .inl h1, q _ G ps H C (Up.refl _ _) (by rw [Paired.length h2]; exact Rep.int _)⟩
theorem rc_lenLv {ds : List PyData} : RC X.K na (fun xs H Q => ∃ p ys, xs = [.ref p] ∧ (SqL X.K H p ys ∨ SqT X.K H p ys) ∧ Q (.int ys.length) H) [.val (.list ds)] cs (.val (.int (ds.length : Int))) cs := by
  have h := rc_lenL (X := X) (na := na) (IsL.val (cs := cs) (ds := ds))
  rw [List.length_map] at h
  exact h
theorem rc_lenT {ds : List PyData} : RC X.K na (fun xs H Q => ∃ p ys, xs = [.ref p] ∧ (SqL X.K H p ys ∨ SqT X.K H p ys) ∧ Q (.int ys.length) H) [.val (.tuple ds)] cs (.val (.int (ds.length : Int))) cs := rc1 fun B G ps H v hn C r1 Q q => by
  obtain ⟨p, ws, rfl, h1, h2⟩ := Rep.tupI r1
  exact ⟨p, ws, rfl, .inr (Same.seqT C.gh h1), q _ G ps H C (Up.refl _ _) (by rw [h2.length]; exact Rep.int _)⟩
theorem ev_len (hm : X.mg "len" = none) (hg : Gl X "len") (ha : EV X na a sl cs s cs1) (hr : RC X.K na (fun xs H Q => ∃ p ys, xs = [.ref p] ∧ (SqL X.K H p ys ∨ SqT X.K H p ys) ∧ Q (.int ys.length) H) [s] cs1 u cs1)
    (hs : starEach [a] X.env = (false, eval a X.env) :: starEach [] X.env := by rfl) : EV X na (.Call (.Name "len" p) [a] [] pos) sl cs u cs1 :=
  ev_callB call_len_seq boot_len hg hm (av_cons ha av_nil hs) hr (by decide) (by decide) hs
/-- tuple(x) of a list, of a tuple -/
theorem ev_tupleL {ds : List PyData} (hm : X.mg "tuple" = none) (hg : Gl X "tuple") (ha : EV X na a sl cs s cs1) (hl : IsL cs1 s (ds.map SV.val)) (hs : starEach [a] X.env = (false, eval a X.env) :: starEach [] X.env := by rfl) : EV X na (.Call (.Name "tuple" p) [a] [] pos) sl cs (.val (.tuple ds)) cs1 :=
  ev_callTy call_tuple_of (by decide +kernel) hg hm (av_cons ha av_nil hs) (rc1 fun B G ps H v hn C r1 Q q => by
    obtain ⟨p, ws, rfl, h1, h2⟩ := hl.sq C r1
    exact ⟨p, ws, rfl, .inl ⟨h1, C.newTup (Reps.ofVs h2) q⟩⟩) (by decide) (by decide) hs
theorem ev_tupleT {ds : List PyData} (hm : X.mg "tuple" = none) (hg : Gl X "tuple") (ha : EV X na a sl cs (.val (.tuple ds)) cs1) (hs : starEach [a] X.env = (false, eval a X.env) :: starEach [] X.env := by rfl) : EV X na (.Call (.Name "tuple" p) [a] [] pos) sl cs (.val (.tuple ds)) cs1 :=
  ev_callTy call_tuple_of (by decide +kernel) hg hm (av_cons ha av_nil hs) (rc1 fun B G ps H v hn C r1 Q q => by
    have r0 := r1
    obtain ⟨p, ws, rfl, h1, h2⟩ := Rep.tupI r1
    exact ⟨p, ws, rfl, .inr ⟨Same.seqT C.gh h1, q _ G ps H C (Up.refl _ _) r0⟩⟩) (by decide) (by decide) hs
/-- list(x): of a list or a tuple -/
inductive IsQ (cs : Cs) : SV → List SV → Prop
  | l {s : SV} {xs : List SV} : IsL cs s xs → IsQ cs s xs
  | t {ds : List PyData} : IsQ cs (.val (.tuple ds)) (ds.map SV.val)
theorem IsQ.sq {K : PySem.W.Frag} {B : Bs} {G : Hp} {ps : List Addr} {H : Hp} {v : V} {xs : List SV} (C : Core K B G ps cs H) (r : RepV K G ps v s) (h : IsQ cs s xs) : ∃ a vs, v = .ref a ∧ (SqL K H a vs ∨ SqT K H a vs) ∧ RepVs K G ps vs xs := by
  cases h with
  | l h =>
    obtain ⟨a, vs, e, h1, h2⟩ := h.sq C r
    exact ⟨a, vs, e, .inl h1, h2⟩
  | t =>
    obtain ⟨a, vs, e, h1, h2⟩ := Rep.tupI r
    exact ⟨a, vs, e, .inr (Same.seqT C.gh h1), Reps.vs h2⟩
theorem ev_listC {xs : List SV} {n : Nat} (hm : X.mg "list" = none) (hg : Gl X "list") (ha : EV X na a sl cs s cs1) (hl : IsQ cs1 s xs) (ac : AppC cs1 (.lst xs) n cs2) (hs : starEach [a] X.env = (false, eval a X.env) :: starEach [] X.env := by rfl) : EV X na (.Call (.Name "list" p) [a] [] pos) sl cs (.cell n) cs2 :=
  ev_callTy call_list_of (by decide +kernel) hg hm (av_cons ha av_nil hs) (rc1 fun B G ps H v hn C r1 Q q => by
    obtain ⟨p, ws, rfl, h1, h2⟩ := hl.sq C r1
    exact ⟨p, ws, rfl, h1, C.newCell ac (fun p hp => ⟨ws, upd_same, RepVs.mono ⟨Same.refl _, List.prefix_append _ _⟩ h2⟩) q⟩) (by decide) (by decide) hs
theorem ev_listV {ds : List PyData} (hm : X.mg "list" = none) (hg : Gl X "list") (ha : EV X na a sl cs s cs1) (hl : IsQ cs1 s (ds.map SV.val)) (hs : starEach [a] X.env = (false, eval a X.env) :: starEach [] X.env := by rfl) : EV X na (.Call (.Name "list" p) [a] [] pos) sl cs (.val (.list ds)) cs1 :=
  ev_callTy call_list_of (by decide +kernel) hg hm (av_cons ha av_nil hs) (rc1 fun B G ps H v hn C r1 Q q => by
    obtain ⟨p, ws, rfl, h1, h2⟩ := hl.sq C r1
    exact ⟨p, ws, rfl, h1, C.newLst (Reps.ofVs h2) q⟩) (by decide) (by decide) hs
theorem rc_ints2 {K : PySem.W.Frag} {i j : Int} {f : Int → Int → Int} : RC K na (fun xs H Q => ∃ i j, xs = [.int i, .int j] ∧ Q (.int (f i j)) H) [.val (.int i), .val (.int j)] cs (.val (.int (f i j))) cs := fun B G ps H vs hn C r Q q => by
  cases r with
  | cons r1 r2 =>
    cases r2 with
    | cons r2 r3 =>
      cases r3
      exact ⟨i, j, by rw [Rep.intI r1, Rep.intI r2], q _ G ps H C (Up.refl _ _) (Rep.int _)⟩
theorem ev_max2 {b : Expr} {i j : Int} (hc : X.calm = true) (hm : X.mg "max" = none) (hg : Gl X "max") (ha : EV X na a sl cs (.val (.int i)) cs1) (hb : EV X na b sl cs1 (.val (.int j)) cs2) (hs : starEach [a, b] X.env = (false, eval a X.env) :: starEach [b] X.env := by rfl)
    (hs2 : starEach [b] X.env = (false, eval b X.env) :: starEach [] X.env := by rfl) (hpl : (backTo pos (starEach [b] X.env)).any (·.1) = false := by rfl) : EV X na (.Call (.Name "max" p) [a, b] [] pos) sl cs (.val (.int (if j > i then j else i))) cs2 :=
  ev_callB (call_max2 hc) (by decide +kernel) hg hm (av_cons ha (av_cons hb av_nil hs2) hs) (rc_ints2 (f := fun i j => if j > i then j else i)) (by decide) (by decide) hs hpl
theorem ev_min2 {b : Expr} {i j : Int} (hc : X.calm = true) (hm : X.mg "min" = none) (hg : Gl X "min") (ha : EV X na a sl cs (.val (.int i)) cs1) (hb : EV X na b sl cs1 (.val (.int j)) cs2) (hs : starEach [a, b] X.env = (false, eval a X.env) :: starEach [b] X.env := by rfl)
    (hs2 : starEach [b] X.env = (false, eval b X.env) :: starEach [] X.env := by rfl) (hpl : (backTo pos (starEach [b] X.env)).any (·.1) = false := by rfl) : EV X na (.Call (.Name "min" p) [a, b] [] pos) sl cs (.val (.int (if j < i then j else i))) cs2 :=
  ev_callB (call_min2 hc) (by decide +kernel) hg hm (av_cons ha (av_cons hb av_nil hs2) hs) (rc_ints2 (f := fun i j => if j < i then j else i)) (by decide) (by decide) hs hpl
/-- int(x) of a truth, of an int -/
theorem ev_intB {k : Bool} (hm : X.mg "int" = none) (hg : Gl X "int") (ha : EV X na a sl cs (.val (.bool k)) cs1) (hs : starEach [a] X.env = (false, eval a X.env) :: starEach [] X.env := by rfl) : EV X na (.Call (.Name "int" p) [a] [] pos) sl cs (.val (.int (if k then 1 else 0))) cs1 :=
  ev_callTy call_int1 (by decide +kernel) hg hm (av_cons ha av_nil hs) (rc1 fun B G ps H v hn C r1 Q q => .inr ⟨k, by rw [Rep.boolI r1], q _ G ps H C (Up.refl _ _) (Rep.int _)⟩) (by decide) (by decide) hs
end
/-! ### methods of a list, stores -/
theorem ev_append {o e : Expr} {apos : Pos} {k : Nat} {xs ys : List SV} (ho : EV X na o sl cs (.cell k) cs1) (he : EV X na e sl cs1 s cs2) (hc1 : cs1[k]? = some (.lst ys)) (hc : cs2[k]? = some (.lst xs)) (p : PutC cs2 k (.lst (xs ++ [s])) cs3) (hz : xs.length ≤ 1000000)
    (hs : starEach [e] X.env = (false, eval e X.env) :: starEach [] X.env := by rfl)
    (hbase : attributeBase o "append" X.env (eval o X.env) = eval o X.env := by rfl) (hfew : ((backTo pos (starEach (e :: []) X.env)).all (fun x => !x.1) && (backToKw pos (keywordEach [] X.env)).all (fun x => x.1.isSome)
      && decide ((e :: []).length + ([] : List Keyword).length + (if ([] : List Keyword).isEmpty then 0 else 1) < 30)) = true := by rfl)
    (hline : (apos.endLine == pos.line) = true := by rfl) (hplain : (backTo pos (starEach [] X.env)).any (·.1) = false := by rfl) :
    EV X na (.Call (.Attribute o "append" apos) [e] [] pos) sl cs (.val .none) cs3 :=
  ev_of (pe_bm PySem.F.plainAttrs_list PySem.F.slot_list_append PySem.F.type_list_append mt_append pe_any pa_any hbase hfew hline hs hplain) fun B G ps σ H hn C S Q q => ho B G ps σ H hn C S _ fun v G1 ps1 H1 C1 u1 r1 => by
    obtain ⟨a, ea, rfl⟩ := r1
    obtain ⟨ws, hw, _⟩ := (C1.cell k a _ ea hc1).1
    refine ⟨.inl ⟨rfl, ws, SqL.of hw⟩, av_cons he av_nil hs B G1 ps1 σ H1 hn C1 (Slots.mono u1 S) _ fun vs G2 ps2 H2 C2 u2 r2 => ?_⟩
    cases r2 with
    | cons r2 r3 =>
      cases r3
      have ea2 := pre_get u2.p ea
      obtain ⟨zs, hz2, rz⟩ := (C2.cell k a _ ea2 hc).1
      rw [p.at] at q
      exact ⟨a, zs, _, rfl, rfl, hz2, szl (by rw [Paired.length rz]; exact hz), q _ G2 ps2 _ (C2.put ea2 hc (by intro z; cases z) ⟨_, upd_same, pd_app rz (.cons r2 .nil)⟩) (u1.trans u2) Rep.non⟩
/-- xs[i] = v -/
theorem s1_lput {o i v : Expr} {p2 : Pos} {k j : Nat} {xs : List SV} {z : Int} (hv : EV X na v sl cs s cs1) (ho : EV X na o sl cs1 (.cell k) cs2) (hi : EV X na i sl cs2 (.val (.int z)) cs2) (hc : cs2[k]? = some (.lst xs)) (hj : ixN xs.length z = some j) (p : PutC cs2 k (.lst (xs.set j s)) cs3) (q : E.nx sl cs3)
    (hs : swapsWithSole [.Subscript o i p2] v pos.line X.env = pure false := by rfl) (hw : swappedStores [.Subscript o i p2] v X.env = pure none := by rfl)
    (h1 : (assignEach [.Subscript o i p2] X.env).map (·.2) = [assign (.Subscript o i p2) X.env] := by rfl)
    (ha : ∀ v, assign (.Subscript o i p2) X.env v = (do
      let ov ← holding [v] (eval o X.env)
      let iv ← holding [v, ov] (eval i X.env)
      standAt p2
      holding [v, ov, iv] (setItem ov iv v)
      release [v, ov, iv] []) := by intro _; rfl) : S1 X na (.Assign [.Subscript o i p2] v pos) sl cs E :=
  s1_of (ps_asg pe_any (pg_sub pe_any pe_any set_list ha) hs hw h1) fun B G ps σ H hn C S D L => hv B G ps σ H hn C S _ fun w G1 ps1 H1 C1 u1 r1 =>
    ho B G1 ps1 σ H1 hn C1 (Slots.mono u1 S) _ fun w2 G2 ps2 H2 C2 u2 r2 => hi B G2 ps2 σ H2 hn C2 (Slots.mono (u1.trans u2) S) _ fun w3 G3 ps3 H3 C3 u3 r3 => by
      have r2' := RepV.mono u3 r2
      obtain ⟨a, rfl, ea, ws, hws, rws⟩ := C3.cellAt r2' hc
      refine ⟨a, ws, z, j, rfl, Rep.intI r3, hws, by rw [Paired.length rws]; exact hj, ?_⟩
      rw [p.at] at q
      exact L.nx sl _ G3 ps3 σ _ (C3.put (c' := .lst (xs.set j s)) ea hc (by intro z; cases z) ⟨_, upd_same, pd_set (RepV.mono (u2.trans u3) r1) j rws⟩) ((u1.trans u2).trans u3) (Slots.mono ((u1.trans u2).trans u3) S) q
end
end DL
namespace DL
open PySem PySem.Spec PyProof.Rows L2

/-! ### cells that hold data alone -/
def SV.isVal : SV → Bool
  | .val _ => true
  | .cell _ => false
def CC.flat : CC → Bool
  | .lst xs => xs.all SV.isVal
  | .dct kvs => kvs.all fun kv => SV.isVal kv.2
  | .ins _ fs => fs.all fun kv => SV.isVal kv.2
  | .dead => true
  | .frz _ _ kvs => kvs.all fun kv => SV.isVal kv.2
  | .tup xs => xs.all SV.isVal
section
variable {K : PySem.W.Frag} {G G' : Hp} {ps ps' : List Addr} {H H' : Hp} {B : Bs} {cs cs' : Cs}
theorem RepV.flat {v : V} : ∀ {s : SV}, RepV K G ps v s → s.isVal = true → RepV K G ps' v s
  | .val _, h, _ => h
  | .cell _, _, l => by cases l
theorem RepVs.flat : ∀ {vs : List V} {ss : List SV}, RepVs K G ps vs ss → ss.all SV.isVal = true → RepVs K G ps' vs ss
  | _, _, .nil, _ => .nil
  | _, _, .cons h t, l => by
    rw [List.all_cons, Bool.and_eq_true] at l
    exact .cons (RepV.flat h l.1) (RepVs.flat t l.2)
theorem RepKs.flat {κ : Type} : ∀ {vs : List (κ × V)} {ss : List (κ × SV)}, RepKs K G ps vs ss → (ss.all fun kv => SV.isVal kv.2) = true → RepKs K G ps' vs ss
  | _, _, .nil, _ => .nil
  | _, _, .cons h t, l => by
    rw [List.all_cons, Bool.and_eq_true] at l
    exact .cons ⟨h.1, RepV.flat h.2 l.1⟩ (RepKs.flat t l.2)
theorem RepC.flat {p : Addr} {c : CC} (h : RepC K G ps H p c) (l : c.flat = true) : RepC K G ps' H p c := by
  cases c with
  | lst xs => obtain ⟨vs, e, r⟩ := h; exact ⟨vs, e, RepVs.flat r l⟩
  | dct xs => obtain ⟨vs, e, r⟩ := h; exact ⟨vs, e, RepKs.flat r l⟩
  | ins _ _ => obtain ⟨dx, vs, e, r⟩ := h; exact ⟨dx, vs, e, RepKs.flat r l⟩
  | dead => exact h
  | frz _ _ _ => exact ⟨h.1, RepKs.flat h.2 l⟩
  | tup xs => obtain ⟨vs, e, r⟩ := h; exact ⟨vs, e, RepVs.flat r l⟩
end
def pick (ps : List Addr) (κ : List Nat) : List Addr := κ.map fun k => ps.getD k 0
/-! ### cells within cells: numbers exchanged -/
def SV.ren (f : Nat → Nat) : SV → SV
  | .val d => .val d
  | .cell k => .cell (f k)
def CC.ren (f : Nat → Nat) : CC → CC
  | .lst xs => .lst (xs.map (SV.ren f))
  | .dct kvs => .dct (kvs.map fun kv => (kv.1, SV.ren f kv.2))
  | .ins C fs => .ins C (fs.map fun kv => (kv.1, SV.ren f kv.2))
  | .dead => .dead
  | .frz od us kvs => .frz od us (kvs.map fun kv => (kv.1, SV.ren f kv.2))
  | .tup xs => .tup (xs.map (SV.ren f))
/-- all cells within are among these -/
def SV.amid (P : Nat → Bool) : SV → Bool
  | .val _ => true
  | .cell k => P k
def CC.amid (P : Nat → Bool) : CC → Bool
  | .lst xs => xs.all (SV.amid P)
  | .dct kvs => kvs.all fun kv => SV.amid P kv.2
  | .ins _ fs => fs.all fun kv => SV.amid P kv.2
  | .dead => true
  | .frz _ _ kvs => kvs.all fun kv => SV.amid P kv.2
  | .tup xs => xs.all (SV.amid P)
section
variable {K : PySem.W.Frag} {G G' : Hp} {ps ps' : List Addr} {H H' : Hp} {B : Bs} {cs cs' : Cs} {f : Nat → Nat} {P : Nat → Bool}
theorem RepV.ren (hf : ∀ k p, P k = true → ps[k]? = some p → ps'[f k]? = some p) {v : V} : ∀ {s : SV}, RepV K G ps v s → s.amid P = true → RepV K G ps' v (s.ren f)
  | .val _, h, _ => h
  | .cell k, ⟨p, e, hv⟩, l => ⟨p, hf k p l e, hv⟩
theorem RepVs.ren (hf : ∀ k p, P k = true → ps[k]? = some p → ps'[f k]? = some p) : ∀ {vs : List V} {ss : List SV}, RepVs K G ps vs ss → ss.all (SV.amid P) = true → RepVs K G ps' vs (ss.map (SV.ren f))
  | _, _, .nil, _ => .nil
  | _, _, .cons h t, l => by
    rw [List.all_cons, Bool.and_eq_true] at l
    exact .cons (RepV.ren hf h l.1) (RepVs.ren hf t l.2)
theorem RepKs.ren {κ : Type} (hf : ∀ k p, P k = true → ps[k]? = some p → ps'[f k]? = some p) : ∀ {vs : List (κ × V)} {ss : List (κ × SV)}, RepKs K G ps vs ss → (ss.all fun kv => SV.amid P kv.2) = true → RepKs K G ps' vs (ss.map fun kv => (kv.1, SV.ren f kv.2))
  | _, _, .nil, _ => .nil
  | _, _, .cons h t, l => by
    rw [List.all_cons, Bool.and_eq_true] at l
    exact .cons ⟨h.1, RepV.ren hf h.2 l.1⟩ (RepKs.ren hf t l.2)
theorem RepC.ren (hf : ∀ k p, P k = true → ps[k]? = some p → ps'[f k]? = some p) {p : Addr} {c : CC} (h : RepC K G ps H p c) (l : c.amid P = true) : RepC K G ps' H p (c.ren f) := by
  cases c with
  | lst xs => obtain ⟨vs, e, r⟩ := h; exact ⟨vs, e, RepVs.ren hf r l⟩
  | dct xs => obtain ⟨vs, e, r⟩ := h; exact ⟨vs, e, RepKs.ren hf r l⟩
  | ins _ _ => obtain ⟨dx, vs, e, r⟩ := h; exact ⟨dx, vs, e, RepKs.ren hf r l⟩
  | dead => exact h
  | frz _ _ _ => exact ⟨h.1, RepKs.ren hf h.2 l⟩
  | tup xs => obtain ⟨vs, e, r⟩ := h; exact ⟨vs, e, RepVs.ren hf r l⟩
theorem ren_flat {c : CC} (h : c.flat = true) : c.ren f = c ∧ c.amid P = true := by
  have s1 : ∀ s : SV, s.isVal = true → s.ren f = s ∧ s.amid P = true := fun s h => by
    cases s with
    | val _ => exact ⟨rfl, rfl⟩
    | cell _ => cases h
  have l1 : ∀ xs : List SV, xs.all SV.isVal = true → xs.map (SV.ren f) = xs ∧ xs.all (SV.amid P) = true := fun xs h => by
    rw [List.all_eq_true] at h
    refine ⟨?_, List.all_eq_true.mpr fun x hx => (s1 x (h x hx)).2⟩
    rw [List.map_congr_left (g := id) fun x hx => (s1 x (h x hx)).1, List.map_id]
  have k1 : ∀ {κ : Type} (xs : List (κ × SV)), (xs.all fun kv => SV.isVal kv.2) = true → (xs.map fun kv => (kv.1, SV.ren f kv.2)) = xs ∧ (xs.all fun kv => SV.amid P kv.2) = true := fun xs h => by
    rw [List.all_eq_true] at h
    refine ⟨?_, List.all_eq_true.mpr fun x hx => (s1 x.2 (h x hx)).2⟩
    rw [List.map_congr_left (g := id) fun x hx => by rw [(s1 x.2 (h x hx)).1]; rfl, List.map_id]
  cases c with
  | lst xs => exact ⟨congrArg CC.lst (l1 xs h).1, (l1 xs h).2⟩
  | dct xs => exact ⟨congrArg CC.dct (k1 xs h).1, (k1 xs h).2⟩
  | ins C xs => exact ⟨congrArg (CC.ins C) (k1 xs h).1, (k1 xs h).2⟩
  | dead => exact ⟨rfl, rfl⟩
  | frz a b xs => exact ⟨congrArg (CC.frz a b) (k1 xs h).1, (k1 xs h).2⟩
  | tup xs => exact ⟨congrArg CC.tup (l1 xs h).1, (l1 xs h).2⟩
/-- c is told as c' when cells are numbered by f; only those of P stand within -/
inductive RenC (P : Nat → Bool) (f : Nat → Nat) : CC → CC → Prop
  | flat {c : CC} : c.flat = true → RenC P f c c
  | ren {c c' : CC} : c.amid P = true → c.ren f = c' → RenC P f c c'
theorem RenC.rep (hf : ∀ k p, P k = true → ps[k]? = some p → ps'[f k]? = some p) {p : Addr} {c c' : CC} (r : RenC P f c c') (h : RepC K G ps H p c) : RepC K G ps' H p c' := by
  cases r with
  | flat l => exact RepC.flat h l
  | ren l e => subst e; exact RepC.ren hf h l
theorem RenC.dead {c c' : CC} (r : RenC P f c c') : c = .dead ↔ c' = .dead := by
  cases r with
  | flat l => exact Iff.rfl
  | ren l e =>
    subst e
    cases c <;> simp [CC.ren]
end

/-- some cells alone, numbered anew -/
inductive SelR (cs : Cs) (κ0 : List Nat) : List Nat → Cs → Prop
  | nil : SelR cs κ0 [] []
  | cons {k : Nat} {c c' : CC} {κ : List Nat} {d : Cs} : cs[k]? = some c → RenC (fun k => κ0.contains k) (fun k => κ0.idxOf k) c c' → SelR cs κ0 κ d → SelR cs κ0 (k :: κ) (c' :: d)
section
variable {K : PySem.W.Frag} {G G' : Hp} {ps ps' : List Addr} {H H' : Hp} {B : Bs} {cs cs' : Cs}
theorem SelR.length {κ0 : List Nat} : ∀ {κ : List Nat} {d : Cs}, SelR cs κ0 κ d → κ.length = d.length
  | _, _, .nil => rfl
  | _, _, .cons _ _ t => congrArg (· + 1) t.length
theorem SelR.get {κ0 : List Nat} : ∀ {κ : List Nat} {d : Cs}, SelR cs κ0 κ d → ∀ {j k : Nat}, κ[j]? = some k → ∃ c c', d[j]? = some c' ∧ cs[k]? = some c ∧ RenC (fun k => κ0.contains k) (fun k => κ0.idxOf k) c c'
  | _, _, .nil, j, k, h => by simp at h
  | _, _, .cons a b t, 0, k, h => by
    simp at h
    subst h
    exact ⟨_, _, rfl, a, b⟩
  | _, _, .cons a b t, j + 1, k, h => by
    obtain ⟨c, c', h1, h2⟩ := t.get (j := j) (k := k) (by simpa using h)
    exact ⟨c, c', by simpa using h1, h2⟩
theorem pick_at (C : Core K B G ps cs H) {κ0 κ : List Nat} {d : Cs} (S : SelR cs κ0 κ d) {j : Nat} {p : Addr} (h : (pick ps κ)[j]? = some p) : ∃ k c c', κ[j]? = some k ∧ ps[k]? = some p ∧ d[j]? = some c' ∧ cs[k]? = some c ∧ RenC (fun k => κ0.contains k) (fun k => κ0.idxOf k) c c' := by
  unfold pick at h
  rw [List.getElem?_map] at h
  cases hk : κ[j]? with
  | none => rw [hk] at h; cases h
  | some k =>
    rw [hk] at h
    obtain ⟨c, c', h1, h2, h3⟩ := S.get hk
    obtain ⟨q, hq⟩ := C.addr h2
    have e : ps.getD k 0 = q := by simp [List.getD, hq]
    have h' : some (ps.getD k 0) = some p := h
    rw [e] at h'
    cases h'
    exact ⟨k, c, c', rfl, hq, h1, h2, h3⟩
theorem pickR_nd (C : Core K B G ps cs H) {κ0 : List Nat} : ∀ {κ : List Nat} {d : Cs}, SelR cs κ0 κ d → κ.Nodup → (pick ps κ).Nodup
  | _, _, .nil, _ => List.Pairwise.nil
  | k :: κ, _ :: d, .cons a b t, nd => by
    obtain ⟨n1, n2⟩ := List.nodup_cons.mp nd
    refine List.nodup_cons.mpr ⟨fun m => ?_, pickR_nd C t n2⟩
    obtain ⟨j, hj⟩ := List.getElem?_of_mem m
    obtain ⟨k', c', _, h1, h2, _⟩ := pick_at C t hj
    obtain ⟨q, hq⟩ := C.addr a
    have e : ps.getD k 0 = q := by simp [List.getD, hq]
    have h2' : ps[k']? = some (ps.getD k 0) := h2
    rw [e] at h2'
    have := nd_at C.nd hq h2'
    subst this
    exact n1 (List.mem_of_getElem? h1)
theorem pick_idx {κ : List Nat} {k : Nat} {p : Addr} (hk : κ.contains k = true) (e : ps[k]? = some p) : (pick ps κ)[κ.idxOf k]? = some p := by
  have hm : k ∈ κ := by simpa using hk
  have hl := List.idxOf_lt_length_iff.mpr hm
  unfold pick
  rw [List.getElem?_map, List.getElem?_eq_getElem hl, List.getElem_idxOf hl]
  show some (ps.getD k 0) = some p
  simp [List.getD, e]
theorem Core.subG (C : Core K B G ps cs H) {κ : List Nat} {d : Cs} (S : SelR cs κ κ d) (nd : κ.Nodup) (pre : B.As <+: pick ps κ) : Core K B G (pick ps κ) d H where
  g0 := C.g0
  h0 := C.h0
  gh := C.gh
  nw := C.nw
  len := by rw [← S.length]; exact List.length_map _
  pre := pre
  nd := pickR_nd C S nd
  cell j p c e hc := by
    obtain ⟨k, c0, c', h1, h2, h3, h4, h5⟩ := pick_at C S e
    rw [hc] at h3
    cases h3
    obtain ⟨g1, g2, g3⟩ := C.cell k p c0 h2 h4
    exact ⟨RenC.rep (fun k p hk e => pick_idx hk e) h5 g1, g2, g3.imp h5.dead.mp id⟩
end
/-! ### what is walked -/
/-- the items xs come one after another, while the cells are as GC says -/
def DI (K : PySem.W.Frag) (na : Nat) (wi : TI) (sl : Sl) (cs : Cs) (xs : List SV) (GC : Cs → Prop) (cs1 : Cs) : Prop := ∀ B G ps σ H, B.As.length = na → Core K B G ps cs H → Slots K G ps σ sl → ∀ R : It → Hp → Prop,
  (∀ (J : It) (HG : Hp → Prop) (Y : Nat → Hp → V → Hp → Prop) G1 ps1 H1, Core K B G1 ps1 cs1 H1 → Up G ps G1 ps1 → Walk J xs.length HG Y →
    (∀ G' ps' cs' H', Core K B G' ps' cs' H' → Up G1 ps1 G' ps' → GC cs' → HG H') →
    (∀ i H' x H'' G' ps' cs', Y i H' x H'' → Core K B G' ps' cs' H' → Up G1 ps1 G' ps' → GC cs' → ∃ s G'', xs[i]? = some s ∧ Core K B G'' ps' cs' H'' ∧ Up G' ps' G'' ps' ∧ RepV K G'' ps' x s ∧ Same H' H'' ∧ ∀ b, G'' b ≠ none → G' b ≠ none ∨ H' b = none) → R J H1) → wi σ H R
def anyI (X : Cx) (tg iter : Expr) : TI := fun σ H R => ∃ wi, PI X tg iter wi ∧ wi σ H R
theorem pi_any {X : Cx} {tg iter : Expr} : PI X tg iter (anyI X tg iter) := ⟨fun pins s σ H R I ⟨_, p, h⟩ => p.run pins s σ H R I h⟩
def IV (X : Cx) (na : Nat) (tg iter : Expr) (sl : Sl) (cs : Cs) (xs : List SV) (GC : Cs → Prop) (cs1 : Cs) : Prop := DI X.K na (anyI X tg iter) sl cs xs GC cs1
section
variable {X : Cx} {na : Nat} {sl sl' : Sl} {cs cs1 cs2 cs3 : Cs} {s t u : SV} {pos : Pos} {x : Str} {E : DEnds} {N : List Str} {tg iter : Expr} {xs : List SV} {GC : Cs → Prop}
theorem iv_of {wi : TI} (p : PI X tg iter wi) (d : DI X.K na wi sl cs xs GC cs1) : IV X na tg iter sl cs xs GC cs1 := fun B G ps σ H hn C S R r => ⟨wi, p, d B G ps σ H hn C S R r⟩
/-! ### less is known -/
inductive Le : Sl → Sl → Prop
  | nil : Le [] []
  | same {o : Option SV} {a b : Sl} : Le a b → Le (o :: a) (o :: b)
  | lose {o : Option SV} {a b : Sl} : Le a b → Le (none :: a) (o :: b)
theorem Le.refl : ∀ a : Sl, Le a a
  | [] => .nil
  | _ :: r => .same (Le.refl r)
theorem Le.slots {K : PySem.W.Frag} {G : Hp} {ps : List Addr} : ∀ {a b : Sl} {σ : L2.St}, Le a b → Slots K G ps σ b → Slots K G ps σ a
  | _, _, _, .nil, h => h
  | _, _, _, .same l, .cons h t => .cons h (Le.slots l t)
  | _, _, _, .lose l, .cons _ t => .cons (by rename_i a _; cases a <;> trivial) (Le.slots l t)
theorem sx_weak {st : List Stmt} (l : Le sl' sl) (h : SX X na st sl' cs E) : SX X na st sl cs E := fun B G ps σ H hn C S D L => h B G ps σ H hn C (l.slots S) D L
theorem s1_weak {st : Stmt} (l : Le sl' sl) (h : S1 X na st sl' cs E) : S1 X na st sl cs E := fun B G ps σ H hn C S D L => h B G ps σ H hn C (l.slots S) D L
def okS (n : Nat) : Option SV → Bool
  | some s => SV.lt n s
  | none => true
def okA (κ : List Nat) : Option SV → Bool
  | some s => s.amid fun k => κ.contains k
  | none => true
/-- what holds of the slots and of the first n cells -/
inductive At (n : Nat) (a : Sl) (c : Cs) : Sl → Cs → Prop
  | same {b : Sl} : Le a b → At n a c b c
  | drop {b : Sl} {d : Cs} : Le a b → a.all (okS n) = true → c.all (CC.lt n) = true → d.take n = c → At n a c b d
  | gen {a' b : Sl} {d : Cs} (κs κ : List Nat) : Le a' b → List.range n ++ κs = κ → κ.Nodup → SelR d κ κ c → a'.all (okA κ) = true → a'.map (Option.map (SV.ren fun k => κ.idxOf k)) = a → At n a c b d
theorem Slots.ren {K : PySem.W.Frag} {G : Hp} {ps : List Addr} {κ : List Nat} : ∀ {σ : L2.St} {a : Sl}, Slots K G ps σ a → a.all (okA κ) = true → Slots K G (pick ps κ) σ (a.map (Option.map (SV.ren fun k => κ.idxOf k)))
  | _, _, .nil, _ => .nil
  | _, o :: _, .cons h t, l => by
    rw [List.all_cons, Bool.and_eq_true] at l
    refine .cons ?_ (Slots.ren t l.2)
    rename_i v _
    cases o with
    | none => cases v <;> trivial
    | some s =>
      cases v with
      | none => exact h
      | some v => exact RepV.ren (fun k p hk e => pick_idx hk e) h l.1
theorem pick_range {ps1 ps : List Addr} (h : ps1 <+: ps) : pick ps (List.range ps1.length) = ps1 := by
  obtain ⟨t, ht⟩ := h
  apply List.ext_getElem?
  intro i
  unfold pick
  rw [List.getElem?_map]
  by_cases hi : i < ps1.length
  · rw [List.getElem?_range hi, ← ht]
    show some ((ps1 ++ t).getD i 0) = _
    rw [List.getD_eq_getElem?_getD, List.getElem?_append_left hi, List.getElem?_eq_getElem hi]
    rfl
  · rw [List.getElem?_eq_none (by rw [List.length_range]; omega), List.getElem?_eq_none (by omega)]
    rfl
theorem Slots.take {K : PySem.W.Frag} {G : Hp} {ps : List Addr} {n : Nat} : ∀ {σ : L2.St} {a : Sl}, Slots K G ps σ a → a.all (okS n) = true → Slots K G (ps.take n) σ a
  | _, _, .nil, _ => .nil
  | _, o :: _, .cons h t, l => by
    rw [List.all_cons, Bool.and_eq_true] at l
    refine .cons ?_ (Slots.take t l.2)
    rename_i v _
    cases o with
    | none => cases v <;> trivial
    | some s =>
      cases v with
      | none => exact h
      | some v => exact RepV.take h l.1
theorem At.go {K : PySem.W.Frag} {B : Bs} {G1 G : Hp} {ps1 ps : List Addr} {n : Nat} {a b : Sl} {c d : Cs} {σ : L2.St} {H : Hp} (h : At n a c b d) (hn : ps1.length = n) (C : Core K B G ps d H) (hA : B.As.length ≤ n) (u : Up G1 ps1 G ps) (S : Slots K G ps σ b) :
    ∃ G' ps', Core K B G' ps' c H ∧ Up G1 ps1 G' ps' ∧ Slots K G' ps' σ a := by
  cases h with
  | same l => exact ⟨G, ps, C, u, l.slots S⟩
  | drop l h1 h2 h3 =>
    subst h3
    refine ⟨G, ps.take n, C.take hA h2, ⟨u.s, ?_⟩, Slots.take (l.slots S) h1⟩
    obtain ⟨t, e⟩ := u.p
    rw [← e, List.take_append, List.take_of_length_le (Nat.le_of_eq hn)]
    exact List.prefix_append _ _
  | gen κs κ l e nd S0 am e2 =>
    subst e
    subst e2
    subst hn
    have hp := pick_range u.p
    have pre2 : ps1 <+: pick ps (List.range ps1.length ++ κs) := by
      refine ⟨κs.map fun k => ps.getD k 0, ?_⟩
      conv => lhs; rw [← hp]
      unfold pick
      rw [List.map_append]
    have preB : B.As <+: ps1 := List.prefix_of_prefix_length_le C.pre u.p hA
    exact ⟨G, _, C.subG S0 nd (preB.trans pre2), ⟨u.s, pre2⟩, Slots.ren (l.slots S) am⟩
/-- a for; at a turn's end what was made within it is forgotten -/
theorem s1_for {body : List Stmt} (hp : PassesOwn (model X.prog X.w) X.A X.env X.xe) (hc : X.calm = true) (h : IV X na tg iter sl cs xs GC cs1) (I : Nat → Sl → Cs → Prop) (h0 : I 0 sl cs1) (hG : ∀ i sl' cs', I i sl' cs' → GC cs')
    (hs : ∀ i s sl' cs', xs[i]? = some s → I i sl' cs' → GX X na tg s sl' cs' fun sl2 cs2 => SX X na body sl2 cs2 { E with nx := fun sl3 cs3 => ∃ a c, I (i + 1) a c ∧ At cs1.length a c sl3 cs3, ct := fun sl3 cs3 => ∃ a c, I (i + 1) a c ∧ At cs1.length a c sl3 cs3, bk := E.nx })
    (hd : ∀ sl' cs', I xs.length sl' cs' → E.nx sl' cs')
    (hf : ∀ x, foldedSetIterable iter X.env x = pure x := by intro _; rfl) : S1 X na (.For tg iter body [] pos) sl cs E :=
  s1_of (ps_for hp hc pi_any pg_any pss_any hf) fun B G ps σ H hn C S D L => h B G ps σ H hn C S _ fun J HG Y G1 ps1 H1 C1 u1 W hHG hY =>
    have hA : B.As.length ≤ cs1.length := by
      rw [← C1.len]
      exact C1.pre.length_le
    for_it W (fun i σ' H' => ∃ G' ps' sl' cs', Core X.K B G' ps' cs' H' ∧ Up G1 ps1 G' ps' ∧ Slots X.K G' ps' σ' sl' ∧ I i sl' cs')
      ⟨G1, ps1, sl, cs1, C1, Up.refl _ _, Slots.mono u1 S, h0⟩
      (fun i σ' H' hi ⟨G', ps', sl', cs', C', u', S', q⟩ => hHG G' ps' cs' H' C' u' (hG i sl' cs' q))
      (fun i w σ' H' H'' hi ⟨G', ps', sl', cs', C', u', S', q⟩ y => by
        obtain ⟨s, G2, e, C2, u2, r2, _, _⟩ := hY i H' w H'' G' ps' cs' y C' u' (hG i sl' cs' q)
        refine hs i s sl' cs' e q B G2 ps' σ' H'' w hn C2 (Slots.mono u2 S') r2 _ fun sl3 cs3 G3 ps3 σ3 H3 C3 u3 S3 q3 => q3 B G3 ps3 σ3 H3 hn C3 S3 _ ?_
        have u13 : Up G1 ps1 G3 ps3 := (u'.trans u2).trans u3
        have nxt : ∀ sl4 cs4 G4 ps4 σ4 H4, Core X.K B G4 ps4 cs4 H4 → Up G3 ps3 G4 ps4 → Slots X.K G4 ps4 σ4 sl4 → (∃ a c, I (i + 1) a c ∧ At cs1.length a c sl4 cs4) → ∃ G' ps' sl' cs', Core X.K B G' ps' cs' H4 ∧ Up G1 ps1 G' ps' ∧ Slots X.K G' ps' σ4 sl' ∧ I (i + 1) sl' cs' := fun sl4 cs4 G4 ps4 σ4 H4 C4 u4 S4 ⟨a, c, qi, qa⟩ => by
          obtain ⟨G', ps', C', u', S'⟩ := qa.go C1.len C4 hA (u13.trans u4) S4
          exact ⟨G', ps', a, c, C', u', S', qi⟩
        exact ⟨nxt, fun s4 cs4 G4 ps4 v4 H4 C4 u4 r4 q4 => L.rt s4 cs4 G4 ps4 v4 H4 C4 ((u1.trans u13).trans u4) r4 q4,
          fun sl4 cs4 G4 ps4 σ4 H4 C4 u4 S4 q4 => L.nx sl4 cs4 G4 ps4 σ4 H4 C4 ((u1.trans u13).trans u4) S4 q4, nxt⟩)
      (fun σ' H' ⟨G', ps', sl', cs', C', u', S', q⟩ => L.nx sl' cs' G' ps' σ' H' C' (u1.trans u') S' (hd sl' cs' q))
/-- .. the state told by the turn -/
theorem s1_forF {body : List Stmt} (hp : PassesOwn (model X.prog X.w) X.A X.env X.xe) (hc : X.calm = true) (h : IV X na tg iter sl cs xs GC cs1) (a : Nat → Sl) (c : Nat → Cs) (h0 : Le (a 0) sl) (h1 : c 0 = cs1) (hG : ∀ i, i ≤ xs.length → GC (c i))
    (hs : ∀ i s, xs[i]? = some s → GX X na tg s (a i) (c i) fun sl2 cs2 => SX X na body sl2 cs2 { E with nx := At cs1.length (a (i + 1)) (c (i + 1)), ct := At cs1.length (a (i + 1)) (c (i + 1)), bk := E.nx })
    (hd : ∀ sl', Le (a xs.length) sl' → E.nx sl' (c xs.length))
    (hf : ∀ x, foldedSetIterable iter X.env x = pure x := by intro _; rfl) : S1 X na (.For tg iter body [] pos) sl cs E := by
  refine s1_for hp hc h (fun i sl' cs' => i ≤ xs.length ∧ Le (a i) sl' ∧ cs' = c i) ⟨Nat.zero_le _, h0, h1.symm⟩ (fun i sl' cs' ⟨hi, _, e⟩ => e ▸ hG i hi) (fun i s sl' cs' hx ⟨hi, l, e⟩ => ?_) (fun sl' cs' ⟨_, l, e⟩ => ?_) hf
  · subst e
    have hi1 : i + 1 ≤ xs.length := (List.getElem?_eq_some_iff.mp hx).1
    intro B G ps σ H v hn C S r Q q
    refine hs i s hx B G ps σ H v hn C (l.slots S) r Q fun sl3 cs3 G3 ps3 σ3 H3 C3 u3 S3 q3 => q sl3 cs3 G3 ps3 σ3 H3 C3 u3 S3 ?_
    intro B4 G4 ps4 σ4 H4 hn4 C4 S4 D4 L4
    exact q3 B4 G4 ps4 σ4 H4 hn4 C4 S4 D4 ⟨fun sl5 cs5 G5 ps5 σ5 H5 C5 u5 S5 q5 => L4.nx sl5 cs5 G5 ps5 σ5 H5 C5 u5 S5 ⟨_, _, ⟨hi1, Le.refl _, rfl⟩, q5⟩, L4.rt, L4.bk, fun sl5 cs5 G5 ps5 σ5 H5 C5 u5 S5 q5 => L4.ct sl5 cs5 G5 ps5 σ5 H5 C5 u5 S5 ⟨_, _, ⟨hi1, Le.refl _, rfl⟩, q5⟩⟩
  · subst e
    exact hd sl' l
/-- a list, a tuple -/
theorem iv_cell {k : Nat} (h : EV X na iter sl cs (.cell k) cs1) (hl : cs1[k]? = some (.lst xs)) : IV X na tg iter sl cs xs (fun cs' => cs'[k]? = some (.lst xs)) cs1 :=
  iv_of (pi_list pe_any) fun B G ps σ H hn C S R r => h B G ps σ H hn C S _ fun v G1 ps1 H1 C1 u1 r1 => by
    obtain ⟨a, rfl, ea, vs, h1, h2⟩ := C1.cellAt r1 hl
    refine ⟨a, rfl, ⟨vs, SqL.of h1⟩, r _ (fun H => ∃ vs, SqL X.K H a vs ∧ vs.length = xs.length) (fun i H x H' => H' = H ∧ ∀ vs, SqL X.K H a vs → vs[i]? = some x) G1 ps1 H1 C1 u1 ?_ ?_ ?_⟩
    · exact ⟨fun i H hi ⟨vs, q, l⟩ => ⟨vs, vs[i]'(by omega), q, by simp [show i < vs.length by omega]⟩, fun H ⟨vs, q, l⟩ => ⟨vs, q, Nat.le_of_eq l⟩, fun i H x H' hi q y => y⟩
    · intro G' ps' cs' H' C' u' g
      obtain ⟨vs', h1', h2'⟩ := (C'.cell k a _ (pre_get u'.p ea) g).1
      exact ⟨vs', SqL.of h1', Paired.length h2'⟩
    · intro i H' x H'' G' ps' cs' y C' u' g
      obtain ⟨rfl, e⟩ := y
      obtain ⟨vs', h1', h2'⟩ := (C'.cell k a _ (pre_get u'.p ea) g).1
      obtain ⟨s, es, rs⟩ := pd_getL h2' (e vs' (SqL.of h1'))
      exact ⟨s, G', es, C', Up.refl _ _, rs, Same.refl _, fun _ z => .inl z⟩
theorem iv_listV {ds : List PyData} (h : EV X na iter sl cs (.val (.list ds)) cs1) : IV X na tg iter sl cs (ds.map SV.val) (fun _ => True) cs1 :=
  iv_of (pi_list pe_any) fun B G ps σ H hn C S R r => h B G ps σ H hn C S _ fun v G1 ps1 H1 C1 u1 r1 => by
    obtain ⟨a, vs, rfl, h1, h2⟩ := Rep.lstI r1
    refine ⟨a, rfl, ⟨vs, C1.gh.seq h1⟩, r _ _ _ G1 ps1 H1 C1 u1 (by rw [List.length_map, ← h2.length]; exact walk_list) (fun G' ps' cs' H' C' u' g => C'.gh.seq (u'.s.seq h1)) ?_⟩
    intro i H' x H'' G' ps' cs' y C' u' g
    obtain ⟨rfl, e⟩ := y
    obtain ⟨d, ed, rd⟩ := h2.getV e
    exact ⟨.val d, G', by rw [List.getElem?_map, ed]; rfl, C', Up.refl _ _, Rep.mono u'.s rd, Same.refl _, fun _ z => .inl z⟩
theorem iv_tup {ds : List PyData} (h : EV X na iter sl cs (.val (.tuple ds)) cs1) : IV X na tg iter sl cs (ds.map SV.val) (fun _ => True) cs1 :=
  iv_of (pi_tup pe_any) fun B G ps σ H hn C S R r => h B G ps σ H hn C S _ fun v G1 ps1 H1 C1 u1 r1 => by
    obtain ⟨a, vs, rfl, h1, h2⟩ := Rep.tupI r1
    refine ⟨a, rfl, ⟨vs, Same.seqT C1.gh h1⟩, r _ _ _ G1 ps1 H1 C1 u1 (by rw [List.length_map, ← h2.length]; exact walk_tup) (fun G' ps' cs' H' C' u' g => Same.seqT C'.gh (Same.seqT u'.s h1)) ?_⟩
    intro i H' x H'' G' ps' cs' y C' u' g
    obtain ⟨rfl, e⟩ := y
    obtain ⟨d, ed, rd⟩ := h2.getV e
    exact ⟨.val d, G', by rw [List.getElem?_map, ed]; rfl, C', Up.refl _ _, Rep.mono u'.s rd, Same.refl _, fun _ z => .inl z⟩
theorem iv_range1 {a : Expr} {p : Pos} {n : Int} (hm : X.mg "range" = none) (hg : Gl X "range") (h : EV X na a sl cs (.val (.int n)) cs1) (h1 : -(2 ^ 62) ≤ n) (h2 : n < 2 ^ 62) (hs : starEach [a] X.env = [(false, eval a X.env)] := by rfl) :
    IV X na tg (.Call (.Name "range" p) [a] [] pos) sl cs ((List.range n.toNat).map fun i => SV.val (.int (i : Nat))) (fun _ => True) cs1 :=
  iv_of (pi_range1 hg hm pa_any hs) fun B G ps σ H hn C S R r => (av_cons h av_nil hs) B G ps σ H hn C S _ fun vs G1 ps1 H1 C1 u1 r1 => by
    cases r1 with
    | cons r1 r2 =>
      cases r2
      refine ⟨n, by rw [Rep.intI r1], h1, h2, r _ _ _ G1 ps1 H1 C1 u1 (by rw [List.length_map, List.length_range]; exact walk_range.mono (Y' := fun i H x H' => i < n.toNat ∧ YFn (fun i => V.int (0 + i)) i H x H') (fun _ _ => trivial) fun i H x H' hi _ y => ⟨hi, y⟩) (fun _ _ _ _ _ _ _ => trivial) ?_⟩
      intro i H' x H'' G' ps' cs' y C' u' g
      obtain ⟨hi, rfl, e⟩ := y
      exact ⟨.val (.int (i : Nat)), G', by rw [List.getElem?_map, List.getElem?_range hi]; rfl, C', Up.refl _ _, by rw [e]; show RepV X.K G' ps' (.int (0 + (i : Int))) _; rw [Int.zero_add]; exact Rep.int _, Same.refl _, fun _ z => .inl z⟩
theorem iv_range2 {a b : Expr} {p : Pos} {m n : Int} (hm : X.mg "range" = none) (hg : Gl X "range") (h : EV X na a sl cs (.val (.int m)) cs1) (h' : EV X na b sl cs1 (.val (.int n)) cs2) (h1 : -(2 ^ 62) ≤ m ∧ m < 2 ^ 62 ∧ -(2 ^ 62) ≤ n ∧ n < 2 ^ 62)
    (hs : starEach [a, b] X.env = [(false, eval a X.env), (false, eval b X.env)] := by rfl) (hs2 : starEach [b] X.env = [(false, eval b X.env)] := by rfl) :
    IV X na tg (.Call (.Name "range" p) [a, b] [] pos) sl cs ((List.range (n - m).toNat).map fun i => SV.val (.int (m + (i : Nat)))) (fun _ => True) cs2 :=
  iv_of (pi_range2 hg hm pa_any hs hs2) fun B G ps σ H hn C S R r => (av_cons h (av_cons h' av_nil hs2) (by rw [hs, hs2])) B G ps σ H hn C S _ fun vs G1 ps1 H1 C1 u1 r1 => by
    cases r1 with
    | cons r1 r2 =>
      cases r2 with
      | cons r2 r3 =>
      cases r3
      refine ⟨m, n, by rw [Rep.intI r1, Rep.intI r2], h1, r _ _ _ G1 ps1 H1 C1 u1 (by rw [List.length_map, List.length_range]; exact walk_range.mono (Y' := fun i H x H' => i < (n - m).toNat ∧ YFn (fun i => V.int (m + i)) i H x H') (fun _ _ => trivial) fun i H x H' hi _ y => ⟨hi, y⟩) (fun _ _ _ _ _ _ _ => trivial) ?_⟩
      intro i H' x H'' G' ps' cs' y C' u' g
      obtain ⟨hi, rfl, e⟩ := y
      exact ⟨.val (.int (m + (i : Nat))), G', by rw [List.getElem?_map, List.getElem?_range hi]; rfl, C', Up.refl _ _, by rw [e]; exact Rep.int _, Same.refl _, fun _ z => .inl z⟩
/-- while; at a turn's end what was made within it is forgotten -/
theorem s1_while {c : Expr} {body : List Stmt} (hp : PassesOwn (model X.prog X.w) X.A X.env X.xe) (I : Nat → Sl → Cs → Prop) (m0 : Nat) (h0 : I m0 sl cs)
    (hs : ∀ m sl' cs', I m sl' cs' → ∃ k cs2, TV X na c sl' cs' k cs2 ∧ (k = true → SX X na body sl' cs2 { E with nx := fun sl3 cs3 => ∃ m' a c, m' < m ∧ I m' a c ∧ At cs.length a c sl3 cs3, ct := fun sl3 cs3 => ∃ m' a c, m' < m ∧ I m' a c ∧ At cs.length a c sl3 cs3, bk := E.nx }) ∧ (k = false → E.nx sl' cs2)) :
    S1 X na (.While c body [] pos) sl cs E :=
  s1_of (ps_while hp pt_any pss_any) fun B G ps σ H hn C S D L =>
    have hA : B.As.length ≤ cs.length := by
      rw [← C.len]
      exact C.pre.length_le
    ⟨fun m σ' H' => ∃ G' ps' sl' cs', Core X.K B G' ps' cs' H' ∧ Up G ps G' ps' ∧ Slots X.K G' ps' σ' sl' ∧ I m sl' cs', ⟨m0, G, ps, sl, cs, C, Up.refl _ _, S, h0⟩, fun m σ' H' ⟨G', ps', sl', cs', C', u', S', q⟩ => by
      obtain ⟨k, cs2, ht, h1, h2⟩ := hs m sl' cs' q
      refine ht B G' ps' σ' H' hn C' S' _ fun G2 ps2 H2 C2 u2 => ?_
      cases k with
      | false => exact L.nx sl' cs2 G2 ps2 σ' H2 C2 (u'.trans u2) (Slots.mono u2 S') (h2 rfl)
      | true =>
        have u02 := u'.trans u2
        have nxt : ∀ sl4 cs4 G4 ps4 σ4 H4, Core X.K B G4 ps4 cs4 H4 → Up G2 ps2 G4 ps4 → Slots X.K G4 ps4 σ4 sl4 → (∃ m' a c, m' < m ∧ I m' a c ∧ At cs.length a c sl4 cs4) → ∃ m', m' < m ∧ ∃ G' ps' sl' cs', Core X.K B G' ps' cs' H4 ∧ Up G ps G' ps' ∧ Slots X.K G' ps' σ4 sl' ∧ I m' sl' cs' := fun sl4 cs4 G4 ps4 σ4 H4 C4 u4 S4 ⟨m', a, c, l, qi, qa⟩ => by
          obtain ⟨G', ps', C', u', S'⟩ := qa.go C.len C4 hA (u02.trans u4) S4
          exact ⟨m', l, G', ps', a, c, C', u', S', qi⟩
        refine ⟨fun σ3 H3 => ∃ m', m' < m ∧ ∃ G' ps' sl' cs', Core X.K B G' ps' cs' H3 ∧ Up G ps G' ps' ∧ Slots X.K G' ps' σ3 sl' ∧ I m' sl' cs', fun σ3 H3 h => h, h1 rfl B G2 ps2 σ' H2 hn C2 (Slots.mono u2 S') _ ?_⟩
        exact ⟨nxt, fun s4 cs4 G4 ps4 v4 H4 C4 u4 r4 q4 => L.rt s4 cs4 G4 ps4 v4 H4 C4 (u02.trans u4) r4 q4,
          fun sl4 cs4 G4 ps4 σ4 H4 C4 u4 S4 q4 => L.nx sl4 cs4 G4 ps4 σ4 H4 C4 (u02.trans u4) S4 q4, nxt⟩⟩
end
end DL
namespace DL
open PySem PySem.Spec PyProof.Rows L2

/-! ### what a def promises -/
/-- for arguments and cells as told the def gives s, the cells are cs' then -/
abbrev Spec := List SV → Cs → SV → Cs → Prop
def spM (K : PySem.W.Frag) (n : Nat) (spec : Spec) : Sp := fun vs H Q _ => ∃ G ps svs cs s cs', spec svs cs s cs' ∧ svs.length = n ∧ Core K ⟨G, H, ps⟩ G ps cs H ∧ RepVs K G ps vs svs ∧
  ∀ v G' ps' H', Core K ⟨G, H, ps⟩ G' ps' cs' H' → Up G ps G' ps' → RepV K G' ps' v s → Q v H'
structure Cal (P : Program) (w : World) (K : PySem.W.Frag) (mg : Str → Option Value) (base : Heap) (k : Nat) (x : Str) (n : Nat) (spec : Spec) : Prop where
  ex : ∃ (f : Addr) (fd : FuncData) (ps : List Str), FnOk P w K mg base CX0 k f fd ps (spM K n spec) ∧ mg x = some (.ref f) ∧ PySem.W.keepIn K (.ref f) = true ∧ Binds K fd ps []
theorem Cal.mono {P : Program} {w : World} {K : PySem.W.Frag} {mg : Str → Option Value} {base : Heap} {j k n : Nat} {x : Str} {spec : Spec} (c : Cal P w K mg base j x n spec) (h : j ≤ k) : Cal P w K mg base k x n spec := by
  obtain ⟨f, fd, ps, F, r⟩ := c.ex
  exact ⟨f, fd, ps, F.mono h, r⟩
theorem Cal.imp {P : Program} {w : World} {K : PySem.W.Frag} {mg : Str → Option Value} {base : Heap} {k n : Nat} {x : Str} {spec spec' : Spec} (c : Cal P w K mg base k x n spec) (h : ∀ a b s d, spec' a b s d → spec a b s d) : Cal P w K mg base k x n spec' := by
  obtain ⟨f, fd, ps, F, r⟩ := c.ex
  exact ⟨f, fd, ps, F.imp fun vs H Q E ⟨G, qs, svs, cs, s, cs', q, r⟩ => ⟨G, qs, svs, cs, s, cs', h _ _ _ _ q, r⟩, r⟩

section
variable {K : PySem.W.Frag} {G G' : Hp} {ps ps' : List Addr} {H H' : Hp} {B : Bs} {cs cs' : Cs}
/-! ### some of the cells are handed on -/
inductive Sel (cs : Cs) : List Nat → Cs → Prop
  | nil : Sel cs [] []
  | cons {k : Nat} {c : CC} {κ : List Nat} {d : Cs} : cs[k]? = some c → c.flat = true → c ≠ .dead → Sel cs κ d → Sel cs (k :: κ) (c :: d)
inductive SetA : Cs → List Nat → Cs → Cs → Prop
  | nil {cs : Cs} : SetA cs [] [] cs
  | cons {cs cs1 cs2 : Cs} {k : Nat} {c : CC} {κ : List Nat} {d : Cs} : PutC cs k c cs1 → SetA cs1 κ d cs2 → SetA cs (k :: κ) (c :: d) cs2
theorem SetA.get : ∀ {cs cs2 : Cs} {κ : List Nat} {d : Cs}, SetA cs κ d cs2 → κ.Nodup → ∀ {i : Nat} {c : CC}, cs2[i]? = some c → (∃ j : Nat, κ[j]? = some i ∧ d[j]? = some c) ∨ (i ∉ κ ∧ cs[i]? = some c)
  | _, _, _, _, .nil, _, i, c, h => .inr ⟨List.not_mem_nil, h⟩
  | _, _, k :: κ, _ :: d, .cons p t, nd, i, c, h => by
    obtain ⟨n1, n2⟩ := List.nodup_cons.mp nd
    rcases t.get n2 h with ⟨j, h1, h2⟩ | ⟨h1, h2⟩
    · exact .inl ⟨j + 1, by simpa using h1, by simpa using h2⟩
    · rw [p.at] at h2
      by_cases e : i = k
      · subst e
        have hl : i < _ := (List.getElem?_eq_some_iff.mp h2).1
        rw [List.length_set] at hl
        rw [List.getElem?_set_self hl] at h2
        exact .inl ⟨0, rfl, h2⟩
      · rw [List.getElem?_set_ne (Ne.symm e)] at h2
        exact .inr ⟨fun m => (List.mem_cons.mp m).elim e h1, h2⟩
theorem SetA.length : ∀ {cs cs2 : Cs} {κ : List Nat} {d : Cs}, SetA cs κ d cs2 → cs2.length = cs.length ∧ κ.length = d.length
  | _, _, _, _, .nil => ⟨rfl, rfl⟩
  | _, _, _, _, .cons p t => by
    obtain ⟨a, b⟩ := t.length
    rw [p.at, List.length_set] at a
    exact ⟨a, congrArg (· + 1) b⟩
theorem Sel.get : ∀ {κ : List Nat} {d : Cs}, Sel cs κ d → ∀ {j k : Nat}, κ[j]? = some k → ∃ c, d[j]? = some c ∧ cs[k]? = some c ∧ c.flat = true ∧ c ≠ .dead
  | _, _, .nil, j, k, h => by simp at h
  | _, _, .cons a b c t, 0, k, h => by
    simp at h
    subst h
    exact ⟨_, rfl, a, b, c⟩
  | _, _, .cons a b c t, j + 1, k, h => by
    obtain ⟨c, h1, h2⟩ := t.get (j := j) (k := k) (by simpa using h)
    exact ⟨c, by simpa using h1, h2⟩
theorem Sel.length : ∀ {κ : List Nat} {d : Cs}, Sel cs κ d → κ.length = d.length
  | _, _, .nil => rfl
  | _, _, .cons _ _ _ t => congrArg (· + 1) t.length
theorem pick_get (C : Core K B G ps cs H) {κ : List Nat} {d : Cs} (S : Sel cs κ d) {j : Nat} {p : Addr} (h : (pick ps κ)[j]? = some p) : ∃ k c, κ[j]? = some k ∧ ps[k]? = some p ∧ d[j]? = some c ∧ cs[k]? = some c ∧ c.flat = true ∧ c ≠ .dead := by
  unfold pick at h
  rw [List.getElem?_map] at h
  cases hk : κ[j]? with
  | none => rw [hk] at h; cases h
  | some k =>
    rw [hk] at h
    obtain ⟨c, h1, h2, h3, h4⟩ := S.get hk
    obtain ⟨q, hq⟩ := C.addr h2
    have e : ps.getD k 0 = q := by simp [List.getD, hq]
    have h' : some (ps.getD k 0) = some p := h
    rw [e] at h'
    cases h'
    exact ⟨k, c, rfl, hq, h1, h2, h3, h4⟩
theorem pick_nd (C : Core K B G ps cs H) : ∀ {κ : List Nat} {d : Cs}, Sel cs κ d → κ.Nodup → (pick ps κ).Nodup
  | _, _, .nil, _ => List.Pairwise.nil
  | k :: κ, _ :: d, .cons a b c t, nd => by
    obtain ⟨n1, n2⟩ := List.nodup_cons.mp nd
    refine List.nodup_cons.mpr ⟨fun m => ?_, pick_nd C t n2⟩
    obtain ⟨j, hj⟩ := List.getElem?_of_mem m
    obtain ⟨k', c', h1, h2, _⟩ := pick_get C t hj
    obtain ⟨q, hq⟩ := C.addr a
    have e : ps.getD k 0 = q := by simp [List.getD, hq]
    have h2' : ps[k']? = some (ps.getD k 0) := h2
    rw [e] at h2'
    have := nd_at C.nd hq h2'
    subst this
    exact n1 (List.mem_of_getElem? h1)
/-- the cells of a call -/
theorem Core.enter (C : Core K B G ps cs H) {κ : List Nat} {d : Cs} (S : Sel cs κ d) (nd : κ.Nodup) : Core K ⟨G, H, pick ps κ⟩ G (pick ps κ) d H where
  g0 := Same.refl _
  h0 _ _ e _ := e
  gh := C.gh
  nw _ e := .inl e
  len := by rw [← S.length]; exact List.length_map _
  pre := List.prefix_refl _
  nd := pick_nd C S nd
  cell j p c e hc := by
    obtain ⟨k, c', h1, h2, h3, h4, h5, h6⟩ := pick_get C S e
    rw [hc] at h3
    cases h3
    obtain ⟨g1, g2, g3⟩ := C.cell k p c h2 h4
    exact ⟨RepC.flat g1 h5, .inr (List.mem_of_getElem? e), .inr (g3.elim (fun z => (h6 z).elim) id)⟩
/-- .. and behind it -/
theorem Core.leave (C : Core K B G ps cs H) {κ : List Nat} {d d' : Cs} {cs2 : Cs} (S : Sel cs κ d) (nd : κ.Nodup) (C' : Core K ⟨G, H, pick ps κ⟩ G' ps' cs' H') (hp : d' <+: cs') (hf : d'.all CC.flat = true) (hs : SetA cs κ d' cs2) : Core K B G' ps cs2 H' := by
  have inPick : ∀ {k p}, k ∈ κ → ps[k]? = some p → p ∈ pick ps κ := fun {k p} hk hp => List.mem_map.mpr ⟨k, hk, by simp [List.getD, hp]⟩
  have ofPick : ∀ {p}, p ∈ pick ps κ → p ∈ ps := fun {p} m => by
    obtain ⟨j, hj⟩ := List.getElem?_of_mem m
    obtain ⟨k, _, _, h, _⟩ := pick_get C S hj
    exact List.mem_of_getElem? h
  refine ⟨C.g0.trans C'.g0, fun b o e m => C'.h0 b o (C.h0 b o e m) fun z => ?_, C'.gh, fun b e => (C'.nw b e).elim (C.nw b) fun h => .inr (C.free0 h), by rw [C.len, hs.length.1], C.pre, C.nd, fun i p c e hc => ?_⟩
  · rcases C.own (ofPick z) with h | h
    · rw [h] at e; cases e
    · exact m h
  · rcases hs.get nd hc with ⟨j, h1, h2⟩ | ⟨h1, h2⟩
    · obtain ⟨c0, g1, g2, g3, g4⟩ := S.get h1
      have hcs : cs'[j]? = some c := pre_get hp h2
      have hps : ps'[j]? = some p := by
        refine pre_get C'.pre ?_
        show (pick ps κ)[j]? = some p
        unfold pick
        rw [List.getElem?_map, h1]
        show some (ps.getD i 0) = some p
        simp [List.getD, e]
      obtain ⟨q1, q2, q3⟩ := C'.cell j p c hps hcs
      have hfl : c.flat = true := List.all_eq_true.mp hf c (List.mem_of_getElem? h2)
      exact ⟨RepC.flat q1 hfl, C.own (List.mem_of_getElem? e), q3⟩
    · obtain ⟨g1, g2, g3⟩ := C.cell i p c e h2
      have hnp : p ∉ pick ps κ := fun m => by
        obtain ⟨j, hj⟩ := List.getElem?_of_mem m
        obtain ⟨k, _, hk, hp2, _⟩ := pick_get C S hj
        have := nd_at C.nd e hp2
        subst this
        exact h1 (List.mem_of_getElem? hk)
      have hH : H' p = H p := by
        cases q : H p with
        | none => exact (C.live (List.mem_of_getElem? e) q).elim
        | some o => exact C'.h0 p o q hnp
      refine ⟨RepC.mono ⟨C'.g0, List.prefix_refl _⟩ hH g1, g2, g3.imp id fun hG => ?_⟩
      cases q : G' p with
      | none => rfl
      | some o =>
        rcases C'.nw p (by rw [q]; exact Option.some_ne_none _) with z | z
        · exact (z hG).elim
        · exact (C.live (List.mem_of_getElem? e) z).elim
end
section
variable {K : PySem.W.Frag} {G G' : Hp} {ps ps' : List Addr} {H H' : Hp} {B : Bs} {cs cs' : Cs}
theorem Core.enterG (C : Core K B G ps cs H) {κ : List Nat} {d : Cs} (S : SelR cs κ κ d) (nd : κ.Nodup) : Core K ⟨G, H, pick ps κ⟩ G (pick ps κ) d H where
  g0 := Same.refl _
  h0 _ _ e _ := e
  gh := C.gh
  nw _ e := .inl e
  len := by rw [← S.length]; exact List.length_map _
  pre := List.prefix_refl _
  nd := pickR_nd C S nd
  cell j p c e hc := by
    obtain ⟨k, c0, c', h1, h2, h3, h4, h5⟩ := pick_at C S e
    rw [hc] at h3
    cases h3
    obtain ⟨g1, g2, g3⟩ := C.cell k p c0 h2 h4
    exact ⟨RenC.rep (fun k p hk e => pick_idx hk e) h5 g1, .inr (List.mem_of_getElem? e), g3.imp h5.dead.mp id⟩
/-- the callee's numbers, as the caller's -/
def backOf (κ : List Nat) (n : Nat) (j : Nat) : Nat := if j < κ.length then κ.getD j 0 else n + (j - κ.length)
theorem Core.leaveG (C : Core K B G ps cs H) {κ : List Nat} {d da db : Cs} {csm : Cs} (S : SelR cs κ κ d) (nd : κ.Nodup) (C' : Core K ⟨G, H, pick ps κ⟩ G' ps' cs' H') (hq : Paired (RenC (fun _ => true) (backOf κ cs.length)) cs' (da ++ db)) (hda : da.length = κ.length) (hs : SetA cs κ da csm) :
    Core K B G' (ps ++ ps'.drop κ.length) (csm ++ db) H' ∧ ∀ j p, ps'[j]? = some p → (ps ++ ps'.drop κ.length)[backOf κ cs.length j]? = some p := by
  have hpl : (pick ps κ).length = κ.length := List.length_map _
  have hkl : κ.length ≤ ps'.length := by rw [← hpl]; exact C'.pre.length_le
  have inPick : ∀ {k p}, k ∈ κ → ps[k]? = some p → p ∈ pick ps κ := fun {k p} hk hp => List.mem_map.mpr ⟨k, hk, by simp [List.getD, hp]⟩
  have ofPick : ∀ {p}, p ∈ pick ps κ → p ∈ ps := fun {p} m => by
    obtain ⟨j, hj⟩ := List.getElem?_of_mem m
    obtain ⟨k, _, _, _, h, _⟩ := pick_at C S hj
    exact List.mem_of_getElem? h
  have newF : ∀ {j p}, κ.length ≤ j → ps'[j]? = some p → H p = none := fun {j p} hj e => by
    obtain ⟨c, hc⟩ := C'.at e
    refine (C'.cell j p c e hc).2.1.elim id fun m => ?_
    obtain ⟨i, hi⟩ := List.getElem?_of_mem (show p ∈ pick ps κ from m)
    have h1 := nd_at C'.nd (pre_get C'.pre hi) e
    have h2 := (List.getElem?_eq_some_iff.mp hi).1
    omega
  have back : ∀ j p, ps'[j]? = some p → (ps ++ ps'.drop κ.length)[backOf κ cs.length j]? = some p := fun j p e => by
    unfold backOf
    split
    · rename_i hj
      obtain ⟨t, ht⟩ := C'.pre
      have e2 : (pick ps κ)[j]? = some p := by
        rw [← ht, List.getElem?_append_left (by show j < (pick ps κ).length; omega)] at e
        exact e
      obtain ⟨k, _, _, h1, h2, _⟩ := pick_at C S e2
      have : κ.getD j 0 = k := by simp [List.getD, h1]
      rw [this, List.getElem?_append_left (List.getElem?_eq_some_iff.mp h2).1]
      exact h2
    · rw [← C.len, List.getElem?_append_right (by omega), List.getElem?_drop]
      rw [← e]
      congr 1
      omega
  refine ⟨⟨C.g0.trans C'.g0, fun b o e m => C'.h0 b o (C.h0 b o e m) fun z => ?_, C'.gh, fun b e => (C'.nw b e).elim (C.nw b) fun h => .inr (C.free0 h), ?_, C.pre.trans (List.prefix_append _ _), ?_, fun i p c e hc => ?_⟩, back⟩
  · rcases C.own (ofPick z) with h | h
    · rw [h] at e; cases e
    · exact m h
  · have h1 := Paired.length hq
    have h2 := C'.len
    have h3 := hs.length.1
    have h4 := C.len
    rw [List.length_append] at h1
    rw [List.length_append, List.length_append, List.length_drop]
    omega
  · refine List.nodup_append.mpr ⟨C.nd, C'.nd.sublist (List.drop_sublist _ _), fun a ha b hb e => ?_⟩
    subst e
    obtain ⟨i, hi⟩ := List.getElem?_of_mem hb
    rw [List.getElem?_drop] at hi
    exact C.live ha (newF (by omega) hi)
  · by_cases hi : i < ps.length
    · rw [List.getElem?_append_left hi] at e
      have hi2 : i < csm.length := by rw [hs.length.1, ← C.len]; exact hi
      rw [List.getElem?_append_left hi2] at hc
      rcases hs.get nd hc with ⟨j, h1, h2⟩ | ⟨h1, h2⟩
      · obtain ⟨c', h3, h4⟩ := pd_get hq (i := j) (b := c) (by rw [List.getElem?_append_left (List.getElem?_eq_some_iff.mp h2).1]; exact h2)
        have hps : ps'[j]? = some p := by
          refine pre_get C'.pre ?_
          show (pick ps κ)[j]? = some p
          unfold pick
          rw [List.getElem?_map, h1]
          show some (ps.getD i 0) = some p
          simp [List.getD, e]
        obtain ⟨q1, q2, q3⟩ := C'.cell j p c' hps h3
        exact ⟨RenC.rep (fun k p _ e => back k p e) h4 q1, C.own (List.mem_of_getElem? e), q3.imp h4.dead.mp id⟩
      · obtain ⟨g1, g2, g3⟩ := C.cell i p c e h2
        have hnp : p ∉ pick ps κ := fun m => by
          obtain ⟨j, hj⟩ := List.getElem?_of_mem m
          obtain ⟨k, _, _, hk, hp2, _⟩ := pick_at C S hj
          have := nd_at C.nd e hp2
          subst this
          exact h1 (List.mem_of_getElem? hk)
        have hH : H' p = H p := by
          cases q : H p with
          | none => exact (C.live (List.mem_of_getElem? e) q).elim
          | some o => exact C'.h0 p o q hnp
        refine ⟨RepC.mono ⟨C'.g0, List.prefix_append _ _⟩ hH g1, g2, g3.imp id fun hG => ?_⟩
        cases q : G' p with
        | none => rfl
        | some o =>
          rcases C'.nw p (by rw [q]; exact Option.some_ne_none _) with z | z
          · exact (z hG).elim
          · exact (C.live (List.mem_of_getElem? e) z).elim
    · have hge : ps.length ≤ i := by omega
      rw [List.getElem?_append_right hge, List.getElem?_drop] at e
      have hcl : csm.length = ps.length := by rw [hs.length.1, C.len]
      rw [List.getElem?_append_right (by omega), hcl] at hc
      obtain ⟨c', h3, h4⟩ := pd_get hq (i := κ.length + (i - ps.length)) (b := c) (by rw [List.getElem?_append_right (by omega), hda, Nat.add_sub_cancel_left]; exact hc)
      obtain ⟨q1, q2, q3⟩ := C'.cell _ p c' e h3
      exact ⟨RenC.rep (fun k p _ e => back k p e) h4 q1, .inl (C.free0 (newF (by omega) e)), q3.imp h4.dead.mp id⟩
end
/-- the arguments as the callee sees them -/
inductive RenA (κ : List Nat) : List SV → List SV → Prop
  | nil : RenA κ [] []
  | val {d : PyData} {a b : List SV} : RenA κ a b → RenA κ (.val d :: a) (.val d :: b)
  | cell {j k : Nat} {a b : List SV} : κ[j]? = some k → RenA κ a b → RenA κ (.cell j :: a) (.cell k :: b)
theorem RenA.reps {K : PySem.W.Frag} {B : Bs} {G : Hp} {ps : List Addr} {cs : Cs} {H : Hp} {κ : List Nat} {d : Cs} (C : Core K B G ps cs H) (S : Sel cs κ d) : ∀ {a b : List SV} {vs : List V}, RenA κ a b → RepVs K G ps vs b → RepVs K G (pick ps κ) vs a
  | _, _, _, .nil, h => by cases h; exact .nil
  | _, _, _, .val t, h => by
    cases h with
    | cons h r => exact .cons h (RenA.reps C S t r)
  | _, _, _, .cell (j := j) (k := k) e t, h => by
    cases h with
    | cons h r =>
      obtain ⟨p, hp, hv⟩ := h
      refine .cons ⟨p, ?_, hv⟩ (RenA.reps C S t r)
      unfold pick
      rw [List.getElem?_map, e]
      show some (ps.getD k 0) = some p
      simp [List.getD, hp]
theorem RenA.length {κ : List Nat} : ∀ {a b : List SV}, RenA κ a b → a.length = b.length
  | _, _, .nil => rfl
  | _, _, .val t => congrArg (· + 1) t.length
  | _, _, .cell _ t => congrArg (· + 1) t.length
section
variable {X : Cx} {na : Nat} {sl sl' : Sl} {cs cs1 cs2 cs3 : Cs} {s t u : SV} {pos : Pos} {x : Str} {E : DEnds} {N : List Str} {k j n : Nat} {spec : Spec} {e : Expr} {es : List Expr} {p : Pos}
theorem ev_callR (c : Cal X.prog X.w X.K X.mg X.base k x n spec) (hr : Room j X.A) (hk : k ≤ j) (hg : Gl X x)
    (h : DE X.K na (tCall (spM X.K n spec) [] E0 (anyA X (e :: es))) sl cs s cs1)
    (hdb : (x == ("__debug__" : Str)) = false := by decide) (he : starEach (e :: es) X.env = (false, eval e X.env) :: starEach es X.env := by rfl) (hpl : (backTo pos (starEach es X.env)).any (·.1) = false := by rfl) :
    EV X na (.Call (.Name x p) (e :: es) [] pos) sl cs s cs1 := by
  obtain ⟨f, fd, ps, F, hm, kp, b⟩ := c.ex
  exact ev_of (pe_call F (hr.mono hk) hg hm kp b .nil pass0 pa_any hdb he hpl) h
/-- a call; some cells are handed on, the answer is data -/
theorem ev_callM {ss svs : List SV} {κ : List Nat} {d d' d2 : Cs} {r : PyData} (c : Cal X.prog X.w X.K X.mg X.base k x n spec) (hr : Room j X.A) (hk : k ≤ j) (hg : Gl X x)
    (ha : AV X na (e :: es) sl cs ss cs1) (S : Sel cs1 κ d) (hren : RenA κ svs ss) (h : spec svs d (.val r) d2) (hs : SetA cs1 κ d' cs2) (hp : d' <+: d2) (hf : d'.all CC.flat = true) (nd : κ.Nodup) (hn : Nat.beq svs.length n = true)
    (hdb : (x == ("__debug__" : Str)) = false := by decide) (he : starEach (e :: es) X.env = (false, eval e X.env) :: starEach es X.env := by rfl) (hpl : (backTo pos (starEach es X.env)).any (·.1) = false := by rfl) :
    EV X na (.Call (.Name x p) (e :: es) [] pos) sl cs (.val r) cs2 :=
  ev_callR c hr hk hg (fun B G ps σ H hna C Sl Q q => ha B G ps σ H hna C Sl _ fun vs G1 ps1 H1 C1 u1 r1 => by
    show spM X.K n spec (vs ++ []) H1 Q E0
    rw [List.append_nil]
    refine ⟨G1, pick ps1 κ, svs, d, .val r, d2, h, Nat.eq_of_beq_eq_true hn, C1.enter S nd, RenA.reps C1 S hren r1, fun v G' ps' H' C' u' r' => ?_⟩
    exact q v G' ps1 H' (C1.leave S nd C' hp hf hs) (u1.trans ⟨u'.s, List.prefix_refl _⟩) r') hdb he hpl
end
end DL
namespace DL
open PySem PySem.Spec PyProof.Rows L2

/-! ### how a body ends -/
inductive RetOk (na : Nat) : SV → Cs → SV → Cs → Prop
  | val {d : PyData} {c c2 : Cs} : c <+: c2 → c.length = na → c.all (CC.lt na) = true → RetOk na (.val d) c (.val d) c2
  | frz {d : PyData} {k : Nat} {o : CC} {c c2 : Cs} : na ≤ k → c2[k]? = some o → o.data = some d → c <+: c2 → c.length = na → c.all (CC.lt na) = true → RetOk na (.val d) c (.cell k) c2
  | new {k : Nat} {o : CC} {c c2 : Cs} : na ≤ k → c2[k]? = some o → o.flat = true → o ≠ .dead → c <+: c2 → c.length = na → c.all (CC.lt na) = true → RetOk na (.cell na) (c ++ [o]) (.cell k) c2
  | gen {s s2 : SV} {κs : List Nat} {d c2 : Cs} : (List.range na ++ κs).Nodup → SelR c2 (List.range na ++ κs) (List.range na ++ κs) d → s2.amid (fun k => (List.range na ++ κs).contains k) = true → s2.ren (fun k => (List.range na ++ κs).idxOf k) = s → RetOk na s d s2 c2
section
variable {K : PySem.W.Frag} {G G' G1 : Hp} {ps ps' ps1 : List Addr} {H H' : Hp} {B : Bs} {cs cs' : Cs}
theorem take_pre {α : Type} {a b : List α} {n : Nat} (h : a <+: b) (hl : a.length = n) : b.take n = a := by
  obtain ⟨t, rfl⟩ := h
  rw [← hl, List.take_append, Nat.sub_self, List.take_zero, List.append_nil, List.take_of_length_le (Nat.le_refl _)]
theorem Core.atTake (C : Core K B G ps cs H) {n : Nat} {c : Cs} (hA : B.As.length = n) (hp : c <+: cs) (hl : c.length = n) (lt : c.all (CC.lt n) = true) : Core K B G (ps.take n) c H := by
  have e := take_pre hp hl
  have := C.take (n := n) (Nat.le_of_eq hA) (by rw [e]; exact lt)
  rw [e] at this
  exact this
theorem RetOk.go {na : Nat} {s s2 : SV} {c c2 : Cs} {v : V} (h : RetOk na s c s2 c2) (C : Core K B G ps c2 H) (hA : B.As.length = na) (u : Up G1 B.As G ps) (r : RepV K G ps v s2) : ∃ G' ps', Core K B G' ps' c H ∧ Up G1 B.As G' ps' ∧ RepV K G' ps' v s := by
  have pre : B.As <+: ps.take na := by
    obtain ⟨t, e⟩ := u.p
    rw [← e, ← hA, List.take_append, List.take_of_length_le (Nat.le_refl _)]
    exact List.prefix_append _ _
  cases h with
  | val hp hl lt => exact ⟨G, ps.take na, C.atTake hA hp hl lt, ⟨u.s, pre⟩, r⟩
  | frz hk ho hd hp hl lt =>
    rename_i d k o
    obtain ⟨p, rfl, ep, rc⟩ := C.cellAt r ho
    obtain ⟨ob, hH, hr⟩ := rc.data hd
    have hnd : o ≠ .dead := fun z => by subst z; cases hd
    have hG : G p = none := (C.cell k p o ep ho).2.2.elim (fun z => (hnd z).elim) id
    have C2 := C.freeze (by rw [hA]; exact hk) ep ho hnd hH
    have hp2 : c <+: c2.set k .dead := by
      obtain ⟨t, e⟩ := hp
      refine ⟨t.set (k - c.length) .dead, ?_⟩
      rw [← e, List.set_append_right _ _ (by omega)]
    exact ⟨_, ps.take na, C2.atTake hA hp2 hl lt, ⟨u.s.trans (Same.new hG), pre⟩, hr _ (Same.new hG) upd_same⟩
  | new hk ho hf hnd hp hl lt =>
    rename_i k o c
    obtain ⟨p, rfl, ep, rc⟩ := C.cellAt r ho
    have hG : G p = none := (C.cell k p o ep ho).2.2.elim (fun z => (hnd z).elim) id
    have hB : B.H0 p = none := (C.cell k p o ep ho).2.1.elim id fun m => by
      obtain ⟨j, ej⟩ := List.getElem?_of_mem m
      have h1 := nd_at C.nd (pre_get C.pre ej) ep
      have h2 := (List.getElem?_eq_some_iff.mp ej).1
      omega
    have C2 := C.atTake hA hp hl lt
    have hn : p ∉ ps.take na := fun m => by
      obtain ⟨j, ej⟩ := List.getElem?_of_mem m
      have hj := (List.getElem?_eq_some_iff.mp ej).1
      rw [List.length_take] at hj
      rw [List.getElem?_take_of_lt (by omega)] at ej
      have := nd_at C.nd ej ep
      omega
    refine ⟨G, ps.take na ++ [p], C2.adoptCell hn hG hB (RepC.flat rc hf), ⟨u.s, pre.trans (List.prefix_append _ _)⟩, p, ?_, rfl⟩
    have hl2 : (ps.take na).length = na := by
      rw [C2.len, hl]
    rw [List.getElem?_append_right (by omega), hl2, Nat.sub_self]
    rfl
  | gen nd S am e =>
    rename_i κs
    have hle : B.As.length ≤ ps.length := C.pre.length_le
    have hpk : pick ps (List.range na) = B.As := by
      obtain ⟨t, ht⟩ := C.pre
      apply List.ext_getElem?
      intro i
      unfold pick
      rw [List.getElem?_map]
      by_cases hi : i < na
      · rw [List.getElem?_range hi, ← ht]
        show some ((B.As ++ t).getD i 0) = _
        rw [List.getD_eq_getElem?_getD, List.getElem?_append_left (by omega), List.getElem?_eq_getElem (by omega)]
        rfl
      · rw [List.getElem?_eq_none (by rw [List.length_range]; omega), List.getElem?_eq_none (by omega)]
        rfl
    have pre2 : B.As <+: pick ps (List.range na ++ κs) := by
      unfold pick
      rw [List.map_append]
      exact ⟨_, by rw [← hpk]; rfl⟩
    subst e
    exact ⟨G, _, C.subG S nd pre2, ⟨u.s, pre2⟩, RepV.ren (fun k p hk e => pick_idx hk e) r am⟩
end
/-! ### THE RULE for a def -/
abbrev cxN (P : Program) (w : World) (K : PySem.W.Frag) (mg : Str → Option Value) (base : Heap) (N : List Str) (x : Str) (sc : Scope) (f : Addr) (cdv : Value) (A : Around) (outer : List Env) (s : Shared) (H : Hp) (E : XK) : Cx := (cxOf CX0 P w K mg base N x sc f cdv A outer s H E).nox
theorem slots_start {K : PySem.W.Frag} {G : Hp} {ps : List Addr} {vs : List V} {svs : List SV} {N : List Str} (r : RepVs K G ps vs svs) : Slots K G ps (L2.start N vs) (svs.map some ++ List.replicate (N.length - svs.length) none) := by
  unfold L2.start
  rw [Paired.length r]
  refine pd_app ?_ ?_
  · induction r with
    | nil => exact .nil
    | cons h _ ih => exact .cons h ih
  · generalize N.length - svs.length = n
    induction n with
    | zero => exact .nil
    | succ n ih => exact .cons trivial ih
theorem cal_mk {P : Program} {w : World} {K : PySem.W.Frag} {mg : Str → Option Value} {base : Heap} {x : Str} {st : Stmt} {f : Addr} {fd : FuncData} {N ps : List Str} {k : Nat} {spec : Spec} (F : Fun K x x st f fd) (hm : mg x = some (.ref f)) (b : Binds K fd ps []) (S : FnScope N ps (defScope st))
    (body : ∀ (cdv : Value) (A : Around) (outer : List Env) (s : Shared) (H : Hp) (E : XK), Room k (A.deeper (envOfC x (defScope st) s.heap.objs.size f cdv)) → ∀ svs cs sv cs', spec svs cs sv cs' → svs.length = ps.length →
      SX (cxN P w K mg base N x (defScope st) f cdv A outer s H E) cs.length (defBody st) (svs.map some ++ List.replicate (N.length - svs.length) none) cs { nx := fun _ cs2 => RetOk cs.length sv cs' (.val .none) cs2, rt := fun s2 cs2 => RetOk cs.length sv cs' s2 cs2 }) :
    Cal P w K mg base (k + 1) x ps.length spec := by
  refine ⟨f, fd, ps, F.ok S (fun vs H Q E ⟨G, qs, svs, cs, s, cs', h, hl, C, r, q⟩ => by rw [Paired.length r, hl]) (fun cdv A outer s H vs Q E hr ⟨G, qs, svs, cs, sv, cs', h, hl, C, r, q⟩ => ⟨_, pss_any, ?_⟩), hm, F.kp, b⟩
  have hb := body cdv A outer s H E hr svs cs sv cs' h hl
  refine hb ⟨G, H, qs⟩ G qs _ H C.len C (slots_start r) _ ⟨fun sl2 cs2 G' ps' σ' H' C' u' S' e => ?_, fun s2 cs2 G' ps' v H' C' u' r' e => ?_, fun _ _ _ _ _ _ _ _ _ e => e.elim, fun _ _ _ _ _ _ _ _ _ e => e.elim⟩
  · obtain ⟨G2, ps2, C2, u2, r2⟩ := e.go C' C.len u' (show RepV K G' ps' .non (.val .none) from Rep.non)
    exact q .non G2 ps2 H' C2 u2 r2
  · obtain ⟨G2, ps2, C2, u2, r2⟩ := e.go C' C.len u' r'
    exact q v G2 ps2 H' C2 u2 r2
/-- nothing is promised -/
theorem cal_none {P : Program} {w : World} {K : PySem.W.Frag} {mg : Str → Option Value} {base : Heap} {x : Str} {st : Stmt} {f : Addr} {fd : FuncData} {ps : List Str} {k n : Nat} {spec : Spec} (F : Fun K x x st f fd) (hm : mg x = some (.ref f)) (b : Binds K fd ps []) (no : ∀ a c s d, ¬ spec a c s d) : Cal P w K mg base k x n spec :=
  ⟨f, fd, ps, ⟨fun vs H Q E ⟨_, _, _, _, _, _, h, _⟩ => (no _ _ _ _ h).elim, fun A outer s H args us vs Q E _ _ _ _ ⟨_, _, _, _, _, _, h, _⟩ => (no _ _ _ _ h).elim⟩, hm, F.kp, b⟩
section
variable {X : Cx} {na : Nat} {sl sl' : Sl} {cs cs1 cs2 cs3 : Cs} {s t u : SV} {pos : Pos} {x : Str} {E : DEnds} {N : List Str} {k j n : Nat} {spec : Spec} {e : Expr} {es : List Expr} {p : Pos}
/-- a call that gives a new cell, some cells are handed on -/
theorem ev_callN {ss svs : List SV} {κ : List Nat} {d d' : Cs} {o : CC} {m i : Nat} (c : Cal X.prog X.w X.K X.mg X.base k x n spec) (hr : Room j X.A) (hk : k ≤ j) (hg : Gl X x)
    (ha : AV X na (e :: es) sl cs ss cs1) (S : Sel cs1 κ d) (hren : RenA κ svs ss) (h : spec svs d (.cell i) (d' ++ [o])) (hi : d'.length = i) (hs : SetA cs1 κ d' cs2) (ac : AppC cs2 o m cs3) (hf : d'.all CC.flat = true) (hfo : o.flat = true) (hod : o ≠ .dead) (nd : κ.Nodup) (hn : Nat.beq svs.length n = true)
    (hdb : (x == ("__debug__" : Str)) = false := by decide) (he : starEach (e :: es) X.env = (false, eval e X.env) :: starEach es X.env := by rfl) (hpl : (backTo pos (starEach es X.env)).any (·.1) = false := by rfl) :
    EV X na (.Call (.Name x p) (e :: es) [] pos) sl cs (.cell m) cs3 :=
  ev_callR c hr hk hg (fun B G ps σ H hna C Sl Q q => ha B G ps σ H hna C Sl _ fun vs G1 ps1 H1 C1 u1 r1 => by
    show spM X.K n spec (vs ++ []) H1 Q E0
    rw [List.append_nil]
    refine ⟨G1, pick ps1 κ, svs, d, _, _, h, Nat.eq_of_beq_eq_true hn, C1.enter S nd, RenA.reps C1 S hren r1, fun v G' ps' H' C' u' r' => ?_⟩
    have C2 := C1.leave S nd C' (List.prefix_append d' [o]) hf hs
    have lpick : (pick ps1 κ).length = i := by
      rw [show (pick ps1 κ).length = κ.length from List.length_map _, hs.length.2, hi]
    obtain ⟨q1, hq1, rfl⟩ := r'
    have ho : (d' ++ [o])[i]? = some o := by rw [List.getElem?_append_right (by omega), hi, Nat.sub_self]; rfl
    obtain ⟨g1, g2, g3⟩ := C'.cell i q1 o hq1 ho
    have hG : G' q1 = none := g3.elim (fun z => (hod z).elim) id
    have hH1 : H1 q1 = none := g2.elim id fun m => by
      obtain ⟨l, el⟩ := List.getElem?_of_mem (show q1 ∈ pick ps1 κ from m)
      have h1 := nd_at C'.nd (pre_get u'.p el) hq1
      have h2 := (List.getElem?_eq_some_iff.mp el).1
      omega
    have C3 := C2.adoptCell (c := o) (C1.notMem hH1) hG (C1.free0 hH1) (RepC.flat g1 hfo)
    obtain ⟨rfl, rfl⟩ := ac.at
    exact q (.ref q1) G' (ps1 ++ [q1]) H' C3 (u1.trans ⟨u'.s, List.prefix_append _ _⟩) ⟨q1, by rw [← C2.len]; exact pre_snoc_get ps1 q1, rfl⟩) hdb he hpl
/-- .. the new cell is taken as data -/
theorem ev_callNV {ss svs : List SV} {κ : List Nat} {d d' : Cs} {o : CC} {r : PyData} {i : Nat} (c : Cal X.prog X.w X.K X.mg X.base k x n spec) (hr : Room j X.A) (hk : k ≤ j) (hg : Gl X x)
    (ha : AV X na (e :: es) sl cs ss cs1) (S : Sel cs1 κ d) (hren : RenA κ svs ss) (h : spec svs d (.cell i) (d' ++ [o])) (hi : d'.length = i) (hs : SetA cs1 κ d' cs2) (ho' : o.data = some r) (hf : d'.all CC.flat = true) (nd : κ.Nodup) (hn : Nat.beq svs.length n = true)
    (hdb : (x == ("__debug__" : Str)) = false := by decide) (he : starEach (e :: es) X.env = (false, eval e X.env) :: starEach es X.env := by rfl) (hpl : (backTo pos (starEach es X.env)).any (·.1) = false := by rfl) :
    EV X na (.Call (.Name x p) (e :: es) [] pos) sl cs (.val r) cs2 :=
  ev_callR c hr hk hg (fun B G ps σ H hna C Sl Q q => ha B G ps σ H hna C Sl _ fun vs G1 ps1 H1 C1 u1 r1 => by
    show spM X.K n spec (vs ++ []) H1 Q E0
    rw [List.append_nil]
    refine ⟨G1, pick ps1 κ, svs, d, _, _, h, Nat.eq_of_beq_eq_true hn, C1.enter S nd, RenA.reps C1 S hren r1, fun v G' ps' H' C' u' r' => ?_⟩
    have C2 := C1.leave S nd C' (List.prefix_append d' [o]) hf hs
    have lpick : (pick ps1 κ).length = i := by
      rw [show (pick ps1 κ).length = κ.length from List.length_map _, hs.length.2, hi]
    obtain ⟨q1, hq1, rfl⟩ := r'
    have ho : (d' ++ [o])[i]? = some o := by rw [List.getElem?_append_right (by omega), hi, Nat.sub_self]; rfl
    obtain ⟨g1, g2, g3⟩ := C'.cell i q1 o hq1 ho
    have hod : o ≠ .dead := fun z => by subst z; cases ho'
    have hG : G' q1 = none := g3.elim (fun z => (hod z).elim) id
    have hH1 : H1 q1 = none := g2.elim id fun m => by
      obtain ⟨l, el⟩ := List.getElem?_of_mem (show q1 ∈ pick ps1 κ from m)
      have h1 := nd_at C'.nd (pre_get u'.p el) hq1
      have h2 := (List.getElem?_eq_some_iff.mp el).1
      omega
    obtain ⟨ob, hH, hrr⟩ := g1.data ho'
    exact q (.ref q1) _ ps1 H' (C2.adopt (o := ob) (C1.notMem hH1) hG (C1.free0 hH1) hH) (u1.trans ⟨u'.s.trans (Same.new hG), List.prefix_refl _⟩) (hrr _ (Same.new hG) upd_same)) hdb he hpl
/-! ### what the module's names hold -/
structure Glo (K : PySem.W.Frag) (mg : Str → Option Value) (x : Str) (d : PyData) : Prop where
  ex : ∃ u v, mg x = some u ∧ RelV v u ∧ ∀ G, Rep K G v d
theorem ev_glo {d : PyData} (h : Glo X.K X.mg x d) (hg : Gl X x) (hdb : (x == ("__debug__" : Str)) = false := by decide) : EV X na (.Name x pos) sl cs (.val d) cs := by
  obtain ⟨u, v, h1, h2, h3⟩ := h.ex
  exact ev_of (pe_glob hg h1 h2 hdb) (de_c h3)
/-! ### the slots' names, looked at once -/
def tabOk (N : List Str) (sc : Scope) : Bool := N.all fun x => (match sc.names.lookup x with
  | some .local => true
  | some .cell => true
  | _ => false) && !(x == ("__debug__" : Str)) && !(x == ("__classdict__" : Str))
theorem tab_of {sc : Scope} {m : Nat} (h : tabOk (N.take m) sc = true) (hN : X.N = N) (hs : X.env.scope = sc) (nd : N.Nodup) (hf : ∀ x, X.fn x = true) : Tab X m ∧ TabL X m := by
  subst hN hs
  have key : ∀ x ∈ X.N.take m, Loc X.env.scope x ∧ (x == ("__debug__" : Str)) = false ∧ (x == ("__classdict__" : Str)) = false := fun x hx => by
    have := List.all_eq_true.mp h x hx
    simp only [Bool.and_eq_true, Bool.not_eq_true'] at this
    refine ⟨?_, this.1.2, this.2⟩
    have q := this.1.1
    unfold L2.Loc
    revert q
    cases X.env.scope.names.lookup x with
    | none => intro q; cases q
    | some k => cases k <;> intro q <;> first | exact .inl rfl | exact .inr rfl | cases q
  exact ⟨⟨nd, fun x hx => ⟨(key x hx).1.elim .inl fun h => .inr (.inl h), (key x hx).2⟩⟩, ⟨nd, fun x hx => (key x hx).1, hf⟩⟩
/-- a def of the module's top, as it stands behind it -/
structure DefAt (K : PySem.W.Frag) (mg : Str → Option Value) (x : Str) (st : Stmt) (ps : List Str) : Prop where
  ex : ∃ (f : Addr) (fd : FuncData), Fun K x x st f fd ∧ mg x = some (.ref f) ∧ Binds K fd ps []
theorem cal_def {P : Program} {w : World} {K : PySem.W.Frag} {mg : Str → Option Value} {base : Heap} {x : Str} {st : Stmt} {N ps : List Str} {k m : Nat} {spec : Spec} (D : DefAt K mg x st ps) (S : FnScope N ps (defScope st)) (tb : tabOk (N.take m) (defScope st) = true)
    (body : ∀ (f : Addr) (cdv : Value) (A : Around) (outer : List Env) (s : Shared) (H : Hp) (E : XK), Room k (cxN P w K mg base N x (defScope st) f cdv A outer s H E).A → Tab (cxN P w K mg base N x (defScope st) f cdv A outer s H E) m → TabL (cxN P w K mg base N x (defScope st) f cdv A outer s H E) m →
      ∀ svs cs sv cs', spec svs cs sv cs' → svs.length = ps.length →
      SX (cxN P w K mg base N x (defScope st) f cdv A outer s H E) cs.length (defBody st) (svs.map some ++ List.replicate (N.length - svs.length) none) cs { nx := fun _ cs2 => RetOk cs.length sv cs' (.val .none) cs2, rt := fun s2 cs2 => RetOk cs.length sv cs' s2 cs2 }) :
    Cal P w K mg base (k + 1) x ps.length spec := by
  obtain ⟨f, fd, F, hm, b⟩ := D.ex
  refine cal_mk F hm b S fun cdv A outer s H E hr svs cs sv cs' h hl => ?_
  obtain ⟨T, TL⟩ := tab_of (X := cxN P w K mg base N x (defScope st) f cdv A outer s H E) tb rfl rfl S.nd (fun _ => rfl)
  exact body f cdv A outer s H E hr T TL svs cs sv cs' h hl
theorem cal_zero {P : Program} {w : World} {K : PySem.W.Frag} {mg : Str → Option Value} {base : Heap} {x : Str} {st : Stmt} {ps : List Str} {k n : Nat} {spec : Spec} (D : DefAt K mg x st ps) (no : ∀ a c s d, ¬ spec a c s d) : Cal P w K mg base k x n spec := by
  obtain ⟨f, fd, F, hm, b⟩ := D.ex
  exact cal_none F hm b no
end
end DL
namespace DL
open PySem PySem.Spec PyProof.Rows L2

/-! ### comprehensions -/
def wipeS (sl : Sl) : List Nat → Sl
  | [] => sl
  | v :: vs => (wipeS sl vs).set v none
theorem wipe_get (σ : L2.St) (i : Nat) : ∀ vs : List Nat, (wipe σ vs)[i]? = if i ∈ vs then (σ[i]?).map fun _ => none else σ[i]?
  | [] => by simp [wipe]
  | v :: vs => by
    have ih := wipe_get σ i vs
    unfold wipe
    by_cases h : i = v
    · subst h
      rw [if_pos List.mem_cons_self]
      by_cases hl : i < σ.length
      · rw [List.getElem?_set_self (by rw [wipe_length]; exact hl), List.getElem?_eq_getElem hl]
        rfl
      · rw [List.getElem?_eq_none (by rw [List.length_set, wipe_length]; omega), List.getElem?_eq_none (by omega)]
        rfl
    · rw [List.getElem?_set_ne (Ne.symm h), ih]
      by_cases m : i ∈ vs
      · rw [if_pos m, if_pos (List.mem_cons_of_mem _ m)]
      · rw [if_neg m, if_neg (fun z => (List.mem_cons.mp z).elim h m)]
theorem wipe_set {σ : L2.St} {i : Nat} {o : Option V} {vs : List Nat} (h : i ∈ vs) : wipe (σ.set i o) vs = wipe σ vs := by
  apply List.ext_getElem?
  intro j
  rw [wipe_get, wipe_get]
  by_cases e : j = i
  · subst e
    rw [if_pos h, if_pos h]
    by_cases hl : j < σ.length
    · rw [List.getElem?_set_self hl, List.getElem?_eq_getElem hl]
      rfl
    · rw [List.getElem?_eq_none (by rw [List.length_set]; omega), List.getElem?_eq_none (by omega)]
  · rw [List.getElem?_set_ne (Ne.symm e)]
theorem wipe_idem (σ : L2.St) (vs : List Nat) : wipe (wipe σ vs) vs = wipe σ vs := by
  apply List.ext_getElem?
  intro j
  rw [wipe_get, wipe_get]
  by_cases h : j ∈ vs
  · rw [if_pos h, if_pos h]
    cases σ[j]? <;> rfl
  · rw [if_neg h, if_neg h]
theorem pd_setNone {K : PySem.W.Frag} {G : Hp} {ps : List Addr} : ∀ {σ : L2.St} {sl : Sl} (i : Nat), Slots K G ps σ sl → Slots K G ps (σ.set i none) (sl.set i none)
  | _, _, _, .nil => .nil
  | _, _, 0, .cons _ t => .cons trivial t
  | _, _, i + 1, .cons q t => .cons q (pd_setNone i t)
theorem Slots.wipe {K : PySem.W.Frag} {G : Hp} {ps : List Addr} {σ : L2.St} {sl : Sl} (S : Slots K G ps σ sl) : ∀ vs : List Nat, Slots K G ps (L2.wipe σ vs) (wipeS sl vs)
  | [] => S
  | v :: vs => pd_setNone v (Slots.wipe S vs)
def DGW (K : PySem.W.Frag) (na : Nat) (tg : TG) (s : SV) (sl : Sl) (cs : Cs) (vs : List Nat) (R : Sl → Cs → Prop) : Prop := ∀ B G ps σ H v, B.As.length = na → Core K B G ps cs H → Slots K G ps σ sl → RepV K G ps v s → ∀ Q : L2.St → Hp → Prop,
  (∀ sl' cs' G' ps' σ' H', Core K B G' ps' cs' H' → Up G ps G' ps' → Slots K G' ps' σ' sl' → L2.wipe σ' vs = L2.wipe σ vs → R sl' cs' → Q σ' H') → tg v σ H Q
def DGWs (K : PySem.W.Frag) (na : Nat) (tg : TGs) (ss : List SV) (sl : Sl) (cs : Cs) (vs : List Nat) (R : Sl → Cs → Prop) : Prop := ∀ B G ps σ H ws, B.As.length = na → Core K B G ps cs H → Slots K G ps σ sl → RepVs K G ps ws ss → ∀ Q : L2.St → Hp → Prop,
  (∀ sl' cs' G' ps' σ' H', Core K B G' ps' cs' H' → Up G ps G' ps' → Slots K G' ps' σ' sl' → L2.wipe σ' vs = L2.wipe σ vs → R sl' cs' → Q σ' H') → tg ws σ H Q
/-- the block of a comprehension -/
abbrev blkOf (X : Cx) (scope : Scope) (st : Shared) (H : Hp) (C : Addr) (cl : List (Str × Addr)) (fp : List Addr) : Cx := X.blk st H scope (compEnvC scope cl C X.env) fp
section
variable {X : Cx} {na : Nat} {sl sl' : Sl} {cs cs1 cs2 cs3 : Cs} {s t u : SV} {pos : Pos} {x : Str} {E : DEnds} {N : List Str} {vs : List Nat} {R : Sl → Cs → Prop}
def GW (X : Cx) (na : Nat) (e : Expr) (s : SV) (sl : Sl) (cs : Cs) (vs : List Nat) (R : Sl → Cs → Prop) : Prop := DGW X.K na (anyG X e) s sl cs vs R
def GWs (X : Cx) (na : Nat) (es : List Expr) (ss : List SV) (sl : Sl) (cs : Cs) (vs : List Nat) (R : Sl → Cs → Prop) : Prop := DGWs X.K na (anyGs X es) ss sl cs vs R
theorem gw_name {i : Nat} (nd : X.N.Nodup) (hN : X.N = N) (p : Put N sl x i s sl') (hi : i ∈ vs) (q : R sl' cs) (hl : L2.Loc X.env.scope x := by first | exact Or.inl rfl | exact Or.inr rfl) (hf : X.fn x = true ∨ X.env.scope.names.lookup x = some .local := by first | exact .inl rfl | exact .inr rfl) : GW X na (.Name x pos) s sl cs vs R := by
  subst hN
  obtain ⟨h1, h2⟩ := p.at
  subst h2
  exact fun B G ps σ H v hn C S r Q k => ⟨_, pg_name nd h1 hl hf, k _ cs G ps _ H C (Up.refl _ _) (Slots.set S r i) (wipe_set hi) q⟩
theorem gws_nil (q : R sl cs) : GWs X na [] [] sl cs vs R := fun B G ps σ H ws hn C S r Q k => by
  cases r
  exact ⟨_, pgs_nil, rfl, k sl cs G ps σ H C (Up.refl _ _) S rfl q⟩
theorem gws_cons {e : Expr} {es : List Expr} {ss : List SV} (h : GW X na e s sl cs vs fun sl' cs' => GWs X na es ss sl' cs' vs R)
    (hs : (assignEach (e :: es) X.env).map (·.2) = assign e X.env :: (assignEach es X.env).map (·.2) := by rfl) : GWs X na (e :: es) (s :: ss) sl cs vs R := fun B G ps σ H ws hn C S r Q k => by
  cases r with
  | cons r1 rr =>
    exact ⟨_, pgs_cons pg_any pgs_any hs, _, _, rfl, h B G ps σ H _ hn C S r1 _ fun sl' cs' G1 ps1 σ1 H1 C1 u1 S1 w1 q => q B G1 ps1 σ1 H1 _ hn C1 S1 (RepVs.mono u1 rr) _ fun sl2 cs2 G2 ps2 σ2 H2 C2 u2 S2 w2 => k sl2 cs2 G2 ps2 σ2 H2 C2 (u1.trans u2) S2 (w2.trans w1)⟩
theorem gw_tup {es : List Expr} {k : Nat} {ds : List PyData} {n : Nat} (hc : X.calm = true) (h : GWs X na es (ds.map SV.val) sl cs vs R) (hl : ds.length = n)
    (hn : (assignEach es X.env).length = n := by rfl) (hst : (assignEach es X.env).findIdx? (·.1) = none := by rfl) : GW X na (.Tuple es k pos) (.val (.tuple ds)) sl cs vs R := fun B G ps σ H v hna C S r Q q => by
  cases (r : Rep _ _ _ _) with
  | tup h1 h2 => exact ⟨_, pg_tup hc pgs_any hn hst, _, _, rfl, Same.seqT C.gh h1, h2.length.trans hl, h B G ps σ H _ hna C S (Reps.vs h2) Q q⟩
def anyTs (X : Cx) (es : List Expr) : TT := fun σ H Q => ∃ te, PTs X es te ∧ te σ H Q
def TVs (X : Cx) (na : Nat) (es : List Expr) (sl : Sl) (cs : Cs) (b : Bool) (cs' : Cs) : Prop := DT X.K na (anyTs X es) sl cs b cs'
theorem tvs_nil : TVs X na [] sl cs true cs := fun B G ps σ H hn C S Q q => ⟨_, pts_nil, q G ps H C (Up.refl _ _)⟩
theorem tvs_one {e : Expr} {b : Bool} (h : TV X na e sl cs b cs1) : TVs X na [e] sl cs b cs1 := fun B G ps σ H hn C S Q q => ⟨_, pts_one pt_any, h B G ps σ H hn C S Q q⟩
/-- the first n cells as told -/
inductive AtC (n : Nat) (c : Cs) : Cs → Prop
  | same : AtC n c c
  | drop {d : Cs} : c.all (CC.lt n) = true → d.take n = c → AtC n c d
theorem AtC.go {K : PySem.W.Frag} {B : Bs} {G1 G : Hp} {ps1 ps : List Addr} {n : Nat} {c d : Cs} {H : Hp} (h : AtC n c d) (hn : ps1.length = n) (C : Core K B G ps d H) (hA : B.As.length ≤ n) (u : Up G1 ps1 G ps) : ∃ ps', Core K B G ps' c H ∧ Up G1 ps1 G ps' ∧ ∀ p, p ∈ ps' → p ∈ ps := by
  cases h with
  | same => exact ⟨ps, C, u, fun _ h => h⟩
  | drop h2 h3 =>
    subst h3
    refine ⟨ps.take n, C.take hA h2, ⟨u.s, ?_⟩, fun p h => (List.take_sublist n ps).subset h⟩
    obtain ⟨t, e⟩ := u.p
    rw [← e, List.take_append, List.take_of_length_le (Nat.le_of_eq hn)]
    exact List.prefix_append _ _
def famG (X : Cx) (scope : Scope) (e : Expr) : TG := fun v σ H Q => ∀ st H0 C cl fp, anyG (blkOf X scope st H0 C cl fp) e v σ H Q
def famT (X : Cx) (scope : Scope) (es : List Expr) : TT := fun σ H Q => ∀ st H0 C cl fp, anyTs (blkOf X scope st H0 C cl fp) es σ H Q
def famE (X : Cx) (scope : Scope) (e : Expr) : TE := fun σ H Q => ∀ st H0 C cl fp, anyE (blkOf X scope st H0 C cl fp) e σ H Q
/-- what a comprehension does: a new list of data -/
def LC (X : Cx) (na : Nat) (elt tg iter : Expr) (ifs : List Expr) (scope : Scope) (own : List (Str × Nat)) (sl : Sl) (cs : Cs) (ds : List PyData) (cs' : Cs) : Prop := ∀ B G ps σ H, B.As.length = na → Core X.K B G ps cs H → Slots X.K G ps σ sl → ∀ Q : VK,
      (∀ D vs G' ps' H', Core X.K B G' ps' cs' H' → Up G ps G' ps' → D ∉ ps' → G' D = none → B.H0 D = none → H' D = some (.lst vs) → Reps X.K G' vs ds → Q (.ref D) H') → tLc (anyI X tg iter) (famG X scope tg) (famT X scope ifs) (famE X scope elt) (own.map (·.2)) σ H Q
/-- [elt for tg in iter if ..]: a new list of data -/
theorem lc_gen {elt tg iter : Expr} {ifs : List Expr} {scope : Scope} {own : List (Str × Nat)} {xs : List SV} {GC : Cs → Prop} (h : IV X na tg iter sl cs xs GC cs1)
    (a : Nat → Sl) (c c2 : Nat → Cs) (b : Nat → Bool) (v : Nat → PyData) (out : Nat → List PyData) (c0 : c 0 = cs1) (o0 : out 0 = []) (hz : xs.length ≤ 100000) (hG : ∀ i, i ≤ xs.length → GC (c i))
    (hg : ∀ i s, xs[i]? = some s → ∀ st H C cl fp, GW (blkOf X scope st H C cl fp) (c i).length tg s (wipeS sl (own.map (·.2))) (c i) (own.map (·.2)) fun sl2 cs2 => sl2 = a i ∧ cs2 = c i)
    (ht : ∀ i s, xs[i]? = some s → ∀ st H C cl fp, TVs (blkOf X scope st H C cl fp) (c i).length ifs (a i) (c i) (b i) (c i))
    (he : ∀ i s, xs[i]? = some s → b i = true → (∀ st H C cl fp, EV (blkOf X scope st H C cl fp) (c i).length elt (a i) (c i) (.val (v i)) (c2 i)) ∧ AtC cs1.length (c (i + 1)) (c2 i) ∧ out (i + 1) = out i ++ [v i])
    (hn : ∀ i s, xs[i]? = some s → b i = false → c (i + 1) = c i ∧ out (i + 1) = out i)
    : LC X na elt tg iter ifs scope own sl cs (out xs.length) (c xs.length) := by
  intro B G ps σ H hna C S Q q
  refine h B G ps σ H hna C S _ fun J HG Y G1 ps1 H1 C1 u1 W hHG hY => fun D hD => ?_
  have hA : B.As.length ≤ cs1.length := by
    rw [← C1.len]
    exact C1.pre.length_le
  have hB : B.H0 D = none := C1.free0 hD
  refine lc_it W (g := famG X scope tg) (tt := famT X scope ifs) (te := famE X scope elt) (vs := own.map (·.2)) (σ := σ) (Qd := fun H => Q (.ref D) H) (fun i H' => ∃ G' ps' vs, Core X.K B G' ps' (c i) H' ∧ Up G1 ps1 G' ps' ∧ D ∉ ps' ∧ G' D = none ∧ H' D = some (.lst vs) ∧ Reps X.K G' vs (out i) ∧ (out i).length ≤ i)
    ⟨G1, ps1, [], by rw [c0]; exact C1.outside (C1.notMem hD) (C1.freeG hD) hB, Up.refl _ _, C1.notMem hD, C1.freeG hD, upd_same, by rw [o0]; exact .nil, by rw [o0]; exact Nat.le_refl _⟩ ?_ ?_ ?_
  · intro i H' hi ⟨G', ps', vs', C', u', d1, d2, d3, r, _⟩
    exact hHG G' ps' (c i) H' C' u' (hG i hi)
  · intro i w H' H'' hi ⟨G', ps', vs', C', u', d1, d2, d3, r, hlen⟩ y
    obtain ⟨s, G2, es, C2, u2, r2, sm, nw⟩ := hY i H' w H'' G' ps' (c i) y C' u' (hG i (Nat.le_of_lt hi))
    have e2 : H'' D = some (.lst vs') := sm _ _ d3
    have g2 : G2 D = none := by
      cases q0 : G2 D with
      | none => rfl
      | some o =>
        rcases nw D (by rw [q0]; exact Option.some_ne_none _) with z | z
        · exact (z d2).elim
        · rw [d3] at z; cases z
    -- the turn is run from where it stands
    have C2s := C2.sub
    have keep : ∀ {G3 ps3 cs3 H3}, Core X.K ⟨G2, H'', ps'⟩ G3 ps3 cs3 H3 → H3 D = some (.lst vs') ∧ G3 D = none ∧ D ∉ ps3 := fun {G3 ps3 cs3 H3} C3 => by
      refine ⟨C3.h0 D _ e2 d1, ?_, fun m => ?_⟩
      · cases q0 : G3 D with
        | none => rfl
        | some o =>
          rcases C3.nw D (by rw [q0]; exact Option.some_ne_none _) with z | z
          · exact (z g2).elim
          · have z' : H'' D = none := z
            rw [e2] at z'; cases z'
      · rcases C3.own m with z | z
        · have z' : H'' D = none := z
          rw [e2] at z'; cases z'
        · exact d1 z
    have Sw : Slots X.K G2 ps' (L2.wipe σ (own.map (·.2))) (wipeS sl (own.map (·.2))) := (Slots.mono ((u1.trans u').trans u2) S).wipe _
    intro st H0 Cc cl fp
    refine hg i s es st H0 Cc cl fp ⟨G2, H'', ps'⟩ G2 ps' _ H'' w C2.len C2s Sw r2 _ fun sl3 cs3 G3 ps3 σ3 H3 C3 u3 S3 w3 ⟨ea, ec⟩ => ?_
    subst ea ec
    refine ⟨w3.trans (wipe_idem _ _), fun st H0 Cc cl fp => ?_⟩
    refine ht i s es st H0 Cc cl fp ⟨G2, H'', ps'⟩ G3 ps3 σ3 H3 C2.len C3 S3 _ fun G4 ps4 H4 C4 u4 => ?_
    cases hb : b i with
    | false =>
      obtain ⟨k1, k2, k3⟩ := keep C4
      obtain ⟨n1, n2⟩ := hn i s es hb
      show ∃ _, _
      refine ⟨G4, ps4, vs', by rw [n1]; exact C2.back C4, ((u'.trans u2).trans u3).trans u4, k3, k2, k1, by rw [n2]; exact Reps.mono ((u2.trans u3).trans u4).s r, by rw [n2]; omega⟩
    | true =>
      obtain ⟨n1, n2, n3⟩ := he i s es hb
      show ∀ _, _
      intro st H0 Cc cl fp
      refine n1 st H0 Cc cl fp ⟨G2, H'', ps'⟩ G4 ps4 σ3 H4 C2.len C4 (Slots.mono u4 S3) _ fun z G5 ps5 H5 C5 u5 r5 => ?_
      obtain ⟨k1, k2, k3⟩ := keep C5
      have u05 : Up G1 ps1 G5 ps5 := (((u'.trans u2).trans u3).trans u4).trans u5
      obtain ⟨ps6, C6, u6, sub⟩ := n2.go C1.len (C2.back C5) hA u05
      have hv : (out i).length = vs'.length := r.length.symm
      refine ⟨vs', k1, szl (by omega), G5, ps6, vs' ++ [z], C6.outside (fun m => k3 (sub _ m)) k2 hB, u6, fun m => k3 (sub _ m), k2, upd_same, ?_, ?_⟩
      · rw [n3]
        exact (Reps.mono (((u2.trans u3).trans u4).trans u5).s r).append (.cons r5 .nil)
      · rw [n3, List.length_append]
        show (out i).length + 1 ≤ i + 1
        omega
  · intro H' ⟨G', ps', vs', C', u', d1, d2, d3, r, _⟩
    exact q D vs' G' ps' H' C' (u1.trans u') d1 d2 hB d3 r
theorem pe_LC {elt tg iter : Expr} {ifs : List Expr} {scope : Scope} {own : List (Str × Nat)} (hc : X.calm = true) (nd : X.N.Nodup) (ok : BlkOk X.N X.env.scope scope own) (hs : ∀ x, foldedSetIterable iter X.env x = pure x := by intro _; rfl) : PE X (.ListComp elt [⟨tg, iter, ifs, 0⟩] scope pos) (tLc (anyI X tg iter) (famG X scope tg) (famT X scope ifs) (famE X scope elt) (own.map (·.2))) :=
  pe_lc (wi := anyI X tg iter) (g := famG X scope tg) (tt := famT X scope ifs) (te := famE X scope elt) hc nd pi_any ok
    (fun st H0 C cl fp => ⟨fun pins s σ H v u Q I r h => pg_any.run pins s σ H v u Q I r (h st H0 C cl fp)⟩) (fun st H0 C cl fp => ⟨fun pins s σ H Q I h => by obtain ⟨te, p, h⟩ := h st H0 C cl fp; exact p.run pins s σ H Q I h⟩)
    (fun st H0 C cl fp => ⟨fun pins s σ H Q I h => pe_any.run pins s σ H Q I (h st H0 C cl fp)⟩) hs
/-- as data -/
theorem ev_LC {elt tg iter : Expr} {ifs : List Expr} {scope : Scope} {own : List (Str × Nat)} {ds : List PyData} (hc : X.calm = true) (nd : X.N.Nodup) (ok : BlkOk X.N X.env.scope scope own) (d : LC X na elt tg iter ifs scope own sl cs ds cs1) (hs : ∀ x, foldedSetIterable iter X.env x = pure x := by intro _; rfl) : EV X na (.ListComp elt [⟨tg, iter, ifs, 0⟩] scope pos) sl cs (.val (.list ds)) cs1 :=
  ev_of (pe_LC hc nd ok hs) fun B G ps σ H hna C S Q q => d B G ps σ H hna C S Q fun D vs G' ps' H' C' u' d1 d2 d3 d4 r =>
    q (.ref D) _ ps' H' (C'.adopt d1 d2 d3 d4) (u'.trans ⟨Same.new d2, List.prefix_refl _⟩) (Rep.lst (SqL.of upd_same) (Reps.mono (Same.new d2) r))
theorem ev_lc {elt tg iter : Expr} {ifs : List Expr} {scope : Scope} {own : List (Str × Nat)} {xs : List SV} {GC : Cs → Prop} (hc : X.calm = true) (nd : X.N.Nodup) (ok : BlkOk X.N X.env.scope scope own) (h : IV X na tg iter sl cs xs GC cs1)
    (a : Nat → Sl) (c c2 : Nat → Cs) (b : Nat → Bool) (v : Nat → PyData) (out : Nat → List PyData) (c0 : c 0 = cs1) (o0 : out 0 = []) (hz : xs.length ≤ 100000) (hG : ∀ i, i ≤ xs.length → GC (c i))
    (hg : ∀ i s, xs[i]? = some s → ∀ st H C cl fp, GW (blkOf X scope st H C cl fp) (c i).length tg s (wipeS sl (own.map (·.2))) (c i) (own.map (·.2)) fun sl2 cs2 => sl2 = a i ∧ cs2 = c i)
    (ht : ∀ i s, xs[i]? = some s → ∀ st H C cl fp, TVs (blkOf X scope st H C cl fp) (c i).length ifs (a i) (c i) (b i) (c i))
    (he : ∀ i s, xs[i]? = some s → b i = true → (∀ st H C cl fp, EV (blkOf X scope st H C cl fp) (c i).length elt (a i) (c i) (.val (v i)) (c2 i)) ∧ AtC cs1.length (c (i + 1)) (c2 i) ∧ out (i + 1) = out i ++ [v i])
    (hn : ∀ i s, xs[i]? = some s → b i = false → c (i + 1) = c i ∧ out (i + 1) = out i)
    (hs : ∀ x, foldedSetIterable iter X.env x = pure x := by intro _; rfl) : EV X na (.ListComp elt [⟨tg, iter, ifs, 0⟩] scope pos) sl cs (.val (.list (out xs.length))) (c xs.length) := by
  exact ev_LC hc nd ok (lc_gen h a c c2 b v out c0 o0 hz hG hg ht he hn) hs
end
end DL
namespace DL
open PySem PySem.Spec PyProof.Rows L2

/-! ### equal data -/
section
variable {K : PySem.W.Frag} {G H : Hp}
mutual
theorem Rep.dp (g : Same G H) : ∀ {v : V} {d : PyData}, Rep K G v d → d.canLay0 = true → Dp K H v d
  | _, _, .non, _ => .non
  | _, _, .bl b, _ => .bl b
  | _, _, .int i, _ => .int i
  | _, _, .str x, _ => .str x
  | _, _, .lst h r, l => .lst (g.seq h) (Reps.dp g r (by simpa only [PyData.canLay0] using l))
  | _, _, .tup h r, l => .tup (Same.seqT g h) (Reps.dp g r (by simpa only [PyData.canLay0] using l))
  | _, _, .dct _ _, l => by simp [PyData.canLay0] at l
theorem Reps.dp (g : Same G H) : ∀ {v : List V} {d : List PyData}, Reps K G v d → PyData.canLayAll0 d = true → DpAll K H v d
  | _, _, .nil, _ => .nil
  | _, _, .cons h r, l => by
    simp only [PyData.canLayAll0, Bool.and_eq_true] at l
    exact .cons (Rep.dp g h l.1) (Reps.dp g r l.2)
end
end
section
variable {X : Cx} {na : Nat} {sl sl' : Sl} {cs cs1 cs2 cs3 : Cs} {s t u : SV} {pos : Pos} {x : Str} {E : DEnds} {N : List Str} {a b : Expr}
/-- what is read as one datum: data, or a cell of data -/
inductive IsDat (cs : Cs) : SV → PyData → Prop
  | val {d : PyData} : IsDat cs (.val d) d
  | cell {k : Nat} {c : CC} {d : PyData} : cs[k]? = some c → c.data = some d → IsDat cs (.cell k) d
theorem IsDat.dp {K : PySem.W.Frag} {B : Bs} {G : Hp} {ps : List Addr} {H : Hp} {v : V} {d : PyData} (C : Core K B G ps cs H) (r : RepV K G ps v s) (h : IsDat cs s d) (l : d.canLay0 = true) : Dp K H v d := by
  cases h with
  | val => exact Rep.dp C.gh r l
  | @cell k c _ hc hd =>
    obtain ⟨p, rfl, _, rc⟩ := C.cellAt r hc
    cases c with
    | lst xs =>
      obtain ⟨ws, h1, h2⟩ := rc
      cases q : svData xs with
      | none => simp [CC.data, q] at hd
      | some ds =>
        simp [CC.data, q] at hd
        subst hd
        exact .lst (SqL.of h1) (Reps.dp C.gh (RepVs.data h2 q) (by simpa only [PyData.canLay0] using l))
    | dct kvs =>
      simp only [CC.data, Option.map_eq_some_iff] at hd
      obtain ⟨es, _, e⟩ := hd
      subst e
      simp [PyData.canLay0] at l
    | ins _ _ => simp [CC.data] at hd
    | dead => simp [CC.data] at hd
    | frz _ _ _ => simp [CC.data] at hd
    | tup _ => simp [CC.data] at hd
theorem rv_eqD {K : PySem.W.Frag} {d e : PyData} (hd : IsDat cs s d) (he : IsDat cs t e) (sd : SeqAt.shaped d = true) (se : SeqAt.shaped e = true) : RV K na (rEqD K) s t cs (.val (.bool (PyData.eqv d e))) cs := fun B G ps H v w hn C r1 r2 Q q =>
  ⟨d, e, hd.dp C r1 (SeqAt.canLay_of_shaped sd), he.dp C r2 (SeqAt.canLay_of_shaped se), sd, se, q _ G ps H C (Up.refl _ _) (Rep.bl _)⟩
theorem rv_neD {K : PySem.W.Frag} {d e : PyData} (hd : IsDat cs s d) (he : IsDat cs t e) (sd : SeqAt.shaped d = true) (se : SeqAt.shaped e = true) : RV K na (rNeD K) s t cs (.val (.bool (!PyData.eqv d e))) cs := fun B G ps H v w hn C r1 r2 Q q =>
  ⟨d, e, hd.dp C r1 (SeqAt.canLay_of_shaped sd), he.dp C r2 (SeqAt.canLay_of_shaped se), sd, se, q _ G ps H C (Up.refl _ _) (Rep.bl _)⟩
theorem ev_eqD {d e : PyData} {k : Nat} (hr : Room k X.A) (ha : EV X na a sl cs s cs1) (hb : EV X na b sl cs1 t cs2) (hd : IsDat cs2 s d) (he : IsDat cs2 t e) (sd : SeqAt.shaped d = true) (se : SeqAt.shaped e = true) : EV X na (.Compare a [.Eq] [b] pos) sl cs (.val (.bool (PyData.eqv d e))) cs2 :=
  ev_cmp (op_eqD (by have := hr.un; omega)) (nomark _) ha hb (rv_eqD hd he sd se)
theorem ev_neD {d e : PyData} {k : Nat} (hr : Room k X.A) (ha : EV X na a sl cs s cs1) (hb : EV X na b sl cs1 t cs2) (hd : IsDat cs2 s d) (he : IsDat cs2 t e) (sd : SeqAt.shaped d = true) (se : SeqAt.shaped e = true) : EV X na (.Compare a [.NotEq] [b] pos) sl cs (.val (.bool (!PyData.eqv d e))) cs2 :=
  ev_cmp (op_neD (by have := hr.un; omega)) (nomark _) ha hb (rv_neD hd he sd se)
theorem tv_eqD {d e : PyData} {k : Nat} (hr : Room k X.A) (ha : EV X na a sl cs s cs1) (hb : EV X na b sl cs1 t cs2) (hd : IsDat cs2 s d) (he : IsDat cs2 t e) (sd : SeqAt.shaped d = true) (se : SeqAt.shaped e = true) : TV X na (.Compare a [.Eq] [b] pos) sl cs (PyData.eqv d e) cs2 :=
  tv_cmp (op_eqD (by have := hr.un; omega)) (nomark _) ha hb (rv_eqD hd he sd se)
theorem tv_neD {d e : PyData} {k : Nat} (hr : Room k X.A) (ha : EV X na a sl cs s cs1) (hb : EV X na b sl cs1 t cs2) (hd : IsDat cs2 s d) (he : IsDat cs2 t e) (sd : SeqAt.shaped d = true) (se : SeqAt.shaped e = true) : TV X na (.Compare a [.NotEq] [b] pos) sl cs (!PyData.eqv d e) cs2 :=
  tv_cmp (op_neD (by have := hr.un; omega)) (nomark _) ha hb (rv_neD hd he sd se)
/-- flat ones -/
theorem rv_eqI {K : PySem.W.Frag} {i j : Int} : RV K na rEq (.val (.int i)) (.val (.int j)) cs (.val (.bool (decide (i = j)))) cs := fun B G ps H v w hn C r1 r2 Q q => by
  rw [Rep.intI r1, Rep.intI r2]
  refine ⟨rfl, ?_⟩
  have e : decide (V.int i = V.int j) = decide (i = j) := by simp
  rw [e]
  exact q _ G ps H C (Up.refl _ _) (Rep.bl _)
theorem rv_neI {K : PySem.W.Frag} {i j : Int} : RV K na rNe (.val (.int i)) (.val (.int j)) cs (.val (.bool (!decide (i = j)))) cs := fun B G ps H v w hn C r1 r2 Q q => by
  rw [Rep.intI r1, Rep.intI r2]
  refine ⟨rfl, ?_⟩
  have e : decide (V.int i = V.int j) = decide (i = j) := by simp
  rw [e]
  exact q _ G ps H C (Up.refl _ _) (Rep.bl _)
theorem rv_eqS {K : PySem.W.Frag} {i j : Str} : RV K na rEq (.val (.str i)) (.val (.str j)) cs (.val (.bool (decide (i = j)))) cs := fun B G ps H v w hn C r1 r2 Q q => by
  rw [Rep.strI r1, Rep.strI r2]
  refine ⟨rfl, ?_⟩
  have e : decide (V.str i = V.str j) = decide (i = j) := by simp
  rw [e]
  exact q _ G ps H C (Up.refl _ _) (Rep.bl _)
theorem rv_neS {K : PySem.W.Frag} {i j : Str} : RV K na rNe (.val (.str i)) (.val (.str j)) cs (.val (.bool (!decide (i = j)))) cs := fun B G ps H v w hn C r1 r2 Q q => by
  rw [Rep.strI r1, Rep.strI r2]
  refine ⟨rfl, ?_⟩
  have e : decide (V.str i = V.str j) = decide (i = j) := by simp
  rw [e]
  exact q _ G ps H C (Up.refl _ _) (Rep.bl _)
theorem ev_eqI {i j : Int} (ha : EV X na a sl cs (.val (.int i)) cs1) (hb : EV X na b sl cs1 (.val (.int j)) cs2) : EV X na (.Compare a [.Eq] [b] pos) sl cs (.val (.bool (decide (i = j)))) cs2 := ev_cmp op_eq (nomark _) ha hb rv_eqI
theorem ev_neI {i j : Int} (ha : EV X na a sl cs (.val (.int i)) cs1) (hb : EV X na b sl cs1 (.val (.int j)) cs2) : EV X na (.Compare a [.NotEq] [b] pos) sl cs (.val (.bool (!decide (i = j)))) cs2 := ev_cmp op_ne (nomark _) ha hb rv_neI
theorem ev_eqS {i j : Str} (ha : EV X na a sl cs (.val (.str i)) cs1) (hb : EV X na b sl cs1 (.val (.str j)) cs2) : EV X na (.Compare a [.Eq] [b] pos) sl cs (.val (.bool (decide (i = j)))) cs2 := ev_cmp op_eq (nomark _) ha hb rv_eqS
theorem ev_neS {i j : Str} (ha : EV X na a sl cs (.val (.str i)) cs1) (hb : EV X na b sl cs1 (.val (.str j)) cs2) : EV X na (.Compare a [.NotEq] [b] pos) sl cs (.val (.bool (!decide (i = j)))) cs2 := ev_cmp op_ne (nomark _) ha hb rv_neS
theorem tv_eqI {i j : Int} (ha : EV X na a sl cs (.val (.int i)) cs1) (hb : EV X na b sl cs1 (.val (.int j)) cs2) : TV X na (.Compare a [.Eq] [b] pos) sl cs (decide (i = j)) cs2 := tv_cmp op_eq (nomark _) ha hb rv_eqI
theorem tv_neI {i j : Int} (ha : EV X na a sl cs (.val (.int i)) cs1) (hb : EV X na b sl cs1 (.val (.int j)) cs2) : TV X na (.Compare a [.NotEq] [b] pos) sl cs (!decide (i = j)) cs2 := tv_cmp op_ne (nomark _) ha hb rv_neI
theorem tv_eqS {i j : Str} (ha : EV X na a sl cs (.val (.str i)) cs1) (hb : EV X na b sl cs1 (.val (.str j)) cs2) : TV X na (.Compare a [.Eq] [b] pos) sl cs (decide (i = j)) cs2 := tv_cmp op_eq (nomark _) ha hb rv_eqS
theorem tv_neS {i j : Str} (ha : EV X na a sl cs (.val (.str i)) cs1) (hb : EV X na b sl cs1 (.val (.str j)) cs2) : TV X na (.Compare a [.NotEq] [b] pos) sl cs (!decide (i = j)) cs2 := tv_cmp op_ne (nomark _) ha hb rv_neS
/-- is None -/
def PyData.isNone : PyData → Bool
  | .none => true
  | _ => false
theorem Rep.isNon {K : PySem.W.Frag} {G : Hp} {v : V} {d : PyData} (h : Rep K G v d) : decide (v = .non) = PyData.isNone d := by cases h <;> simp [PyData.isNone]
theorem rv_isN {K : PySem.W.Frag} {d : PyData} : RV K na (fun x y H Q => y = .non ∧ Q (.bl (decide (x = .non))) H) (.val d) (.val .none) cs (.val (.bool (PyData.isNone d))) cs := fun B G ps H v w hn C r1 r2 Q q =>
  ⟨Rep.noneI r2, by rw [Rep.isNon r1]; exact q _ G ps H C (Up.refl _ _) (Rep.bl _)⟩
theorem rv_notN {K : PySem.W.Frag} {d : PyData} : RV K na (fun x y H Q => y = .non ∧ Q (.bl (!decide (x = .non))) H) (.val d) (.val .none) cs (.val (.bool (!PyData.isNone d))) cs := fun B G ps H v w hn C r1 r2 Q q =>
  ⟨Rep.noneI r2, by rw [Rep.isNon r1]; exact q _ G ps H C (Up.refl _ _) (Rep.bl _)⟩
theorem ev_isN {d : PyData} (ha : EV X na a sl cs (.val d) cs1) (hb : EV X na b sl cs1 (.val .none) cs2) : EV X na (.Compare a [.Is] [b] pos) sl cs (.val (.bool (PyData.isNone d))) cs2 := ev_cmp op_isN (nomark _) ha hb rv_isN
theorem tv_isN {d : PyData} (ha : EV X na a sl cs (.val d) cs1) (hb : EV X na b sl cs1 (.val .none) cs2) : TV X na (.Compare a [.Is] [b] pos) sl cs (PyData.isNone d) cs2 := tv_cmp op_isN (nomark _) ha hb rv_isN
theorem ev_notN {d : PyData} (ha : EV X na a sl cs (.val d) cs1) (hb : EV X na b sl cs1 (.val .none) cs2) : EV X na (.Compare a [.IsNot] [b] pos) sl cs (.val (.bool (!PyData.isNone d))) cs2 := ev_cmp op_notN (nomark _) ha hb rv_notN
theorem tv_notN {d : PyData} (ha : EV X na a sl cs (.val d) cs1) (hb : EV X na b sl cs1 (.val .none) cs2) : TV X na (.Compare a [.IsNot] [b] pos) sl cs (!PyData.isNone d) cs2 := tv_cmp op_notN (nomark _) ha hb rv_notN

/-! ### dicts -/
inductive KeyOf : PyData → Key → Prop
  | int (i : Int) : KeyOf (.int i) (.inl i)
  | str (x : Str) : KeyOf (.str x) (.inr x)
def dD (kvs : List (Key × PyData)) : PyData := .dict (kvs.map fun kv => (kD kv.1, kv.2))
def svK (kvs : List (Key × PyData)) : List (Key × SV) := kvs.map fun kv => (kv.1, SV.val kv.2)
inductive IsD (cs : Cs) : SV → List (Key × SV) → Prop
  | val {kvs : List (Key × PyData)} : IsD cs (.val (dD kvs)) (svK kvs)
  | cell {k : Nat} {kvs : List (Key × SV)} : cs[k]? = some (.dct kvs) → IsD cs (.cell k) kvs
def lkK {α : Type} : List (Key × α) → Key → Option α
  | [], _ => none
  | (j, v) :: r, k => if j = k then some v else lkK r k
def putS : List (Key × SV) → Key → SV → List (Key × SV)
  | [], k, s => [(k, s)]
  | (j, v) :: r, k, s => if j = k then (j, s) :: r else (j, v) :: putS r k s
theorem RepD.ks {K : PySem.W.Frag} {G : Hp} {ps : List Addr} : ∀ {us : List (Key × V)} {kvs : List (Key × PyData)}, RepD K G us (kvs.map fun kv => (kD kv.1, kv.2)) → RepKs K G ps us (svK kvs)
  | us, [], h => by cases h; exact .nil
  | us, (k, d) :: r, h => by
    rw [List.map_cons] at h
    cases us with
    | nil => cases h
    | cons p us' =>
      obtain ⟨k', v⟩ := p
      generalize he : ((kD (k, d).1, (k, d).2) : PyData × PyData) = e at h
      cases h with
      | cons h1 h2 =>
        have e1 := (Prod.mk.inj he).1
        have e2 := (Prod.mk.inj he).2
        have ek : k = k' := by
          cases k <;> cases k' <;> simp [kD] at e1 <;> first | (subst e1; rfl) | cases e1
        subst ek
        refine .cons ⟨rfl, ?_⟩ (RepD.ks h2)
        have e3 : d = _ := e2
        show Rep K G v d
        rw [e3]
        exact h1
theorem IsD.at {K : PySem.W.Frag} {B : Bs} {G : Hp} {ps : List Addr} {H : Hp} {v : V} {kvs : List (Key × SV)} (C : Core K B G ps cs H) (r : RepV K G ps v s) (h : IsD cs s kvs) : ∃ a us, v = .ref a ∧ H a = some (.dK us) ∧ RepKs K G ps us kvs := by
  cases h with
  | val =>
    generalize hd : dD _ = d at r
    cases (r : Rep _ _ _ _) <;> try (unfold dD at hd; cases hd; done)
    rename_i a us es hg hr
    unfold dD at hd
    injection hd with hd
    subst hd
    exact ⟨a, us, rfl, C.gh _ _ hg, RepD.ks hr⟩
  | cell h =>
    obtain ⟨p, hv, _, us, h1, h2⟩ := C.cellAt r h
    exact ⟨p, us, hv, h1, h2⟩
theorem KeyOf.v {K : PySem.W.Frag} {G : Hp} {v : V} {d : PyData} {k : Key} (h : KeyOf d k) (r : Rep K G v d) : v = kV k := by
  cases h with
  | int i => exact Rep.intI r
  | str x => exact Rep.strI r
theorem lk_some {K : PySem.W.Frag} {G : Hp} {ps : List Addr} {k : Key} {s : SV} : ∀ {us : List (Key × V)} {kvs : List (Key × SV)}, RepKs K G ps us kvs → lkK kvs k = some s → ∃ v, valV us k = some v ∧ RepV K G ps v s
  | _, _, .nil, e => by cases e
  | (j', v) :: us, (j, w) :: r, .cons h t, e => by
    obtain ⟨h1, h2⟩ := h
    cases (show j' = j from h1)
    unfold lkK at e
    by_cases q : j' = k
    · rw [if_pos q] at e
      cases e
      exact ⟨v, valV_pos (p := (j', v)) q, h2⟩
    · rw [if_neg q] at e
      obtain ⟨z, e1, e2⟩ := lk_some t e
      exact ⟨z, (valV_neg (p := (j', v)) q).trans e1, e2⟩
theorem lk_none {K : PySem.W.Frag} {G : Hp} {ps : List Addr} {k : Key} : ∀ {us : List (Key × V)} {kvs : List (Key × SV)}, RepKs K G ps us kvs → lkK kvs k = none → valV us k = none
  | _, _, .nil, e => rfl
  | (j', v) :: us, (j, w) :: r, .cons h t, e => by
    obtain ⟨h1, h2⟩ := h
    cases (show j' = j from h1)
    unfold lkK at e
    by_cases q : j' = k
    · rw [if_pos q] at e
      cases e
    · rw [if_neg q] at e
      exact (valV_neg (p := (j', v)) q).trans (lk_none t e)
theorem put_ks {K : PySem.W.Frag} {G : Hp} {ps : List Addr} {k : Key} {v : V} {s : SV} (r : RepV K G ps v s) : ∀ {us : List (Key × V)} {kvs : List (Key × SV)}, RepKs K G ps us kvs → (us.map (·.1)).Nodup → RepKs K G ps (putK us k v) (putS kvs k s)
  | _, _, .nil, _ => .cons ⟨rfl, r⟩ .nil
  | (j', w) :: us, (j, z) :: kvs, .cons h t, nd => by
    obtain ⟨h1, h2⟩ := h
    cases (show j' = j from h1)
    obtain ⟨n1, n2⟩ := List.nodup_cons.mp nd
    have ih := put_ks (k := k) r t n2
    unfold putS putK
    by_cases q : j' = k
    · subst q
      rw [if_pos rfl, if_pos (by simp), List.map_cons, if_pos rfl]
      have e : us.map (fun kv => if kv.1 = j' then (kv.1, v) else kv) = us := by
        have : ∀ p ∈ us, (if p.1 = j' then (p.1, v) else p) = p := fun p hp => if_neg fun (e : p.1 = j') => n1 (List.mem_map.mpr ⟨p, hp, e⟩)
        rw [List.map_congr_left this, List.map_id']
      rw [e]
      exact .cons ⟨rfl, r⟩ t
    · rw [if_neg q]
      by_cases m : (us.any fun kv => decide (kv.1 = k)) = true
      · rw [if_pos (by rw [List.any_cons, m, Bool.or_true]), List.map_cons, if_neg q]
        unfold putK at ih
        rw [if_pos m] at ih
        exact .cons ⟨rfl, h2⟩ ih
      · rw [if_neg (by rw [List.any_cons, decide_eq_false (show ¬ (j', w).1 = k from q), Bool.false_or]; exact m), List.cons_append]
        unfold putK at ih
        rw [if_neg m] at ih
        exact .cons ⟨rfl, h2⟩ ih
theorem lk_keys {K : PySem.W.Frag} {G : Hp} {ps : List Addr} : ∀ {us : List (Key × V)} {kvs : List (Key × SV)}, RepKs K G ps us kvs → us.map (·.1) = kvs.map (·.1)
  | _, _, .nil => rfl
  | _, _, .cons h t => by rw [List.map_cons, List.map_cons, h.1, lk_keys t]
theorem dget_of {kvs : List (Key × V)} {H : Hp} {a : Addr} {y : V} {k : Key} {o : Option V} (e : H a = some (.dK kvs)) (hy : y = kV k) (ho : valV kvs k = o) : DGet H a y o := by
  subst hy ho
  exact DGet.k e
/-- d[k] -/
theorem ev_dget {kvs : List (Key × SV)} {kd : PyData} {k : Key} {m : Nat} (hr : Room m X.A) (ha : EV X na a sl cs s cs1) (hb : EV X na b sl cs1 (.val kd) cs2) (hd : IsD cs2 s kvs) (hk : KeyOf kd k) (hl : lkK kvs k = some t) (hs : NoSl b := by exact fun _ _ => rfl) : EV X na (.Subscript a b pos) sl cs t cs2 :=
  ev_of (pe_dget (by have := hr.un; omega) pe_any pe_any hs) fun B G ps σ H hn C S Q q => ha B G ps σ H hn C S _ fun v G1 ps1 H1 C1 u1 r1 => hb B G1 ps1 σ H1 hn C1 (Slots.mono u1 S) _ fun w G2 ps2 H2 C2 u2 r2 => by
    obtain ⟨p, us, rfl, h1, h2⟩ := hd.at C2 (RepV.mono u2 r1)
    obtain ⟨z, e1, e2⟩ := lk_some h2 hl
    exact ⟨p, z, rfl, dget_of h1 (hk.v r2) e1, q z G2 ps2 H2 C2 (u1.trans u2) e2⟩
/-- d.get(k, x) -/
theorem ev_dget2 {o e f : Expr} {apos : Pos} {kvs : List (Key × SV)} {kd : PyData} {k : Key} {m : Nat} (hr : Room m X.A) (hf : EV X na f sl cs2 t cs3) (ha : EV X na o sl cs s cs1) (hb : EV X na e sl cs1 (.val kd) cs2) (hd1 : ∃ kvs', IsD cs1 s kvs') (hd : IsD cs3 s kvs) (hk : KeyOf kd k) (hl : (lkK kvs k).getD t = u) (hm : M2 X o "get" apos e f pos := by exact ⟨rfl, rfl, rfl, rfl⟩) : EV X na (.Call (.Attribute o "get" apos) [e, f] [] pos) sl cs u cs3 :=
  ev_of (L2.pe_dget2 (by have := hr.un; omega) pe_any pe_any pe_any hm) fun B G ps σ H hn C S Q q => ha B G ps σ H hn C S _ fun v G1 ps1 H1 C1 u1 r1 => by
    obtain ⟨kvs', hd1⟩ := hd1
    obtain ⟨p, us, rfl, h1, h2⟩ := hd1.at C1 r1
    refine ⟨p, rfl, .inl ⟨us, .inl h1⟩, hb B G1 ps1 σ H1 hn C1 (Slots.mono u1 S) _ fun w G2 ps2 H2 C2 u2 r2 => hf B G2 ps2 σ H2 hn C2 (Slots.mono (u1.trans u2) S) _ fun z G3 ps3 H3 C3 u3 r3 => ?_⟩
    obtain ⟨p', us', e', h1', h2'⟩ := hd.at C3 (RepV.mono (u2.trans u3) r1)
    cases e'
    cases hq : lkK kvs k with
    | none =>
      rw [hq] at hl
      exact ⟨none, dget_of h1' (hk.v r2) (lk_none h2' hq), q z G3 ps3 H3 C3 ((u1.trans u2).trans u3) (by rw [← hl]; exact r3)⟩
    | some y =>
      rw [hq] at hl
      obtain ⟨y', e1, e2⟩ := lk_some h2' hq
      exact ⟨some y', dget_of h1' (hk.v r2) e1, q y' G3 ps3 H3 C3 ((u1.trans u2).trans u3) (by rw [← hl]; exact e2)⟩
/-- k in d, k not in d -/
theorem de_din {K : PySem.W.Frag} {ta tb : TE} {kvs : List (Key × SV)} {kd : PyData} {k : Key} (ha : DE K na ta sl cs (.val kd) cs1) (hb : DE K na tb sl cs1 s cs2) (hd : IsD cs2 s kvs) (hk : KeyOf kd k) : DE K na (tDIn ta tb) sl cs (.val (.bool (lkK kvs k).isSome)) cs2 := fun B G ps σ H hn C S Q q => ha B G ps σ H hn C S _ fun v G1 ps1 H1 C1 u1 r1 => hb B G1 ps1 σ H1 hn C1 (Slots.mono u1 S) _ fun w G2 ps2 H2 C2 u2 r2 => by
  obtain ⟨p, us, rfl, h1, h2⟩ := hd.at C2 r2
  cases hq : lkK kvs k with
  | none => exact ⟨p, none, rfl, dget_of h1 (hk.v (Rep.mono u2.s r1)) (lk_none h2 hq), q _ G2 ps2 H2 C2 (u1.trans u2) (by rw [hq]; exact Rep.bl _)⟩
  | some y =>
    obtain ⟨y', e1, e2⟩ := lk_some h2 hq
    exact ⟨p, some y', rfl, dget_of h1 (hk.v (Rep.mono u2.s r1)) e1, q _ G2 ps2 H2 C2 (u1.trans u2) (by rw [hq]; exact Rep.bl _)⟩
theorem de_dnin {K : PySem.W.Frag} {ta tb : TE} {kvs : List (Key × SV)} {kd : PyData} {k : Key} (ha : DE K na ta sl cs (.val kd) cs1) (hb : DE K na tb sl cs1 s cs2) (hd : IsD cs2 s kvs) (hk : KeyOf kd k) : DE K na (tDNotIn ta tb) sl cs (.val (.bool (!(lkK kvs k).isSome))) cs2 := fun B G ps σ H hn C S Q q => ha B G ps σ H hn C S _ fun v G1 ps1 H1 C1 u1 r1 => hb B G1 ps1 σ H1 hn C1 (Slots.mono u1 S) _ fun w G2 ps2 H2 C2 u2 r2 => by
  obtain ⟨p, us, rfl, h1, h2⟩ := hd.at C2 r2
  cases hq : lkK kvs k with
  | none => exact ⟨p, none, rfl, dget_of h1 (hk.v (Rep.mono u2.s r1)) (lk_none h2 hq), q _ G2 ps2 H2 C2 (u1.trans u2) (by rw [hq]; exact Rep.bl _)⟩
  | some y =>
    obtain ⟨y', e1, e2⟩ := lk_some h2 hq
    exact ⟨p, some y', rfl, dget_of h1 (hk.v (Rep.mono u2.s r1)) e1, q _ G2 ps2 H2 C2 (u1.trans u2) (by rw [hq]; exact Rep.bl _)⟩
theorem tv_din {kvs : List (Key × SV)} {kd : PyData} {k : Key} {m : Nat} (hr : Room m X.A) (ha : EV X na a sl cs (.val kd) cs1) (hb : EV X na b sl cs1 s cs2) (hd : IsD cs2 s kvs) (hk : KeyOf kd k) (hm : behindInMarks .In b = false := by rfl) : TV X na (.Compare a [.In] [b] pos) sl cs (lkK kvs k).isSome cs2 :=
  tv_of (pt_cmp (pc_din (by have := hr.un; omega) pe_any pe_any) hm) fun B G ps σ H hn C S Q q => de_din ha hb hd hk B G ps σ H hn C S _ fun v G1 ps1 H1 C1 u1 r1 => by
    cases (r1 : Rep _ _ _ _)
    exact ⟨_, rfl, q G1 ps1 H1 C1 u1⟩
theorem tv_dnin {kvs : List (Key × SV)} {kd : PyData} {k : Key} {m : Nat} (hr : Room m X.A) (ha : EV X na a sl cs (.val kd) cs1) (hb : EV X na b sl cs1 s cs2) (hd : IsD cs2 s kvs) (hk : KeyOf kd k) (hm : behindInMarks .NotIn b = false := by rfl) : TV X na (.Compare a [.NotIn] [b] pos) sl cs (!(lkK kvs k).isSome) cs2 :=
  tv_of (pt_cmp (pc_dnotin (by have := hr.un; omega) pe_any pe_any) hm) fun B G ps σ H hn C S Q q => de_dnin ha hb hd hk B G ps σ H hn C S _ fun v G1 ps1 H1 C1 u1 r1 => by
    cases (r1 : Rep _ _ _ _)
    exact ⟨_, rfl, q G1 ps1 H1 C1 u1⟩
/-- d[k] = v -/
theorem s1_dput {o i v : Expr} {p2 : Pos} {n : Nat} {kvs : List (Key × SV)} {kd : PyData} {k : Key} {m : Nat} (hr : Room m X.A) (hv : EV X na v sl cs s cs1) (ho : EV X na o sl cs1 (.cell n) cs1) (hi : EV X na i sl cs1 (.val kd) cs1) (hc : cs1[n]? = some (.dct kvs)) (hk : KeyOf kd k) (hz : kvs.length ≤ 1000000) (nd : (kvs.map (·.1)).Nodup) (p : PutC cs1 n (.dct (putS kvs k s)) cs2) (q : E.nx sl cs2)
    (hs : swapsWith v (some (.Subscript o i p2)) pos.line X.env = pure false := by rfl) : S1 X na (.Assign [.Subscript o i p2] v pos) sl cs E :=
  s1_of (ps_dput (by have := hr.un; omega) pe_any pe_any pe_any hs) fun B G ps σ H hn C S D L => hv B G ps σ H hn C S _ fun w G1 ps1 H1 C1 u1 r1 =>
    ho B G1 ps1 σ H1 hn C1 (Slots.mono u1 S) _ fun w2 G2 ps2 H2 C2 u2 r2 => hi B G2 ps2 σ H2 hn C2 (Slots.mono (u1.trans u2) S) _ fun w3 G3 ps3 H3 C3 u3 r3 => by
      obtain ⟨a, rfl, ea, us, hus, rus⟩ := C3.cellAt (RepV.mono u3 r2) hc
      rw [p.at] at q
      have hput : DPut H3 a w3 w (upd H3 a (.dK (putK us k w))) := by
        rw [hk.v r3]
        exact DPut.k hus (szl (by rw [Paired.length rus]; exact hz))
      exact ⟨a, _, rfl, hput, L.nx sl _ G3 ps3 σ _ (C3.put (c' := .dct (putS kvs k s)) ea hc (by intro z; cases z) ⟨_, upd_same, put_ks (RepV.mono (u2.trans u3) r1) rus (by rw [lk_keys rus]; exact nd)⟩) ((u1.trans u2).trans u3) (Slots.mono ((u1.trans u2).trans u3) S) q⟩
end
end DL
namespace DL
open PySem PySem.Spec PyProof.Rows L2

/-! ### one order, one list -/
theorem perm_sorted {α : Type} {le : α → α → Prop} (anti : ∀ a b, le a b → le b a → a = b) : ∀ {l m : List α}, l.Perm m → l.Pairwise le → m.Pairwise le → l = m
  | [], m, p, _, _ => (List.Perm.eq_nil p.symm).symm
  | a :: l, [], p, _, _ => by have := p.length_eq; simp at this
  | a :: l, b :: m, p, hl, hm => by
    obtain ⟨l1, l2⟩ := List.pairwise_cons.mp hl
    obtain ⟨m1, m2⟩ := List.pairwise_cons.mp hm
    have e : a = b := by
      have ha : a ∈ b :: m := p.subset List.mem_cons_self
      have hb : b ∈ a :: l := p.symm.subset List.mem_cons_self
      rcases List.mem_cons.mp ha with h | h
      · exact h
      · rcases List.mem_cons.mp hb with h' | h'
        · exact h'.symm
        · exact anti a b (l1 b h') (m1 a h)
    subst e
    rw [perm_sorted anti p.cons_inv l2 m2]
/-- pairs in order -/
def leP (p q : Int × Int) : Bool := !SrtO.lexB q p
def sortP (ps : List (Int × Int)) : List (Int × Int) := ps.mergeSort leP
theorem leP_iff {p q : Int × Int} : leP p q = true ↔ p.1 < q.1 ∨ (p.1 = q.1 ∧ p.2 ≤ q.2) := by
  unfold leP
  rw [Bool.not_eq_true', SrtO.lexB_no]
  omega
theorem sortP_perm (ps : List (Int × Int)) : (sortP ps).Perm ps := List.mergeSort_perm ps leP
theorem sortP_srt (ps : List (Int × Int)) : (sortP ps).Pairwise fun p q => leP p q = true :=
  List.pairwise_mergeSort (fun a b c h1 h2 => by rw [leP_iff] at *; omega) (fun a b => by
    rw [Bool.or_eq_true, leP_iff, leP_iff]
    omega) ps
theorem sortP_uniq {ps qs : List (Int × Int)} (p : qs.Perm ps) (h : qs.Pairwise fun p q => leP p q = true) : qs = sortP ps :=
  perm_sorted (fun a b h1 h2 => by
    rw [leP_iff] at h1 h2
    have e1 : a.1 = b.1 := by omega
    have e2 : a.2 = b.2 := by omega
    exact Prod.ext e1 e2) (p.trans (sortP_perm ps).symm) h (sortP_srt ps)
def sortI (ns : List Int) : List Int := ns.mergeSort fun a b => decide (a ≤ b)
theorem sortI_perm (ns : List Int) : (sortI ns).Perm ns := List.mergeSort_perm ns _
theorem sortI_srt (ns : List Int) : (sortI ns).Pairwise (· ≤ ·) := by
  have := List.pairwise_mergeSort (le := fun a b : Int => decide (a ≤ b)) (fun a b c h1 h2 => by simp at *; omega) (fun a b => by simp; omega) ns
  exact List.Pairwise.imp (fun h => of_decide_eq_true h) this
theorem sortI_uniq {ns ms : List Int} (p : ms.Perm ns) (h : ms.Pairwise (· ≤ ·)) : ms = sortI ns :=
  perm_sorted (fun a b h1 h2 => by omega) (p.trans (sortI_perm ns).symm) h (sortI_srt ns)

/-! ### sorted(pairs), the pairs read wherever they stand -/
def pD (p : Int × Int) : PyData := .tuple [.int p.1, .int p.2]
/-- what a heap tells of a pair -/
def pairAt (h : Heap) : Value → Int × Int
  | .ref t => match (h.get? t).map (·.data) with
    | some (Data.seq its _) => match its.toList with
      | [.int i _, .int j _] => (i, j)
      | _ => (0, 0)
    | _ => (0, 0)
  | _ => (0, 0)
def rSortQ (K : PySem.W.Frag) : List V → Hp → VK → Prop := fun vs H Q => ∃ (a : Addr) (xs : List V) (ks : List (Int × Int)) (R : V → Int × Int → Prop), vs = [V.ref a] ∧ SqL K H a xs ∧ (∀ x p, R x p → ∃ t, x = V.ref t ∧ SqT K H t [.int p.1, .int p.2]) ∧ Paired R xs ks ∧
  ∀ ys d, Paired R ys (sortP ks) → H d = none → Q (.ref d) (upd H d (.lst ys))
section
variable {X : Cx}
theorem pair_of {pins : List (Addr × Obj)} {σ : L2.St} {H : Hp} {s : Shared} {t : Addr} {p : Int × Int} (I : Inv X pins σ H s) (h : SqT X.K H t [.int p.1, .int p.2]) : Srt.IsPair s.heap (.ref t) p.1 p.2 ∧ pairAt s.heap (.ref t) = p := by
  obtain ⟨its, r, ⟨o, ho, hc, n, hd⟩, _⟩ := I.tuple h
  obtain ⟨u1, u2, rfl, ⟨k1, rfl⟩, ⟨k2, rfl⟩⟩ := vals2 r
  refine ⟨⟨t, o, k1, k2, n, rfl, ho, hc, hd⟩, ?_⟩
  show (match (s.heap.get? t).map (·.data) with
    | some (Data.seq its _) => match its.toList with
      | [.int i _, .int j _] => (i, j)
      | _ => (0, 0)
    | _ => (0, 0)) = p
  rw [ho]
  simp only [Option.map_some, hd]
theorem pairs_back {pins : List (Addr × Obj)} {σ : L2.St} {H : Hp} {s : Shared} {R : V → Int × Int → Prop} (I : Inv X pins σ H s) (hR : ∀ x p, R x p → ∃ t, x = V.ref t ∧ SqT X.K H t [.int p.1, .int p.2]) : ∀ {xs : List V} {ks : List (Int × Int)} {its : List Value}, Paired R xs ks → Vals xs its →
    its.map (pairAt s.heap) = ks ∧ ∀ v ∈ its, (∃ t, v = Value.ref t) ∧ R (backV v) (pairAt s.heap v) ∧ Srt.IsPair s.heap v (pairAt s.heap v).1 (pairAt s.heap v).2
  | _, _, _, .nil, .nil => ⟨rfl, fun _ h => nomatch h⟩
  | _, _, _, .cons h t, .cons r rr => by
    obtain ⟨a, rfl, hq⟩ := hR _ _ h
    cases r
    obtain ⟨e1, e2⟩ := pair_of I hq
    obtain ⟨q1, q3⟩ := pairs_back I hR t rr
    refine ⟨by rw [List.map_cons, e2, q1], fun v hv => ?_⟩
    rcases List.mem_cons.mp hv with rfl | hv
    · rw [e2]
      exact ⟨⟨a, rfl⟩, h, e1⟩
    · exact q3 v hv
theorem cr_sortQ : CallR X (.builtin "sorted") (rSortQ X.K) := by
  intro pins s σ H vs us Q I r h
  obtain ⟨a, xs, ks, R, rfl, hs, hR, hx, q⟩ := h
  obtain ⟨its, rv, hl, hz⟩ := I.list hs
  obtain ⟨w, rfl, rw'⟩ := vals1 r
  cases (show w = Value.ref a from rw')
  obtain ⟨e1, e3⟩ := pairs_back I hR hx rv
  refine SrtO.sorted_pairsO (k := pairAt s.heap) hl.isList (by rw [← rv.length]; exact hz) (fun v hv => (e3 v hv).2.2) fun h' d out o1 o2 o3 o4 o5 => ?_
  have mem : ∀ u ∈ out, u ∈ its := fun u hu => o2.perm.subset hu
  have es : out.map (pairAt s.heap) = sortP ks := by
    refine sortP_uniq ?_ ?_
    · rw [← e1]
      exact o2.perm.map _
    · rw [List.pairwise_map]
      refine List.Pairwise.imp (fun {x y} h => ?_) o1
      show (!SrtO.lexB (pairAt s.heap y) (pairAt s.heap x)) = true
      rw [show SrtO.lexB (pairAt s.heap y) (pairAt s.heap x) = false from h]
      rfl
  obtain ⟨n, hn⟩ := o5
  refine ⟨.ref d, upd H d (.lst (out.map backV)), I.laid (t' := s.toks) o3 o4 ⟨?_, out, n, vals_back fun u hu => (e3 u (mem u hu)).1, hn⟩, rfl, q _ d ?_ (I.hok.fresh o4)⟩
  · rw [List.length_map, o2.perm.length_eq, ← rv.length]
    exact hz
  · rw [← es]
    have key : ∀ l : List Value, (∀ u ∈ l, u ∈ its) → Paired R (l.map backV) (l.map (pairAt s.heap)) := fun l => by
      induction l with
      | nil => exact fun _ => .nil
      | cons u l ih => exact fun hm => .cons (e3 u (hm u List.mem_cons_self)).2.1 (ih fun v hv => hm v (List.mem_cons_of_mem _ hv))
    exact key out mem
variable {na : Nat} {sl sl' : Sl} {cs cs1 cs2 cs3 : Cs} {s t u : SV} {pos : Pos} {x : Str} {E : DEnds} {N : List Str} {a b : Expr} {p : Pos}
theorem reps_paired {α : Type} {K : PySem.W.Frag} {G : Hp} (f : α → PyData) : ∀ {vs : List V} {ps : List α}, Reps K G vs (ps.map f) → Paired (fun v p => Rep K G v (f p)) vs ps
  | _, [], h => by cases h; exact .nil
  | _, p :: r, h => by
    cases h with
    | cons h1 h2 => exact .cons h1 (reps_paired f h2)
theorem paired_reps {α : Type} {K : PySem.W.Frag} {G : Hp} (f : α → PyData) : ∀ {vs : List V} {ps : List α}, Paired (fun v p => Rep K G v (f p)) vs ps → Reps K G vs (ps.map f)
  | _, _, .nil => .nil
  | _, _, .cons h t => .cons h (paired_reps f t)
/-- sorted(pairs) -/
theorem ev_sortedP {ps : List (Int × Int)} (hm : X.mg "sorted" = none) (hg : Gl X "sorted") (ha : EV X na a sl cs s cs1) (hl : IsL cs1 s ((ps.map pD).map SV.val)) (hs : starEach [a] X.env = (false, eval a X.env) :: starEach [] X.env := by rfl) : EV X na (.Call (.Name "sorted" p) [a] [] pos) sl cs (.val (.list ((sortP ps).map pD))) cs1 :=
  ev_callB cr_sortQ (by decide +kernel) hg hm (av_cons ha av_nil hs) (rc1 fun B G ps' H v hn C r1 Q q => by
    obtain ⟨l, vs, rfl, h1, h2⟩ := hl.sq C r1
    refine ⟨l, vs, ps, fun v p => Rep X.K G v (pD p), rfl, h1, fun v p r => ?_, reps_paired pD (Reps.ofVs h2), fun ys d hy hd => C.newLst (paired_reps pD hy) q d hd⟩
    obtain ⟨t, ws, rfl, e1, e2⟩ := Rep.tupI r
    cases e2 with
    | cons q1 q2 =>
      cases q2 with
      | cons q2 q3 =>
        cases q3
        rw [Rep.intI q1, Rep.intI q2] at e1
        exact ⟨t, rfl, Same.seqT C.gh e1⟩) (by decide) (by decide) hs
/-- sorted(d), the keys ints -/
theorem ev_sortedDI {kvs : List (Key × SV)} {ks : List Int} (hc : X.calm = true) (hm : X.mg "sorted" = none) (hg : Gl X "sorted") (ha : EV X na a sl cs s cs1) (hd : IsD cs1 s kvs) (hk : kvs.map (·.1) = ks.map Sum.inl) (h64 : ks.length < 64) (hs : starEach [a] X.env = (false, eval a X.env) :: starEach [] X.env := by rfl) : EV X na (.Call (.Name "sorted" p) [a] [] pos) sl cs (.val (.list ((sortI ks).map .int))) cs1 :=
  ev_callB (call_sortedDI hc) (by decide +kernel) hg hm (av_cons ha av_nil hs) (rc1 fun B G ps' H v hn C r1 Q q => by
    obtain ⟨l, us, rfl, h1, h2⟩ := hd.at C r1
    refine ⟨l, us, ks, rfl, .inl h1, by rw [lk_keys h2]; exact hk, h64, fun ys d hp hs hd => ?_⟩
    rw [sortI_uniq hp hs]
    exact C.newLst (Reps.ofInts _) q d hd) (by decide) (by decide) hs
/-- all([..]), any([..]) -/
theorem ev_all {bs : List Bool} (hc : X.calm = true) (hm : X.mg "all" = none) (hg : Gl X "all") (ha : EV X na a sl cs (.val (.list (bs.map .bool))) cs1) (hs : starEach [a] X.env = (false, eval a X.env) :: starEach [] X.env := by rfl) : EV X na (.Call (.Name "all" p) [a] [] pos) sl cs (.val (.bool (bs.all id))) cs1 :=
  ev_callB (cr_all hc) (by decide +kernel) hg hm (av_cons ha av_nil hs) (rc1 fun B G ps' H v hn C r1 Q q => by
    obtain ⟨l, vs, rfl, h1, h2⟩ := Rep.lstI r1
    exact ⟨l, bs, rfl, by rw [← Reps.bools h2]; exact C.gh.seq h1, q _ G ps' H C (Up.refl _ _) (Rep.bl _)⟩) (by decide) (by decide) hs
theorem ev_any {bs : List Bool} (hc : X.calm = true) (hm : X.mg "any" = none) (hg : Gl X "any") (ha : EV X na a sl cs (.val (.list (bs.map .bool))) cs1) (hs : starEach [a] X.env = (false, eval a X.env) :: starEach [] X.env := by rfl) : EV X na (.Call (.Name "any" p) [a] [] pos) sl cs (.val (.bool (bs.any id))) cs1 :=
  ev_callB (cr_any hc) (by decide +kernel) hg hm (av_cons ha av_nil hs) (rc1 fun B G ps' H v hn C r1 Q q => by
    obtain ⟨l, vs, rfl, h1, h2⟩ := Rep.lstI r1
    exact ⟨l, bs, rfl, by rw [← Reps.bools h2]; exact C.gh.seq h1, q _ G ps' H C (Up.refl _ _) (Rep.bl _)⟩) (by decide) (by decide) hs
/-- sum(xs), ints -/
theorem ev_sum {ns : List Int} (hc : X.calm = true) (hm : X.mg "sum" = none) (hg : Gl X "sum") (ha : EV X na a sl cs (.val (.list (ns.map .int))) cs1) (hs : starEach [a] X.env = (false, eval a X.env) :: starEach [] X.env := by rfl) : EV X na (.Call (.Name "sum" p) [a] [] pos) sl cs (.val (.int ns.sum)) cs1 :=
  ev_callB (cr_sum hc) (by decide +kernel) hg hm (av_cons ha av_nil hs) (rc1 fun B G ps' H v hn C r1 Q q => by
    obtain ⟨l, vs, rfl, h1, h2⟩ := Rep.lstI r1
    exact ⟨l, ns, rfl, by rw [← Reps.ints h2]; exact C.gh.seq h1, q _ G ps' H C (Up.refl _ _) (Rep.int _)⟩) (by decide) (by decide) hs
/-! ### isinstance -/
def tyOf : PyData → String
  | .none => "NoneType"
  | .bool _ => "bool"
  | .int _ => "int"
  | .str _ => "str"
  | .list _ => "list"
  | .tuple _ => "tuple"
  | .dict _ => "dict"
theorem Rep.tyX {K : PySem.W.Frag} {G H : Hp} (g : Same G H) {v : V} {d : PyData} (r : Rep K G v d) : TyX K H v (.type (tyOf d)) := by
  cases r with
  | non => exact .base .non
  | bl b => exact .base (.bl b)
  | int i => exact .base (.int i)
  | str x => exact .base (.str x)
  | lst h _ =>
    rcases g.seq h with (h | ⟨o, h⟩) | ⟨o, _, _, h, c, _⟩
    · exact .base (.lst h)
    · exact .base (.frz h)
    · exact .kList h c
  | tup h _ =>
    rcases Same.seqT g h with (h | ⟨o, h⟩) | ⟨o, _, _, h, c, _⟩
    · exact .base (.tup h)
    · exact .fTuple h
    · exact .kTuple h c
  | dct h _ => exact .base (.dK (g _ _ h))
theorem ev_isi {d : PyData} {T : Str} {T' : String} {p2 : Pos} {k : Bool} (hm : X.mg "isinstance" = none) (hg : Gl X "isinstance") (ha : EV X na a sl cs (.val d) cs1) (hmT : X.mg T = none) (hgT : Gl X T) (hbT : bootBuiltins T = some (.type T')) (hk : PySem.W.kitOne X.K (.type (tyOf d)) (.type T') = some k) (hT : T ≠ "__name__" := by decide) (hT2 : (T == ("__debug__" : Str)) = false := by decide)
    (hs : starEach [a, .Name T p2] X.env = (false, eval a X.env) :: starEach [.Name T p2] X.env := by rfl) (hs2 : starEach [.Name T p2] X.env = (false, eval (.Name T p2) X.env) :: starEach [] X.env := by rfl) (hpl : (backTo pos (starEach [.Name T p2] X.env)).any (·.1) = false := by rfl) :
    EV X na (.Call (.Name "isinstance" p) [a, .Name T p2] [] pos) sl cs (.val (.bool k)) cs1 := by
  refine ev_of (pe_callB call_isi hg hm (by decide +kernel) (pa_cons pe_any (pa_cons (pe_bltn (v := .ty T') hgT hmT hbT rfl hT hT2) pa_nil hs2) hs) (by decide) (by decide) hs hpl) fun B G ps σ H hn C S Q q => ha B G ps σ H hn C S _ fun v G1 ps1 H1 C1 u1 r1 => ?_
  exact ⟨v, .ty T', _, _, k, rfl, .ty T', Rep.tyX C1.gh r1, hk, q _ G1 ps1 H1 C1 u1 (Rep.bl _)⟩
end
end DL
namespace DL
open PySem PySem.Spec PyProof.Rows L2
theorem Core.grow {K : PySem.W.Frag} {B : Bs} {G G' H H' : Hp} {ps : List Addr} {cs : Cs} (C : Core K B G ps cs H) (hs : Same H H') (g : Same G G') (gh : Same G' H') (nw : ∀ b, G' b ≠ none → G b ≠ none ∨ H b = none) : Core K B G' ps cs H' where
  g0 := C.g0.trans g
  h0 b o e m := hs _ _ (C.h0 b o e m)
  gh := gh
  nw b e := (nw b e).elim (C.nw b) fun h => .inr (C.free0 h)
  len := C.len
  pre := C.pre
  nd := C.nd
  cell k p c e hc := by
    obtain ⟨h1, h2, h3⟩ := C.cell k p c e hc
    have hl := C.live (List.mem_of_getElem? e)
    have hH : H' p = H p := by
      cases q : H p with
      | none => exact (hl q).elim
      | some o => exact hs _ _ q
    refine ⟨RepC.mono ⟨g, List.prefix_refl _⟩ hH h1, h2, h3.imp id fun hG => ?_⟩
    cases q : G' p with
    | none => rfl
    | some o =>
      rcases nw p (by rw [q]; exact Option.some_ne_none _) with z | z
      · exact (z hG).elim
      · exact (hl z).elim
theorem svK_inv {K : PySem.W.Frag} {G : Hp} {ps : List Addr} : ∀ {us : List (Key × V)} {kvs : List (Key × PyData)}, RepKs K G ps us (svK kvs) → Paired (fun (q : Key × V) (kv : Key × PyData) => q.1 = kv.1 ∧ Rep K G q.2 kv.2) us kvs
  | _, [], h => by cases h; exact .nil
  | _, (k, d) :: r, h => by
    cases h with
    | cons h1 h2 => exact .cons h1 (svK_inv h2)
theorem rep_key {K : PySem.W.Frag} {G : Hp} (k : Key) : Rep K G (kV k) (kD k) := by
  cases k with
  | inl i => exact .int i
  | inr x => exact .str x
section
variable {X : Cx} {na : Nat} {sl sl' : Sl} {cs cs1 cs2 cs3 : Cs} {s t u : SV} {pos : Pos} {x : Str} {E : DEnds} {N : List Str} {a b : Expr} {p p2 pos2 apos cpos : Pos}
/-! ### list(range(..)) -/
def rgD (a b : Int) : List PyData := (List.range (b - a).toNat).map fun i => PyData.int (a + (i : Nat))
theorem reps_rg {K : PySem.W.Frag} {G : Hp} (a b : Int) : Reps K G (rgV a b) (rgD a b) := by
  unfold rgV rgD
  generalize List.range (b - a).toNat = l
  induction l with
  | nil => exact .nil
  | cons i l ih => exact .cons (.int _) ih
theorem ev_listRg1 {n : Int} (hc : X.calm = true) (hm : X.mg "list" = none) (hg : Gl X "list") (hm2 : X.mg "range" = none) (hg2 : Gl X "range") (ha : EV X na a sl cs (.val (.int n)) cs1) (h0 : 0 ≤ n) (h1 : n ≤ 16777216)
    (hs : starEach [a] X.env = (false, eval a X.env) :: starEach [] X.env := by rfl) (hs2 : starEach [.Call (.Name "range" p2) [a] [] pos2] X.env = (false, eval (.Call (.Name "range" p2) [a] [] pos2) X.env) :: starEach [] X.env := by rfl) :
    EV X na (.Call (.Name "list" p) [.Call (.Name "range" p2) [a] [] pos2] [] pos) sl cs (.val (.list (rgD 0 n))) cs1 :=
  ev_of (pe_listRg hc hg hm (prg_1 hg2 hm2 pe_any hs) hs2) fun B G ps σ H hn C S Q q => ha B G ps σ H hn C S _ fun v G1 ps1 H1 C1 u1 r1 =>
    ⟨n, Rep.intI r1, RgOk.of_le (Int.le_refl 0) h1 (by omega) h0, C1.newLst (reps_rg 0 n) fun v G2 ps2 H2 C2 u2 => q v G2 ps2 H2 C2 (u1.trans u2)⟩
theorem ev_listRg2 {m n : Int} (hc : X.calm = true) (hm : X.mg "list" = none) (hg : Gl X "list") (hm2 : X.mg "range" = none) (hg2 : Gl X "range") (ha : EV X na a sl cs (.val (.int m)) cs1) (hb : EV X na b sl cs1 (.val (.int n)) cs2) (h0 : 0 ≤ m ∧ m ≤ 16777216) (h1 : 0 ≤ n ∧ n ≤ 16777216)
    (hs : starEach [a, b] X.env = (false, eval a X.env) :: starEach [b] X.env := by rfl) (hs1 : starEach [b] X.env = (false, eval b X.env) :: starEach [] X.env := by rfl) (hp : (backTo pos2 (starEach [b] X.env)).any (·.1) = false := by rfl) (hs2 : starEach [.Call (.Name "range" p2) [a, b] [] pos2] X.env = (false, eval (.Call (.Name "range" p2) [a, b] [] pos2) X.env) :: starEach [] X.env := by rfl) :
    EV X na (.Call (.Name "list" p) [.Call (.Name "range" p2) [a, b] [] pos2] [] pos) sl cs (.val (.list (rgD m n))) cs2 :=
  ev_of (pe_listRg hc hg hm (prg_2 hg2 hm2 pe_any pe_any hs hs1 hp) hs2) fun B G ps σ H hn C S Q q => ha B G ps σ H hn C S _ fun v G1 ps1 H1 C1 u1 r1 => hb B G1 ps1 σ H1 hn C1 (Slots.mono u1 S) _ fun w G2 ps2 H2 C2 u2 r2 =>
    ⟨m, n, Rep.intI r1, Rep.intI r2, RgOk.of_le h0.1 h1.2 h0.2 h1.1, C2.newLst (reps_rg m n) fun v G3 ps3 H3 C3 u3 => q v G3 ps3 H3 C3 ((u1.trans u2).trans u3)⟩
/-! ### list(d.items()), dict(pairs) -/
def kvD (kv : Key × PyData) : PyData := .tuple [kD kv.1, kv.2]
theorem ev_items {kvs : List (Key × PyData)} (hc : X.calm = true) (hm : X.mg "list" = none) (hg : Gl X "list") (ha : EV X na a sl cs s cs1) (hd : IsD cs1 s (svK kvs)) (hbase : attributeBase a "items" X.env (eval a X.env) = eval a X.env := by rfl) (hline : (apos.endLine == cpos.line) = true := by rfl)
    (hs : starEach [.Call (.Attribute a "items" apos) [] [] cpos] X.env = (false, eval (.Call (.Attribute a "items" apos) [] [] cpos) X.env) :: starEach [] X.env := by rfl) :
    EV X na (.Call (.Name "list" p) [.Call (.Attribute a "items" apos) [] [] cpos] [] pos) sl cs (.val (.list (kvs.map kvD))) cs1 :=
  ev_of (LiI.pe_listItems hc pe_any hg hm (by decide +kernel) hbase hline hs) fun B G ps σ H hn C S Q q => ha B G ps σ H hn C S _ fun v G1 ps1 H1 C1 u1 r1 => by
    obtain ⟨l, us, rfl, h1, h2⟩ := hd.at C1 r1
    refine ⟨l, us, rfl, h1, fun H' p' ts hsame hp hts hpts hl hpair => ?_⟩
    have hnew : ∀ b, (b = p' ∨ b ∈ ts) → H1 b = none := fun b hb => hb.elim (fun e => e ▸ hp) (hts b)
    have C2 : Core X.K B (fun b => if b = p' ∨ b ∈ ts then H' b else G1 b) ps1 cs1 H' := C1.grow hsame
      (fun b o e => by
        have hb : ¬ (b = p' ∨ b ∈ ts) := fun z => by have := C1.freeG (hnew b z); rw [e] at this; cases this
        show (if b = p' ∨ b ∈ ts then H' b else G1 b) = some o
        rw [if_neg hb]
        exact e)
      (fun b o e => by
        have e' : (if b = p' ∨ b ∈ ts then H' b else G1 b) = some o := e
        by_cases hb : b = p' ∨ b ∈ ts
        · rw [if_pos hb] at e'
          exact e'
        · rw [if_neg hb] at e'
          exact hsame _ _ (C1.gh _ _ e'))
      (fun b e => by
        have e' : (if b = p' ∨ b ∈ ts then H' b else G1 b) ≠ none := e
        by_cases hb : b = p' ∨ b ∈ ts
        · exact .inr (hnew b hb)
        · rw [if_neg hb] at e'
          exact .inl e')
    have sG : Same G1 (fun b => if b = p' ∨ b ∈ ts then H' b else G1 b) := fun b o e => by
      have hb : ¬ (b = p' ∨ b ∈ ts) := fun z => by have := C1.freeG (hnew b z); rw [e] at this; cases this
      show (if b = p' ∨ b ∈ ts then H' b else G1 b) = some o
      rw [if_neg hb]
      exact e
    refine q (.ref p') _ ps1 H' C2 (u1.trans ⟨sG, List.prefix_refl _⟩) ?_
    refine Rep.lst (xs := ts.map V.ref) (.inl (.inl ?_)) ?_
    · show (if p' = p' ∨ p' ∈ ts then H' p' else G1 p') = _
      rw [if_pos (.inl rfl)]
      exact hl
    · have key : ∀ {qs : List Addr} {us : List (Key × V)} {kvs : List (Key × PyData)}, (∀ t ∈ qs, t ∈ ts) → Paired (fun (t : Addr) (q : Key × V) => H' t = some (.tup [kV q.1, q.2])) qs us → Paired (fun (q : Key × V) (kv : Key × PyData) => q.1 = kv.1 ∧ Rep X.K G1 q.2 kv.2) us kvs → Reps X.K (fun b => if b = p' ∨ b ∈ ts then H' b else G1 b) (qs.map V.ref) (kvs.map kvD) := fun {qs us kvs} hm h g => by
        induction h generalizing kvs with
        | nil => cases g; exact .nil
        | @cons t q ls qs' e _ ih =>
          cases g with
          | cons g1 g2 =>
            refine .cons (.tup (xs := [kV q.1, q.2]) (.inl (.inl ?_)) (.cons ?_ (.cons (Rep.mono sG g1.2) .nil))) (ih (fun t ht => hm t (List.mem_cons_of_mem _ ht)) g2)
            · show (if t = p' ∨ t ∈ ts then H' t else G1 t) = _
              rw [if_pos (.inr (hm t List.mem_cons_self))]
              exact e
            · rw [g1.1]
              exact rep_key _
      exact key (fun _ h => h) hpair (svK_inv h2)
def mergeS (kvs : List (Key × PyData)) : List (Key × SV) → List (Key × SV) := fun acc => kvs.foldl (fun acc kv => putS acc kv.1 (.val kv.2)) acc
theorem putK_nd {us : List (Key × V)} {k : Key} {v : V} (h : (us.map (·.1)).Nodup) : ((putK us k v).map (·.1)).Nodup := by
  unfold putK
  by_cases m : (us.any fun kv => decide (kv.1 = k)) = true
  · rw [if_pos m, List.map_map]
    have e : ((fun x : Key × V => x.1) ∘ fun kv : Key × V => if kv.1 = k then (kv.1, v) else kv) = fun kv => kv.1 := funext fun kv => by
      show (if kv.1 = k then (kv.1, v) else kv).1 = kv.1
      split <;> rfl
    rw [e]
    exact h
  · rw [if_neg m, List.map_append]
    refine nd_snoc h fun hk => m ?_
    obtain ⟨p, hp, e⟩ := List.mem_map.mp hk
    exact List.any_eq_true.mpr ⟨p, hp, decide_eq_true e⟩
theorem merge_ks {K : PySem.W.Frag} {G : Hp} {ps : List Addr} : ∀ {us : List (Key × V)} {kvs : List (Key × PyData)} {acc : List (Key × V)} {acc' : List (Key × SV)}, Paired (fun (q : Key × V) (kv : Key × PyData) => q.1 = kv.1 ∧ Rep K G q.2 kv.2) us kvs → RepKs K G ps acc acc' → (acc.map (·.1)).Nodup → RepKs K G ps (mergeK acc us) (mergeS kvs acc')
  | _, _, _, _, .nil, r, _ => r
  | (k', v) :: us, (k, d) :: kvs, acc, acc', .cons h t, r, nd => by
    obtain ⟨h1, h2⟩ := h
    cases (show k' = k from h1)
    show RepKs K G ps (mergeK (putK acc k' v) us) (mergeS kvs (putS acc' k' (.val d)))
    exact merge_ks t (put_ks (show RepV K G ps v (.val d) from h2) r nd) (putK_nd nd)
/-- dict(pairs) -/
theorem ev_dictP {kvs : List (Key × PyData)} {n : Nat} (hc : X.calm = true) (hm : X.mg "dict" = none) (hg : Gl X "dict") (ha : EV X na a sl cs s cs1) (hl : IsL cs1 s ((kvs.map kvD).map SV.val)) (ac : AppC cs1 (.dct (mergeS kvs [])) n cs2) (hs : starEach [a] X.env = (false, eval a X.env) :: starEach [] X.env := by rfl) : EV X na (.Call (.Name "dict" p) [a] [] pos) sl cs (.cell n) cs2 :=
  ev_callTy (call_dictP hc) (by decide +kernel) hg hm (av_cons ha av_nil hs) (rc1 fun B G ps' H v hn C r1 Q q => by
    obtain ⟨l, vs, rfl, h1, h2⟩ := hl.sq C r1
    have h3 := Reps.ofVs h2
    have key : ∀ {vs : List V} {kvs : List (Key × PyData)}, Reps X.K G vs (kvs.map kvD) → ∃ (qs : List Addr) (us : List (Key × V)), vs = qs.map V.ref ∧ Paired (fun p kv => SqT X.K H p [kV kv.1, kv.2]) qs us ∧ Paired (fun (q : Key × V) (kv : Key × PyData) => q.1 = kv.1 ∧ Rep X.K G q.2 kv.2) us kvs := fun {vs kvs} h => by
      induction kvs generalizing vs with
      | nil => cases h; exact ⟨[], [], rfl, .nil, .nil⟩
      | cons kv r ih =>
        cases h with
        | cons h1 h2 =>
          obtain ⟨qs, us, rfl, e2, e3⟩ := ih h2
          obtain ⟨t, ws, rfl, g1, g2⟩ := Rep.tupI h1
          cases g2 with
          | cons k1 k2 =>
            cases k2 with
            | cons k2 k3 =>
              cases k3
              have e : _ = kV kv.1 := (show KeyOf (kD kv.1) kv.1 by cases kv.1 <;> constructor).v k1
              subst e
              exact ⟨t :: qs, (kv.1, _) :: us, rfl, .cons (Same.seqT C.gh g1) e2, .cons ⟨rfl, k2⟩ e3⟩
    obtain ⟨qs, us, rfl, e2, e3⟩ := key h3
    exact ⟨l, qs, us, rfl, h1, e2, C.newCell ac (fun p hp => ⟨_, upd_same, merge_ks e3 .nil List.Pairwise.nil⟩) q⟩) (by decide) (by decide) hs
theorem ev_reverse {k : Nat} {xs : List SV} (ha : EV X na a sl cs (.cell k) cs1) (hc : cs1[k]? = some (.lst xs)) (p : PutC cs1 k (.lst xs.reverse) cs2) (hbase : attributeBase a "reverse" X.env (eval a X.env) = eval a X.env := by rfl) (hline : (apos.endLine == pos.line) = true := by rfl) :
    EV X na (.Call (.Attribute a "reverse" apos) [] [] pos) sl cs (.val .none) cs2 :=
  ev_of (pe_bm0 PySem.F.plainAttrs_list PySem.F.slot_list_reverse PySem.F.type_list_reverse mt_reverse pe_any hbase hline) fun B G ps σ H hn C S Q q => ha B G ps σ H hn C S _ fun v G1 ps1 H1 C1 u1 r1 => by
    obtain ⟨l, rfl, e, ws, h1, h2⟩ := C1.cellAt r1 hc
    rw [p.at] at q
    exact ⟨.inl ⟨rfl, ws, SqL.of h1⟩, l, ws, rfl, rfl, h1, q _ G1 ps1 _ (C1.put (c' := .lst xs.reverse) e hc (by intro z; cases z) ⟨_, upd_same, pd_rev h2⟩) u1 Rep.non⟩
end
end DL
namespace DL
open PySem PySem.Spec PyProof.Rows L2
theorem ret_val {na : Nat} {d d' : PyData} {c c2 : Cs} (hd : d = d') (hc : c2.take na = c) (hl : c.length = na) (lt : c.all (CC.lt na) = true) : RetOk na (.val d') c (.val d) c2 := by
  subst hd
  refine .val ?_ hl lt
  rw [← hc]
  exact List.take_prefix _ _
theorem ret_new {na k : Nat} {o o' : CC} {c c2 : Cs} (hk : na ≤ k) (ho : c2[k]? = some o) (e : o = o') (hf : o'.flat = true) (hd : o' ≠ .dead) (hc : c2.take na = c) (hl : c.length = na) (lt : c.all (CC.lt na) = true) : RetOk na (.cell na) (c ++ [o']) (.cell k) c2 := by
  subst e
  refine .new hk ho hf hd ?_ hl lt
  rw [← hc]
  exact List.take_prefix _ _
theorem ret_frz {na k : Nat} {d d' : PyData} {o : CC} {c c2 : Cs} (hk : na ≤ k) (ho : c2[k]? = some o) (hd : o.data = some d) (e : d = d') (hc : c2.take na = c) (hl : c.length = na) (lt : c.all (CC.lt na) = true) : RetOk na (.val d') c (.cell k) c2 := by
  subst e
  refine .frz hk ho hd ?_ hl lt
  rw [← hc]
  exact List.take_prefix _ _
/-! ### items by a place that is not written -/
theorem at_if {α : Type} {x y : α} {b : Bool} : atI [x, y] (if b = true then 1 else 0) = some (if b = true then y else x) := by cases b <;> rfl
theorem at_in {α : Type} {xs : List α} {i : Int} {d : α} (h0 : 0 ≤ i) (h1 : i < xs.length) : atI xs i = some (xs.getD i.toNat d) := by
  have e : i = (i.toNat : Int) := by omega
  have h2 : i.toNat < xs.length := by omega
  rw [e]
  refine atI_nat ?_
  rw [Int.toNat_natCast, List.getElem?_eq_getElem h2, List.getD_eq_getElem?_getD, List.getElem?_eq_getElem h2]
  rfl
theorem at_map {α β : Type} {xs : List α} {f : α → β} {i : Int} {d : α} (h0 : 0 ≤ i) (h1 : i < xs.length) : atI (xs.map f) i = some (f (xs.getD i.toNat d)) := by
  rw [at_in (d := f d) h0 (by rw [List.length_map]; exact h1)]
  congr 1
  rw [List.getD_eq_getElem?_getD, List.getD_eq_getElem?_getD, List.getElem?_map]
  cases xs[i.toNat]? <;> rfl
/-! ### sizes of ints -/
def Bd (n : Int) : Prop := ∃ b : Nat, b ≤ 1100000 ∧ n.natAbs < 2 ^ b
theorem bd_lt {n : Int} (h : n.natAbs < 18446744073709551616) : Bd n := ⟨64, by omega, h⟩
theorem bd_mul_small {n m : Int} (h : Bd n) (hm : m.natAbs < 18446744073709551616) : CMulX n m := by
  obtain ⟨b, hb, h⟩ := h
  exact mulx_ok (b := 64) h hm (by omega)
theorem small_mul {n m : Int} (h : n.natAbs < 18446744073709551616) (hm : m.natAbs < 18446744073709551616) : CMulX n m := mulx_ok (a := 64) (b := 64) h hm (by omega)
theorem small_div {i j : Int} (h : 0 < j) (hj : j.natAbs < 18446744073709551616) : CDivW i j := wide_div (b := 64) h hj (by decide) (by decide)
theorem bd_div {n m : Int} (h : Bd n) : Bd (n / m) := by
  obtain ⟨b, hb, h⟩ := h
  exact ⟨b, hb, Nat.lt_of_le_of_lt (Int.natAbs_ediv_le_natAbs n m) h⟩
theorem bd_bits {n : Int} (h : Builtin.Int.intBits n ≤ 1048576) : Bd n := by
  refine ⟨1048577, by omega, ?_⟩
  unfold Builtin.Int.intBits at h
  by_cases z : n = 0
  · subst z
    exact Nat.two_pow_pos _
  · have h0 : n.natAbs ≠ 0 := by omega
    have : n.natAbs.log2 < 1048577 := by
      have h' := h
      rw [if_neg (by simpa using z)] at h'
      omega
    exact (Nat.log2_lt h0).mp this
/-! ### ways that meet again -/
theorem sx_cut {X : Cx} {na : Nat} {sl : Sl} {cs : Cs} {st : Stmt} {rest : List Stmt} {E : DEnds} (M : Sl → Cs → Prop) (h : S1 X na st sl cs { E with nx := M }) (k : ∀ sl' cs', M sl' cs' → SX X na rest sl' cs' E) : SX X na (st :: rest) sl cs E :=
  sx_cons fun B G ps σ H hn C S D L => h B G ps σ H hn C S D ⟨fun sl' cs' G' ps' σ' H' C' u' S' q => L.nx sl' cs' G' ps' σ' H' C' u' S' (k sl' cs' q), L.rt, L.bk, L.ct⟩
theorem sx_cutF {X : Cx} {na : Nat} {sl : Sl} {cs : Cs} {st : Stmt} {rest : List Stmt} {E : DEnds} (a : Sl) (c : Cs) (h : S1 X na st sl cs { E with nx := fun sl' cs' => Le a sl' ∧ cs' = c }) (k : SX X na rest a c E) : SX X na (st :: rest) sl cs E :=
  sx_cut _ h fun sl' cs' ⟨l, e⟩ => by
    subst e
    exact sx_weak l k
end DL
namespace DL
open PySem PySem.Spec PyProof.Rows L2
/-! ### isinstance, by classes -/
def isTup : PyData → Bool
  | .tuple _ => true
  | _ => false
def isInt : PyData → Bool
  | .int _ => true
  | .bool _ => true
  | _ => false
def isBool : PyData → Bool
  | .bool _ => true
  | _ => false
def isStr : PyData → Bool
  | .str _ => true
  | _ => false
def isLst : PyData → Bool
  | .list _ => true
  | _ => false
section
variable {K : PySem.W.Frag}
theorem kit_tup (d : PyData) : PySem.W.kitOne K (.type (tyOf d)) (.type "tuple") = some (isTup d) := by cases d <;> (dsimp only [tyOf, isTup, isInt, isBool, isStr, isLst]; exact kit_ty (by decide +kernel))
theorem kit_int (d : PyData) : PySem.W.kitOne K (.type (tyOf d)) (.type "int") = some (isInt d) := by cases d <;> (dsimp only [tyOf, isTup, isInt, isBool, isStr, isLst]; exact kit_ty (by decide +kernel))
theorem kit_bool (d : PyData) : PySem.W.kitOne K (.type (tyOf d)) (.type "bool") = some (isBool d) := by cases d <;> (dsimp only [tyOf, isTup, isInt, isBool, isStr, isLst]; exact kit_ty (by decide +kernel))
theorem kit_str (d : PyData) : PySem.W.kitOne K (.type (tyOf d)) (.type "str") = some (isStr d) := by cases d <;> (dsimp only [tyOf, isTup, isInt, isBool, isStr, isLst]; exact kit_ty (by decide +kernel))
theorem kit_lst (d : PyData) : PySem.W.kitOne K (.type (tyOf d)) (.type "list") = some (isLst d) := by cases d <;> (dsimp only [tyOf, isTup, isInt, isBool, isStr, isLst]; exact kit_ty (by decide +kernel))
end
section
variable {X : Cx} {na : Nat} {sl sl' : Sl} {cs cs1 cs2 cs3 : Cs} {s t u : SV} {pos : Pos} {x : Str} {E : DEnds} {N : List Str} {a b : Expr} {p p2 pos2 apos cpos : Pos} {d : PyData}
theorem ev_isTup (hm : X.mg "isinstance" = none) (hg : Gl X "isinstance") (ha : EV X na a sl cs (.val d) cs1) (hmT : X.mg "tuple" = none) (hgT : Gl X "tuple")
    (hs : starEach [a, .Name "tuple" p2] X.env = (false, eval a X.env) :: starEach [.Name "tuple" p2] X.env := by rfl) : EV X na (.Call (.Name "isinstance" p) [a, .Name "tuple" p2] [] pos) sl cs (.val (.bool (isTup d))) cs1 :=
  ev_isi hm hg ha hmT hgT (by decide +kernel) (kit_tup d) (by decide) (by decide) hs
theorem ev_isInt (hm : X.mg "isinstance" = none) (hg : Gl X "isinstance") (ha : EV X na a sl cs (.val d) cs1) (hmT : X.mg "int" = none) (hgT : Gl X "int")
    (hs : starEach [a, .Name "int" p2] X.env = (false, eval a X.env) :: starEach [.Name "int" p2] X.env := by rfl) : EV X na (.Call (.Name "isinstance" p) [a, .Name "int" p2] [] pos) sl cs (.val (.bool (isInt d))) cs1 :=
  ev_isi hm hg ha hmT hgT (by decide +kernel) (kit_int d) (by decide) (by decide) hs
theorem ev_isBool (hm : X.mg "isinstance" = none) (hg : Gl X "isinstance") (ha : EV X na a sl cs (.val d) cs1) (hmT : X.mg "bool" = none) (hgT : Gl X "bool")
    (hs : starEach [a, .Name "bool" p2] X.env = (false, eval a X.env) :: starEach [.Name "bool" p2] X.env := by rfl) : EV X na (.Call (.Name "isinstance" p) [a, .Name "bool" p2] [] pos) sl cs (.val (.bool (isBool d))) cs1 :=
  ev_isi hm hg ha hmT hgT (by decide +kernel) (kit_bool d) (by decide) (by decide) hs
theorem ev_isStr (hm : X.mg "isinstance" = none) (hg : Gl X "isinstance") (ha : EV X na a sl cs (.val d) cs1) (hmT : X.mg "str" = none) (hgT : Gl X "str")
    (hs : starEach [a, .Name "str" p2] X.env = (false, eval a X.env) :: starEach [.Name "str" p2] X.env := by rfl) : EV X na (.Call (.Name "isinstance" p) [a, .Name "str" p2] [] pos) sl cs (.val (.bool (isStr d))) cs1 :=
  ev_isi hm hg ha hmT hgT (by decide +kernel) (kit_str d) (by decide) (by decide) hs
theorem ev_isLst (hm : X.mg "isinstance" = none) (hg : Gl X "isinstance") (ha : EV X na a sl cs (.val d) cs1) (hmT : X.mg "list" = none) (hgT : Gl X "list")
    (hs : starEach [a, .Name "list" p2] X.env = (false, eval a X.env) :: starEach [.Name "list" p2] X.env := by rfl) : EV X na (.Call (.Name "isinstance" p) [a, .Name "list" p2] [] pos) sl cs (.val (.bool (isLst d))) cs1 :=
  ev_isi hm hg ha hmT hgT (by decide +kernel) (kit_lst d) (by decide) (by decide) hs
/-- [elt for tg in iter]: item by item, the cells as they were -/
theorem lc_M {elt tg iter : Expr} {scope : Scope} {own : List (Str × Nat)} {xs : List SV} {GC : Cs → Prop} (h : IV X na tg iter sl cs xs GC cs1)
    (ds : List PyData) (a : Nat → Sl) (c2 : Nat → Cs) (hl : ds.length = xs.length) (hz : xs.length ≤ 100000) (hG : GC cs1)
    (hg : ∀ i s, xs[i]? = some s → ∀ st H C cl fp, GW (blkOf X scope st H C cl fp) cs1.length tg s (wipeS sl (own.map (·.2))) cs1 (own.map (·.2)) fun sl2 cs2 => sl2 = a i ∧ cs2 = cs1)
    (he : ∀ i s d, xs[i]? = some s → ds[i]? = some d → (∀ st H C cl fp, EV (blkOf X scope st H C cl fp) cs1.length elt (a i) cs1 (.val d) (c2 i)) ∧ AtC cs1.length cs1 (c2 i))
    : LC X na elt tg iter [] scope own sl cs ds cs1 := by
  have := lc_gen (elt := elt) (ifs := []) (sl := sl) (scope := scope) (own := own) h a (fun _ => cs1) c2 (fun _ => true) (fun i => ds.getD i .none) (fun i => ds.take i) rfl rfl hz (fun _ _ => hG) hg (fun i s e st H C cl fp => tvs_nil)
    (fun i s e _ => by
      have hi : i < ds.length := by rw [hl]; exact (List.getElem?_eq_some_iff.mp e).1
      have e2 : ds[i]? = some (ds.getD i .none) := by rw [List.getD_eq_getElem?_getD, List.getElem?_eq_getElem hi]; rfl
      obtain ⟨h1, h2⟩ := he i s _ e e2
      refine ⟨h1, h2, ?_⟩
      rw [List.take_add_one, e2]
      rfl)
    (fun _ _ _ z => nomatch z)
  rw [← hl, List.take_of_length_le (Nat.le_refl _)] at this
  exact this
/-- .. of those that a test lets by -/
theorem lc_F {α : Type} {elt tg iter ift : Expr} {scope : Scope} {own : List (Str × Nat)} {GC : Cs → Prop} (es : List α) (f : α → SV) (h : IV X na tg iter sl cs (es.map f) GC cs1)
    (k : α → Bool) (v : α → PyData) (a : α → Sl) (c2 : α → Cs) (hz : es.length ≤ 100000) (hG : GC cs1)
    (hg : ∀ e ∈ es, ∀ st H C cl fp, GW (blkOf X scope st H C cl fp) cs1.length tg (f e) (wipeS sl (own.map (·.2))) cs1 (own.map (·.2)) fun sl2 cs2 => sl2 = a e ∧ cs2 = cs1)
    (ht : ∀ e ∈ es, ∀ st H C cl fp, TV (blkOf X scope st H C cl fp) cs1.length ift (a e) cs1 (k e) cs1)
    (he : ∀ e ∈ es, k e = true → (∀ st H C cl fp, EV (blkOf X scope st H C cl fp) cs1.length elt (a e) cs1 (.val (v e)) (c2 e)) ∧ AtC cs1.length cs1 (c2 e))
    : LC X na elt tg iter [ift] scope own sl cs ((es.filter k).map v) cs1 := by
  cases es with
  | nil =>
    exact lc_gen (elt := elt) (ifs := [ift]) (sl := sl) (scope := scope) (own := own) h (fun _ => sl) (fun _ => cs1) (fun _ => cs1) (fun _ => true) (fun _ => .none) (fun _ => []) rfl rfl (Nat.zero_le _) (fun _ _ => hG) (fun i s e => by simp at e) (fun i s e => by simp at e) (fun i s e => by simp at e) (fun i s e => by simp at e)
  | cons e0 er =>
    have get : ∀ {i : Nat} {s : SV}, ((e0 :: er).map f)[i]? = some s → ∃ e, (e0 :: er)[i]? = some e ∧ s = f e ∧ (e0 :: er).getD i e0 = e := fun {i s} e => by
      rw [List.getElem?_map] at e
      cases q : (e0 :: er)[i]? with
      | none => rw [q] at e; cases e
      | some z =>
        rw [q] at e
        cases e
        exact ⟨z, rfl, rfl, by rw [List.getD_eq_getElem?_getD, q]; rfl⟩
    have := lc_gen (elt := elt) (ifs := [ift]) (sl := sl) (scope := scope) (own := own) h (fun i => a ((e0 :: er).getD i e0)) (fun _ => cs1) (fun i => c2 ((e0 :: er).getD i e0)) (fun i => k ((e0 :: er).getD i e0)) (fun i => v ((e0 :: er).getD i e0)) (fun i => (((e0 :: er).take i).filter k).map v) rfl rfl (by rw [List.length_map]; exact hz) (fun _ _ => hG)
      (fun i s e st H C cl fp => by
        obtain ⟨z, h1, rfl, h3⟩ := get e
        rw [h3]
        exact hg z (List.mem_of_getElem? h1) st H C cl fp)
      (fun i s e st H C cl fp => by
        obtain ⟨z, h1, rfl, h3⟩ := get e
        rw [h3]
        exact tvs_one (ht z (List.mem_of_getElem? h1) st H C cl fp))
      (fun i s e hk => by
        obtain ⟨z, h1, rfl, h3⟩ := get e
        rw [h3] at hk
        obtain ⟨g1, g2⟩ := he z (List.mem_of_getElem? h1) hk
        refine ⟨by rw [h3]; exact g1, by rw [h3]; exact g2, ?_⟩
        rw [h3, List.take_add_one, h1, List.filter_append, List.map_append]
        simp [hk])
      (fun i s e hk => by
        obtain ⟨z, h1, rfl, h3⟩ := get e
        rw [h3] at hk
        refine ⟨rfl, ?_⟩
        rw [List.take_add_one, h1, List.filter_append, List.map_append]
        simp [hk])
    rw [List.length_map, List.take_of_length_le (Nat.le_refl _)] at this
    exact this
theorem ev_lcM {elt tg iter : Expr} {scope : Scope} {own : List (Str × Nat)} {xs : List SV} {GC : Cs → Prop} (hc : X.calm = true) (nd : X.N.Nodup) (ok : BlkOk X.N X.env.scope scope own) (h : IV X na tg iter sl cs xs GC cs1)
    (ds : List PyData) (a : Nat → Sl) (c2 : Nat → Cs) (hl : ds.length = xs.length) (hz : xs.length ≤ 100000) (hG : GC cs1)
    (hg : ∀ i s, xs[i]? = some s → ∀ st H C cl fp, GW (blkOf X scope st H C cl fp) cs1.length tg s (wipeS sl (own.map (·.2))) cs1 (own.map (·.2)) fun sl2 cs2 => sl2 = a i ∧ cs2 = cs1)
    (he : ∀ i s d, xs[i]? = some s → ds[i]? = some d → (∀ st H C cl fp, EV (blkOf X scope st H C cl fp) cs1.length elt (a i) cs1 (.val d) (c2 i)) ∧ AtC cs1.length cs1 (c2 i))
    (hs : ∀ x, foldedSetIterable iter X.env x = pure x := by intro _; rfl) : EV X na (.ListComp elt [⟨tg, iter, [], 0⟩] scope pos) sl cs (.val (.list ds)) cs1 :=
  ev_LC hc nd ok (lc_M h ds a c2 hl hz hG hg he) hs
theorem ev_lcF {α : Type} {elt tg iter ift : Expr} {scope : Scope} {own : List (Str × Nat)} {GC : Cs → Prop} (hc : X.calm = true) (nd : X.N.Nodup) (ok : BlkOk X.N X.env.scope scope own) (es : List α) (f : α → SV) (h : IV X na tg iter sl cs (es.map f) GC cs1)
    (k : α → Bool) (v : α → PyData) (a : α → Sl) (c2 : α → Cs) (hz : es.length ≤ 100000) (hG : GC cs1)
    (hg : ∀ e ∈ es, ∀ st H C cl fp, GW (blkOf X scope st H C cl fp) cs1.length tg (f e) (wipeS sl (own.map (·.2))) cs1 (own.map (·.2)) fun sl2 cs2 => sl2 = a e ∧ cs2 = cs1)
    (ht : ∀ e ∈ es, ∀ st H C cl fp, TV (blkOf X scope st H C cl fp) cs1.length ift (a e) cs1 (k e) cs1)
    (he : ∀ e ∈ es, k e = true → (∀ st H C cl fp, EV (blkOf X scope st H C cl fp) cs1.length elt (a e) cs1 (.val (v e)) (c2 e)) ∧ AtC cs1.length cs1 (c2 e))
    (hs : ∀ x, foldedSetIterable iter X.env x = pure x := by intro _; rfl) : EV X na (.ListComp elt [⟨tg, iter, [ift], 0⟩] scope pos) sl cs (.val (.list ((es.filter k).map v))) cs1 :=
  ev_LC hc nd ok (lc_F es f h k v a c2 hz hG hg ht he) hs
theorem ev_is {e : Expr} (h : EV X na e sl cs s cs1) (q : s = t) : EV X na e sl cs t cs1 := q ▸ h
theorem tv_is {e : Expr} {k l : Bool} (h : TV X na e sl cs k cs1) (q : k = l) : TV X na e sl cs l cs1 := q ▸ h
theorem ev_nameV {i : Nat} (nd : X.N.Nodup) (hN : X.N = N) (l : Lk N sl x i s) (hv : Vis X.env.scope x := by first | exact Or.inl rfl | exact Or.inr (Or.inl rfl) | exact Or.inr (Or.inr rfl)) (hd : (x == ("__debug__" : Str)) = false := by decide) (hcd : (x == ("__classdict__" : Str)) = false := by decide) : EV X na (.Name x pos) sl cs s cs := by
  subst hN
  obtain ⟨h1, h2⟩ := l.at
  refine ev_of (pe_var h1 hv hd hcd) fun B G ps σ H hn C S Q q => ?_
  obtain ⟨o, ho, hr⟩ := pd_get S h2
  cases o with
  | none => exact hr.elim
  | some v => exact ⟨v, ho, q v G ps H C (Up.refl _ _) hr⟩
end
end DL
namespace DL
open PySem PySem.Spec PyProof.Rows L2
theorem rg_at {α : Type} {n i : Nat} {f : Nat → α} {s : α} (h : ((List.range n).map f)[i]? = some s) : i < n ∧ s = f i := by
  rw [List.getElem?_map] at h
  by_cases hi : i < n
  · rw [List.getElem?_range hi] at h
    cases h
    exact ⟨hi, rfl⟩
  · rw [List.getElem?_eq_none (by rw [List.length_range]; omega)] at h
    cases h
section
variable {X : Cx} {N : List Str} {na : Nat} {sl sl' : Sl} {cs cs1 cs2 : Cs} {s t : SV} {x : Str} {E : DEnds} {pos p : Pos} {tg iter : Expr}
/-- for over the items of a written list of things; the state told by what has been gone through -/
theorem s1_forP {α : Type} {body : List Stmt} {GC : Cs → Prop} (es : List α) (f : α → SV) (hp : PassesOwn (model X.prog X.w) X.A X.env X.xe) (hc : X.calm = true) (h : IV X na tg iter sl cs (es.map f) GC cs1) (a : List α → Sl) (c : List α → Cs) (h0 : Le (a []) sl) (h1 : c [] = cs1) (hG : ∀ pre post, es = pre ++ post → GC (c pre))
    (hs : ∀ pre e post, es = pre ++ e :: post → GX X na tg (f e) (a pre) (c pre) fun sl2 cs2 => SX X na body sl2 cs2 { E with nx := At cs1.length (a (pre ++ [e])) (c (pre ++ [e])), ct := At cs1.length (a (pre ++ [e])) (c (pre ++ [e])), bk := E.nx })
    (hd : ∀ sl', Le (a es) sl' → E.nx sl' (c es))
    (hf : ∀ x, foldedSetIterable iter X.env x = pure x := by intro _; rfl) : S1 X na (.For tg iter body [] pos) sl cs E := by
  refine s1_forF hp hc h (fun i => a (es.take i)) (fun i => c (es.take i)) h0 h1 (fun i _ => hG _ (es.drop i) (List.take_append_drop i es).symm) (fun i s hs' => ?_) (fun sl' l => ?_) hf
  · rw [List.getElem?_map] at hs'
    cases he : es[i]? with
    | none => rw [he] at hs'; cases hs'
    | some e =>
      rw [he] at hs'
      cases hs'
      have e1 : es.take (i + 1) = es.take i ++ [e] := by rw [List.take_add_one, he]; rfl
      rw [e1]
      refine hs _ e (es.drop (i + 1)) ?_
      have hi := (List.getElem?_eq_some_iff.mp he).1
      have e2 : es.drop i = e :: es.drop (i + 1) := by
        rw [List.drop_eq_getElem_cons hi, (List.getElem?_eq_some_iff.mp he).2]
      rw [← e2, List.take_append_drop]
  · rw [List.length_map, List.take_of_length_le (Nat.le_refl _)] at l ⊢
    exact hd sl' l
end
end DL
namespace DL
open PySem PySem.Spec PyProof.Rows L2
/-! ### data that can be laid, of a known depth -/
def dkD : Nat → PyData → Bool
  | _, .int _ => true
  | _, .str x => PyData.strOk x
  | _, .bool _ => true
  | _, .none => true
  | n + 1, .tuple ds => ds.all (dkD n)
  | n + 1, .list ds => ds.all (dkD n)
  | _, _ => false
theorem dk_all : ∀ {n : Nat} {ds : List PyData}, (∀ d ∈ ds, d.canLay0 = true ∧ d.depth ≤ n) → PyData.canLayAll0 ds = true ∧ PyData.depthAll ds ≤ n
  | n, [], _ => ⟨by simp [PyData.canLayAll0], by simp [PyData.depthAll]⟩
  | n, d :: ds, h => by
    obtain ⟨h1, h2⟩ := h d List.mem_cons_self
    obtain ⟨k1, k2⟩ := dk_all (n := n) fun d hd => h d (List.mem_cons_of_mem _ hd)
    refine ⟨by simp [PyData.canLayAll0, h1, k1], ?_⟩
    simp only [PyData.depthAll]
    omega
theorem dk_of : ∀ {n : Nat} {d : PyData}, dkD n d = true → d.canLay0 = true ∧ d.depth ≤ n + 1
  | n, .int i, _ => ⟨by simp [PyData.canLay0], by simp [PyData.depth]⟩
  | n, .str i, h => ⟨by simp only [PyData.canLay0]; simpa [dkD] using h, by simp [PyData.depth]⟩
  | n, .bool i, _ => ⟨by simp [PyData.canLay0], by simp [PyData.depth]⟩
  | n, .none, _ => ⟨by simp [PyData.canLay0], by simp [PyData.depth]⟩
  | 0, .tuple _, h => by simp [dkD] at h
  | 0, .list _, h => by simp [dkD] at h
  | 0, .dict _, h => by simp [dkD] at h
  | n + 1, .dict _, h => by simp [dkD] at h
  | n + 1, .tuple ds, h => by
    rw [dkD, List.all_eq_true] at h
    obtain ⟨h1, h2⟩ := dk_all (n := n + 1) (ds := ds) fun d hd => dk_of (h d hd)
    refine ⟨by simp only [PyData.canLay0]; exact h1, ?_⟩
    simp only [PyData.depth]
    omega
  | n + 1, .list ds, h => by
    rw [dkD, List.all_eq_true] at h
    obtain ⟨h1, h2⟩ := dk_all (n := n + 1) (ds := ds) fun d hd => dk_of (h d hd)
    refine ⟨by simp only [PyData.canLay0]; exact h1, ?_⟩
    simp only [PyData.depth]
    omega
theorem dk_shaped {n : Nat} {d : PyData} (h : dkD n d = true) (hn : n ≤ 60) : SeqAt.shaped d = true := by
  obtain ⟨h1, h2⟩ := dk_of h
  show (d.canLay0 && decide (d.depth ≤ 64)) = true
  rw [Bool.and_eq_true]
  exact ⟨h1, decide_eq_true (by omega)⟩
theorem eqvAll_same : ∀ {ds : List PyData}, (∀ d ∈ ds, PyData.eqv d d = true) → PyData.eqvAll ds ds = true
  | [], _ => by simp [PyData.eqvAll]
  | d :: ds, h => by
    rw [PyData.eqvAll, h d List.mem_cons_self, eqvAll_same fun e he => h e (List.mem_cons_of_mem _ he)]
    rfl
theorem dk_refl : ∀ {n : Nat} {d : PyData}, dkD n d = true → PyData.eqv d d = true
  | _, .int i, _ => by simp [PyData.eqv]
  | _, .str i, _ => by simp [PyData.eqv]
  | _, .bool i, _ => by simp [PyData.eqv]
  | _, .none, _ => by simp [PyData.eqv]
  | 0, .tuple _, h => by simp [dkD] at h
  | 0, .list _, h => by simp [dkD] at h
  | 0, .dict _, h => by simp [dkD] at h
  | n + 1, .dict _, h => by simp [dkD] at h
  | n + 1, .tuple ds, h => by
    rw [dkD, List.all_eq_true] at h
    rw [PyData.eqv]
    exact eqvAll_same fun d hd => dk_refl (h d hd)
  | n + 1, .list ds, h => by
    rw [dkD, List.all_eq_true] at h
    rw [PyData.eqv]
    exact eqvAll_same fun d hd => dk_refl (h d hd)
theorem flat_map (ds : List PyData) : (CC.lst (ds.map SV.val)).flat = true := by
  show (ds.map SV.val).all SV.isVal = true
  rw [List.all_eq_true]
  intro s h
  obtain ⟨d, _, rfl⟩ := List.mem_map.mp h
  rfl
theorem all_flat1 {c : CC} (h : c.flat = true) : [c].all CC.flat = true := by simp [h]
end DL
namespace DL
open PySem PySem.Spec PyProof.Rows L2
/-! ### the law itself -/
theorem fn_def {P : Program} {w : World} {K : PySem.W.Frag} {mg : Str → Option Value} {base : Heap} {x : Str} {st : Stmt} {f : Addr} {fd : FuncData} {N ps : List Str} {k m : Nat} {spec : Spec} (F : Fun K x x st f fd) (S : FnScope N ps (defScope st)) (tb : tabOk (N.take m) (defScope st) = true)
    (body : ∀ (f : Addr) (cdv : Value) (A : Around) (outer : List Env) (s : Shared) (H : Hp) (E : XK), Room k (cxN P w K mg base N x (defScope st) f cdv A outer s H E).A → Tab (cxN P w K mg base N x (defScope st) f cdv A outer s H E) m → TabL (cxN P w K mg base N x (defScope st) f cdv A outer s H E) m →
      ∀ svs cs sv cs', spec svs cs sv cs' → svs.length = ps.length →
      SX (cxN P w K mg base N x (defScope st) f cdv A outer s H E) cs.length (defBody st) (svs.map some ++ List.replicate (N.length - svs.length) none) cs { nx := fun _ cs2 => RetOk cs.length sv cs' (.val .none) cs2, rt := fun s2 cs2 => RetOk cs.length sv cs' s2 cs2 }) :
    FnOk P w K mg base CX0 (k + 1) f fd ps (spM K ps.length spec) := by
  refine F.ok S (fun vs H Q E ⟨G, qs, svs, cs, s, cs', h, hl, C, r, q⟩ => by rw [Paired.length r, hl]) (fun cdv A outer s H vs Q E hr ⟨G, qs, svs, cs, sv, cs', h, hl, C, r, q⟩ => ⟨_, pss_any, ?_⟩)
  obtain ⟨T, TL⟩ := tab_of (X := cxN P w K mg base N x (defScope st) f cdv A outer s H E) tb rfl rfl S.nd (fun _ => rfl)
  have hb := body f cdv A outer s H E hr T TL svs cs sv cs' h hl
  refine hb ⟨G, H, qs⟩ G qs _ H C.len C (slots_start r) _ ⟨fun sl2 cs2 G' ps' σ' H' C' u' S' e => ?_, fun s2 cs2 G' ps' v H' C' u' r' e => ?_, fun _ _ _ _ _ _ _ _ _ e => e.elim, fun _ _ _ _ _ _ _ _ _ e => e.elim⟩
  · obtain ⟨G2, ps2, C2, u2, r2⟩ := e.go C' C.len u' (show RepV K G' ps' .non (.val .none) from Rep.non)
    exact q .non G2 ps2 H' C2 u2 r2
  · obtain ⟨G2, ps2, C2, u2, r2⟩ := e.go C' C.len u' r'
    exact q v G2 ps2 H' C2 u2 r2
theorem defAt_mk {K : PySem.W.Frag} {h : Heap} {mg : Str → Option Value} {x : Str} {st : Stmt} {ps : List Str} {f : Addr} {od an : Option Addr} {sl : Array (Option Value)} {oc kV dc pm cd ct : Value} (X : K.In h) (G : h.Ns mainGlobals mg)
    (a : PySem.W.nsIn K mainGlobals x = some (some (.ref f))) (l : K.lookup f = some ⟨oc, od, .func (PySem.W.fnOf x x (defArgs st) (defBody st) (defScope st) .none kV dc pm an cd ct), sl⟩) (c : PySem.W.codeIn K cd x = true) (k : PySem.W.keepIn K (.ref f) = true)
    (b : ∀ (kV doc pm : Value) (an : Option Addr) (cdv ct : Value) (us : List Value), us.length = ps.length → bindArgs (PySem.W.fnOf x x (defArgs st) (defBody st) (defScope st) .none kV doc pm an cdv ct) ⟨us, []⟩ = pure (ps.zip us)) : DefAt K mg x st ps :=
  ⟨f, _, fun_mk l c k, PySem.W.mg_of X G a, (fun_mk l c k).binds b⟩
theorem rep_ints {K : PySem.W.Frag} {H : Hp} {a : Addr} {ns : List Int} (h : SqL K H a (ns.map V.int)) : Rep K H (.ref a) (.list (ns.map .int)) := .lst h (Reps.ofInts ns)
/-- what the law is handed -/
theorem spM_law {K : PySem.W.Frag} {spec : Spec} {H : Hp} {a : Addr} {ns : List Int} (h : spec [.val (.list (ns.map .int))] [] (.val (.bool true)) []) (hS : SqL K H a (ns.map V.int)) : spM K 1 spec [.ref a] H (fun v _ => v = .bl true) fun _ _ _ => False :=
  ⟨H, [], _, [], _, [], h, rfl, ⟨Same.refl H, fun _ _ e _ => e, Same.refl H, fun _ e => .inl e, rfl, List.prefix_refl _, List.nodup_nil, fun _ _ _ e => by cases e⟩, .cons (rep_ints hS) .nil, fun v G' ps' H' _ _ r => Rep.boolI r⟩
end DL
namespace DL
open PySem PySem.Spec PyProof.Rows L2
theorem RepKs.repD {K : PySem.W.Frag} {G : Hp} {ps : List Addr} : ∀ {us : List (Key × V)} {kvs : List (Key × PyData)}, RepKs K G ps us (svK kvs) → RepD K G us (kvs.map fun kv => (kD kv.1, kv.2))
  | us, [], h => by cases h; exact .nil
  | us, (k, d) :: r, h => by
    cases h with
    | cons h1 h2 =>
      rename_i u us'
      obtain ⟨k', v⟩ := u
      obtain ⟨e, h1⟩ := h1
      have e : k' = k := e
      subst e
      exact RepD.cons (show Rep K G v d from h1) (RepKs.repD h2)
section
variable {K : PySem.W.Frag} {G G' : Hp} {ps ps' : List Addr} {H H' : Hp} {B : Bs} {cs cs' : Cs}
theorem Core.newDct (C : Core K B G ps cs H) {us : List (Key × V)} {kvs : List (Key × PyData)} (r : RepKs K G ps us (svK kvs)) {Q : VK} (q : ∀ v G' ps' H', Core K B G' ps' cs H' → Up G ps G' ps' → RepV K G' ps' v (.val (dD kvs)) → Q v H') : ∀ p, H p = none → Q (.ref p) (upd H p (.dK us)) := fun p hp =>
  q _ _ ps _ (C.alloc (.dK us) hp) ⟨Same.new (C.freeG hp), List.prefix_refl _⟩ (Rep.dct upd_same (RepD.mono (Same.new (C.freeG hp)) (RepKs.repD r)))
end
section
variable {X : Cx} {na : Nat} {sl sl' : Sl} {cs cs1 cs2 cs3 : Cs} {s t u : SV} {pos p : Pos} {x : Str} {E : DEnds} {N : List Str} {a b : Expr}
/-- {} that nothing writes at -/
theorem ev_dict0V : EV X na (.Dict [] [] pos) sl cs (.val (dD [])) cs :=
  ev_of pe_dnewK fun B G ps σ H hn C S Q q => C.newDct (kvs := []) .nil q
/-- dict(d), a copy that nothing writes at -/
theorem ev_dictDV {kvs : List (Key × PyData)} (hm : X.mg "dict" = none) (hg : Gl X "dict") (ha : EV X na a sl cs s cs1) (hl : IsD cs1 s (svK kvs)) (hs : starEach [a] X.env = (false, eval a X.env) :: starEach [] X.env := by rfl) : EV X na (.Call (.Name "dict" p) [a] [] pos) sl cs (.val (dD kvs)) cs1 :=
  ev_callTy call_dictD (by decide +kernel) hg hm (av_cons ha av_nil hs) (rc1 fun B G ps H v hn C r1 Q q => by
    obtain ⟨l, us, rfl, h1, h2⟩ := hl.at C r1
    exact ⟨l, us, rfl, .inl h1, C.newDct h2 q⟩) (by decide) (by decide) hs
/-- .. that is written at -/
theorem ev_dictDC {kvs : List (Key × PyData)} {n : Nat} (hm : X.mg "dict" = none) (hg : Gl X "dict") (ha : EV X na a sl cs s cs1) (hl : IsD cs1 s (svK kvs)) (ac : AppC cs1 (.dct (svK kvs)) n cs2) (hs : starEach [a] X.env = (false, eval a X.env) :: starEach [] X.env := by rfl) : EV X na (.Call (.Name "dict" p) [a] [] pos) sl cs (.cell n) cs2 :=
  ev_callTy call_dictD (by decide +kernel) hg hm (av_cons ha av_nil hs) (rc1 fun B G ps H v hn C r1 Q q => by
    obtain ⟨l, us, rfl, h1, h2⟩ := hl.at C r1
    exact ⟨l, us, rfl, .inl h1, C.newCell ac (fun p hp => ⟨us, upd_same, RepKs.mono ⟨Same.refl _, List.prefix_append _ _⟩ h2⟩) q⟩) (by decide) (by decide) hs
/-! ### dicts compared, of flat values -/
def flatD : PyData → Bool
  | .int _ => true
  | .str _ => true
  | .bool _ => true
  | .none => true
  | _ => false
theorem Rep.flat1 {K : PySem.W.Frag} {G : Hp} {v w : V} {d : PyData} (h : flatD d = true) (r : Rep K G v d) (r2 : Rep K G w d) : v = w ∧ flatB v = true := by
  cases d <;> first | (cases r; cases r2; exact ⟨rfl, rfl⟩) | (simp [flatD] at h; done)
theorem valV_mem : ∀ {us : List (Key × V)} {k : Key} {v : V}, (us.map (·.1)).Nodup → (k, v) ∈ us → valV us k = some v
  | [], _, _, _, h => nomatch h
  | (j, u) :: r, k, v, hn, h => by
    rw [List.map_cons, List.nodup_cons] at hn
    rcases List.mem_cons.mp h with h1 | h1
    · cases h1
      unfold valV
      rw [List.find?_cons_of_pos (by simp)]
      rfl
    · have hjk : ¬ j = k := fun z => hn.1 (z ▸ List.mem_map.mpr ⟨_, h1, rfl⟩)
      have := valV_mem hn.2 h1
      unfold valV at this ⊢
      rw [List.find?_cons_of_neg (by simpa using hjk)]
      exact this
theorem repKs_same {K : PySem.W.Frag} {G : Hp} {ps : List Addr} : ∀ {us ls : List (Key × V)} {kvs : List (Key × PyData)}, (∀ kv ∈ kvs, flatD kv.2 = true) → RepKs K G ps us (svK kvs) → RepKs K G ps ls (svK kvs) → us = ls ∧ (∀ p ∈ us, flatB p.2 = true) ∧ us.map (·.1) = kvs.map (·.1)
  | us, ls, [], _, h1, h2 => by cases h1; cases h2; exact ⟨rfl, fun _ h => (nomatch h), rfl⟩
  | us, ls, (k, d) :: r, hf, h1, h2 => by
    cases h1 with
    | cons g1 t1 =>
      cases h2 with
      | cons g2 t2 =>
        rename_i u us' l ls'
        obtain ⟨e1, f1⟩ := g1
        obtain ⟨e2, f2⟩ := g2
        obtain ⟨i1, i2, i3⟩ := repKs_same (fun kv h => hf kv (List.mem_cons_of_mem _ h)) t1 t2
        obtain ⟨j1, j2⟩ := Rep.flat1 (hf (k, d) List.mem_cons_self) f1 f2
        obtain ⟨ku, vu⟩ := u
        obtain ⟨kl, vl⟩ := l
        have e1 : ku = k := e1
        have e2 : kl = k := e2
        have j1 : vu = vl := j1
        subst e1 e2 j1 i1
        refine ⟨rfl, fun p h => ?_, ?_⟩
        · rcases List.mem_cons.mp h with h | h
          · rw [h]; exact j2
          · exact i2 p h
        · rw [List.map_cons, List.map_cons, i3]
theorem rv_eqDF {K : PySem.W.Frag} {kvs : List (Key × PyData)} (hd : IsD cs s (svK kvs)) (he : IsD cs t (svK kvs)) (hf : ∀ kv ∈ kvs, flatD kv.2 = true) (nd : (kvs.map (·.1)).Nodup) : RV K na rEqDA s t cs (.val (.bool true)) cs := fun B G ps H v w hn C r1 r2 Q q => by
  obtain ⟨a, us, rfl, h1, h2⟩ := hd.at C r1
  obtain ⟨b, ls, rfl, h3, h4⟩ := he.at C r2
  obtain ⟨rfl, h5, h6⟩ := repKs_same hf h2 h4
  exact ⟨a, b, us, us, rfl, rfl, h1, h3, rfl, fun p hp => ⟨valV_mem (by rw [h6]; exact nd) hp, h5 p hp⟩, q _ G ps H C (Up.refl _ _) (Rep.bl _)⟩
theorem rv_neDF {K : PySem.W.Frag} {kvs : List (Key × PyData)} (hd : IsD cs s (svK kvs)) (he : IsD cs t (svK kvs)) (hf : ∀ kv ∈ kvs, flatD kv.2 = true) (nd : (kvs.map (·.1)).Nodup) : RV K na rNeDA s t cs (.val (.bool false)) cs := fun B G ps H v w hn C r1 r2 Q q => by
  obtain ⟨a, us, rfl, h1, h2⟩ := hd.at C r1
  obtain ⟨b, ls, rfl, h3, h4⟩ := he.at C r2
  obtain ⟨rfl, h5, h6⟩ := repKs_same hf h2 h4
  exact ⟨a, b, us, us, rfl, rfl, h1, h3, rfl, fun p hp => ⟨valV_mem (by rw [h6]; exact nd) hp, h5 p hp⟩, q _ G ps H C (Up.refl _ _) (Rep.bl _)⟩
theorem tv_eqDF {kvs : List (Key × PyData)} {k : Nat} (hr : Room k X.A) (ha : EV X na a sl cs s cs1) (hb : EV X na b sl cs1 t cs2) (hd : IsD cs2 s (svK kvs)) (he : IsD cs2 t (svK kvs)) (hf : ∀ kv ∈ kvs, flatD kv.2 = true) (nd : (kvs.map (·.1)).Nodup) : TV X na (.Compare a [.Eq] [b] pos) sl cs true cs2 :=
  tv_cmp (op_eq_dictA (by have := hr.un; omega)) (nomark _) ha hb (rv_eqDF hd he hf nd)
theorem ev_eqDF {kvs : List (Key × PyData)} {k : Nat} (hr : Room k X.A) (ha : EV X na a sl cs s cs1) (hb : EV X na b sl cs1 t cs2) (hd : IsD cs2 s (svK kvs)) (he : IsD cs2 t (svK kvs)) (hf : ∀ kv ∈ kvs, flatD kv.2 = true) (nd : (kvs.map (·.1)).Nodup) : EV X na (.Compare a [.Eq] [b] pos) sl cs (.val (.bool true)) cs2 :=
  ev_cmp (op_eq_dictA (by have := hr.un; omega)) (nomark _) ha hb (rv_eqDF hd he hf nd)
theorem tv_neDF {kvs : List (Key × PyData)} {k : Nat} (hr : Room k X.A) (ha : EV X na a sl cs s cs1) (hb : EV X na b sl cs1 t cs2) (hd : IsD cs2 s (svK kvs)) (he : IsD cs2 t (svK kvs)) (hf : ∀ kv ∈ kvs, flatD kv.2 = true) (nd : (kvs.map (·.1)).Nodup) : TV X na (.Compare a [.NotEq] [b] pos) sl cs false cs2 :=
  tv_cmp (op_ne_dictA (by have := hr.un; omega)) (nomark _) ha hb (rv_neDF hd he hf nd)
end
end DL
namespace DL
open PySem PySem.Spec PyProof.Rows L2
section
variable {X : Cx} {na : Nat} {sl sl' : Sl} {cs cs1 cs2 cs3 : Cs} {s t u : SV} {pos p : Pos} {x : Str} {R : Sl → Cs → Prop}
/-- (a, b, ..) = a list -/
theorem gx_lst {es : List Expr} {k : Nat} {xs : List SV} {n : Nat} (hc : X.calm = true) (hl : IsL cs s xs) (h : GXs X na es xs sl cs R) (hn2 : xs.length = n)
    (hn : (assignEach es X.env).length = n := by rfl) (hst : (assignEach es X.env).findIdx? (·.1) = none := by rfl) : GX X na (.Tuple es k pos) s sl cs R :=
  gx_of (pg_lst hc pgs_any hn hst) fun B G ps σ H v hn C S r Q q => by
    obtain ⟨a, vs, rfl, h1, h2⟩ := hl.sq C r
    exact ⟨a, vs, rfl, h1, (Paired.length h2).trans hn2, h B G ps σ H _ hn C S h2 Q q⟩
end
theorem rev_ind {α : Type} {p : List α → Prop} (l : List α) (h0 : p []) (hs : ∀ l x, p l → p (l ++ [x])) : p l := by
  have : ∀ l : List α, p l.reverse := fun l => by
    induction l with
    | nil => exact h0
    | cons x r ih => rw [List.reverse_cons]; exact hs _ _ ih
  have h2 := this l.reverse
  rwa [List.reverse_reverse] at h2
/-! ### dicts with texts as keys -/
def lkS {α : Type} : List (Str × α) → Str → Option α
  | [], _ => none
  | (j, v) :: r, k => if j = k then some v else lkS r k
def putSt {α : Type} : List (Str × α) → Str → α → List (Str × α)
  | [], k, v => [(k, v)]
  | (j, u) :: r, k, v => if j = k then (j, v) :: r else (j, u) :: putSt r k v
def kvT {α : Type} (f : α → PyData) (ps : List (Str × α)) : List (Key × PyData) := ps.map fun p => (Sum.inr p.1, f p.2)
section
variable {α : Type} {f : α → PyData}
theorem putS_T (k : Str) (v : α) : ∀ ps : List (Str × α), putS (svK (kvT f ps)) (.inr k) (.val (f v)) = svK (kvT f (putSt ps k v))
  | [] => rfl
  | (j, u) :: r => by
    show (if (Sum.inr j : Key) = .inr k then _ else _) = svK (kvT f (if j = k then (j, v) :: r else (j, u) :: putSt r k v))
    by_cases h : j = k
    · rw [if_pos h, if_pos (by rw [h])]
      rfl
    · rw [if_neg h, if_neg (fun z => h (by cases z; rfl))]
      show (_ :: putS (svK (kvT f r)) (.inr k) (.val (f v))) = _
      rw [putS_T k v r]
      rfl
theorem lk_T (k : Str) : ∀ ps : List (Str × α), lkK (svK (kvT f ps)) (.inr k) = (lkS ps k).map fun a => .val (f a)
  | [] => rfl
  | (j, u) :: r => by
    show (if (Sum.inr j : Key) = .inr k then _ else lkK (svK (kvT f r)) (.inr k)) = (if j = k then some u else lkS r k).map fun a => .val (f a)
    by_cases h : j = k
    · rw [if_pos h, if_pos (by rw [h])]
      rfl
    · rw [if_neg h, if_neg (fun z => h (by cases z; rfl)), lk_T k r]
theorem putSt_len (k : Str) (v : α) : ∀ ps : List (Str × α), (putSt ps k v).length ≤ ps.length + 1
  | [] => Nat.le_refl _
  | (j, u) :: r => by
    show (if j = k then (j, v) :: r else (j, u) :: putSt r k v).length ≤ r.length + 1 + 1
    have := putSt_len k v r
    split
    · rw [List.length_cons]; omega
    · rw [List.length_cons]; omega
theorem putSt_fst (k : Str) (v : α) : ∀ ps : List (Str × α), ∀ i ∈ (putSt ps k v).map (·.1), i = k ∨ i ∈ ps.map (·.1)
  | [], i, h => by
    have : i ∈ [k] := h
    rw [List.mem_singleton] at this
    exact .inl this
  | (j, u) :: r, i, h => by
    have h : i ∈ (if j = k then (j, v) :: r else (j, u) :: putSt r k v).map (·.1) := h
    split at h
    · exact .inr h
    · rw [List.map_cons, List.mem_cons] at h
      rw [List.map_cons, List.mem_cons]
      rcases h with h | h
      · exact .inr (.inl h)
      · exact (putSt_fst k v r i h).imp id .inr
theorem putSt_nd (k : Str) (v : α) : ∀ ps : List (Str × α), (ps.map (·.1)).Nodup → ((putSt ps k v).map (·.1)).Nodup
  | [], _ => by show [k].Nodup; simp
  | (j, u) :: r, h => by
    show ((if j = k then (j, v) :: r else (j, u) :: putSt r k v).map (·.1)).Nodup
    rw [List.map_cons, List.nodup_cons] at h
    split
    · rw [List.map_cons, List.nodup_cons]; exact h
    · rename_i hj
      rw [List.map_cons, List.nodup_cons]
      refine ⟨fun z => ?_, putSt_nd k v r h.2⟩
      rcases putSt_fst k v r _ z with z | z
      · exact hj z
      · exact h.1 z
theorem kvT_len (ps : List (Str × α)) : (svK (kvT f ps)).length = ps.length := by unfold svK kvT; rw [List.length_map, List.length_map]
theorem kvT_nd {ps : List (Str × α)} (h : (ps.map (·.1)).Nodup) : ((kvT f ps).map (·.1)).Nodup := by
  have e : (kvT f ps).map (·.1) = (ps.map (·.1)).map Sum.inr := by
    unfold kvT
    rw [List.map_map, List.map_map]
    rfl
  rw [e]
  exact List.Pairwise.map _ (fun a b hab z => hab (by cases z; rfl)) h
theorem svT_nd {ps : List (Str × α)} (h : (ps.map (·.1)).Nodup) : ((svK (kvT f ps)).map (·.1)).Nodup := by
  have e : (svK (kvT f ps)).map (·.1) = (kvT f ps).map (·.1) := by
    unfold svK
    rw [List.map_map]
    rfl
  rw [e]
  exact kvT_nd h
end
theorem flat_svK (kvs : List (Key × PyData)) : (CC.dct (svK kvs)).flat = true := by
  show (svK kvs).all _ = true
  rw [List.all_eq_true]
  intro s h
  obtain ⟨d, _, rfl⟩ := List.mem_map.mp h
  rfl
theorem data_svK (kvs : List (Key × PyData)) : (CC.dct (svK kvs)).data = some (dD kvs) := by
  show (kvData (kvs.map fun kv => (kv.1, SV.val kv.2))).map _ = _
  rw [kvData_map]
  rfl
theorem lt_svK (n : Nat) (kvs : List (Key × PyData)) : (CC.dct (svK kvs)).lt n = true := by
  simp [CC.lt, SV.lt, svK]
theorem lt_map (n : Nat) (ds : List PyData) : (CC.lst (ds.map SV.val)).lt n = true := by
  simp [CC.lt, SV.lt]
/-- an item of a written list by a place that is not written -/
theorem at_pk {α β : Type} {xs : List α} {f : α → β} {d : α} {i n : Int} (h : 0 ≤ i ∧ i < n) (hn : (xs.length : Int) = n) : atI (xs.map f) i = some (f (xs.getD i.toNat d)) := at_map h.1 (by omega)
end DL
namespace DL
open PySem PySem.Spec PyProof.Rows L2
section
variable {X : Cx} {na : Nat} {sl sl' : Sl} {cs cs1 cs2 cs3 : Cs} {s t u : SV} {pos p : Pos} {x : Str} {R : Sl → Cs → Prop} {tg : Expr}
/-- the numbers from m up to n -/
def upTo (m n : Nat) : List Nat := (List.range (n - m)).map (m + ·)
theorem mem_upTo {m n k : Nat} (h : k ∈ upTo m n) : m ≤ k ∧ k < n := by
  obtain ⟨j, hj, rfl⟩ := List.mem_map.mp h
  rw [List.mem_range] at hj
  omega
theorem iv_upTo {a b : Expr} {p : Pos} {mi ni : Int} {m n : Nat} (hm : X.mg "range" = none) (hg : Gl X "range") (h : EV X na a sl cs (.val (.int mi)) cs1) (h' : EV X na b sl cs1 (.val (.int ni)) cs2) (em : mi = (m : Int)) (en : ni = (n : Int)) (hz : m < 1000000 ∧ n < 1000000)
    (hs : starEach [a, b] X.env = [(false, eval a X.env), (false, eval b X.env)] := by rfl) (hs2 : starEach [b] X.env = [(false, eval b X.env)] := by rfl) :
    IV X na tg (.Call (.Name "range" p) [a, b] [] pos) sl cs ((upTo m n).map fun k : Nat => SV.val (.int k)) (fun _ => True) cs2 := by
  subst em en
  have e : (upTo m n).map (fun k : Nat => SV.val (.int k)) = (List.range ((n : Int) - (m : Int)).toNat).map fun i => SV.val (.int ((m : Int) + (i : Nat))) := by
    unfold upTo
    rw [List.map_map, show ((n : Int) - (m : Int)).toNat = n - m by omega]
    exact List.map_congr_left fun i _ => by simp
  rw [e]
  exact iv_range2 hm hg h h' (by omega) hs hs2
theorem iv_upTo0 {a : Expr} {p : Pos} {ni : Int} {n : Nat} (hm : X.mg "range" = none) (hg : Gl X "range") (h : EV X na a sl cs (.val (.int ni)) cs1) (en : ni = (n : Int)) (hz : n < 1000000) (hs : starEach [a] X.env = [(false, eval a X.env)] := by rfl) :
    IV X na tg (.Call (.Name "range" p) [a] [] pos) sl cs ((List.range n).map fun k : Nat => SV.val (.int k)) (fun _ => True) cs1 := by
  subst en
  exact iv_range1 hm hg h (by omega) (by omega) hs
/-! ### and, or, where the first is known: what is made behind it stays -/
theorem wv_or0 {a b : Expr} {rest : List Expr} {l : Bool} (ha : TV X na a sl cs false cs1) (hb : WV X na (.BoolOp .Or (b :: rest) pos) sl cs1 l cs2) : WV X na (.BoolOp .Or (a :: b :: rest) pos) sl cs l cs2 := wv_of (pw_or pt_any pw_any) fun B G ps σ H hn C S Q q => ha B G ps σ H hn C S _ fun G1 ps1 H1 C1 u1 =>
  hb B G1 ps1 σ H1 hn C1 (Slots.mono u1 S) Q fun G2 ps2 H2 C2 u2 => q G2 ps2 H2 C2 (u1.trans u2)
theorem wv_and0 {a b : Expr} {rest : List Expr} {l : Bool} (ha : TV X na a sl cs true cs1) (hb : WV X na (.BoolOp .And (b :: rest) pos) sl cs1 l cs2) : WV X na (.BoolOp .And (a :: b :: rest) pos) sl cs l cs2 := wv_of (pw_and pt_any pw_any) fun B G ps σ H hn C S Q q => ha B G ps σ H hn C S _ fun G1 ps1 H1 C1 u1 =>
  hb B G1 ps1 σ H1 hn C1 (Slots.mono u1 S) Q fun G2 ps2 H2 C2 u2 => q G2 ps2 H2 C2 (u1.trans u2)
theorem ev_or0 {a b : Expr} {rest : List Expr} (ha : EV X na a sl cs (.val (.bool false)) cs1) (hb : EV X na (.BoolOp .Or (b :: rest) pos) sl cs1 s cs2) : EV X na (.BoolOp .Or (a :: b :: rest) pos) sl cs s cs2 :=
  ev_of (pe_or pe_any pe_any) fun B G ps σ H hn C S Q q => ha B G ps σ H hn C S _ fun v G1 ps1 H1 C1 u1 r1 => by
    cases (r1 : Rep _ _ _ _)
    exact ⟨false, rfl, hb B G1 ps1 σ H1 hn C1 (Slots.mono u1 S) Q fun v G2 ps2 H2 C2 u2 => q v G2 ps2 H2 C2 (u1.trans u2)⟩
theorem ev_and0 {a b : Expr} {rest : List Expr} (ha : EV X na a sl cs (.val (.bool true)) cs1) (hb : EV X na (.BoolOp .And (b :: rest) pos) sl cs1 s cs2) : EV X na (.BoolOp .And (a :: b :: rest) pos) sl cs s cs2 :=
  ev_of (pe_and pe_any pe_any) fun B G ps σ H hn C S Q q => ha B G ps σ H hn C S _ fun v G1 ps1 H1 C1 u1 r1 => by
    cases (r1 : Rep _ _ _ _)
    exact ⟨true, rfl, hb B G1 ps1 σ H1 hn C1 (Slots.mono u1 S) Q fun v G2 ps2 H2 C2 u2 => q v G2 ps2 H2 C2 (u1.trans u2)⟩
end
end DL
namespace DL
open PySem PySem.Spec PyProof.Rows L2
/-! ### list + list -/
def rCatL (K : PySem.W.Frag) : R2 := fun x y H Q => ∃ a b xs ys, x = .ref a ∧ y = .ref b ∧ SqL K H a xs ∧ SqL K H b ys ∧ xs.length + ys.length ≤ sizeLine ∧ ∀ p, H p = none → Q (.ref p) (upd H p (.lst (xs ++ ys)))
theorem op_catL {X : Cx} : OpR X (binaryOp .Add) (rCatL X.K) := by
  intro pins s σ H x y v u Q I rx ry h
  obtain ⟨a, b, xs, ys, rfl, rfl, ha, hb, hz, q⟩ := h
  cases rx
  cases ry
  obtain ⟨its, r1, p1, _⟩ := I.list ha
  obtain ⟨its2, r2, p2, _⟩ := I.list hb
  obtain ⟨⟨cls, dd, data, sl⟩, ho, hc, n, hd⟩ := p1.isList
  obtain ⟨⟨cls2, dd2, data2, sl2⟩, ho2, hc2, n2, hd2⟩ := p2.isList
  simp only at hc hd hc2 hd2
  subst hc hd hc2 hd2
  have e : its.toArray ++ its2.toArray = (its ++ its2).toArray := by simp
  have hl : its.toArray.size + its2.toArray.size ≤ sizeLine := by
    rw [List.size_toArray, List.size_toArray, ← r1.length, ← r2.length]
    exact hz
  refine concat_meets ⟨_, ho, rfl⟩ ⟨_, ho2, rfl⟩ noFill_list_add seq_list_add PySem.F.slot_list_add PySem.F.entry_list_add (PySem.F.args_list_add_2 _ _) (list_addW a b its.toArray its2.toArray n n2 dd dd2 sl sl2 hl) ⟨ho, ho2, ?_⟩
  rw [e]
  exact ⟨.ref _, _, I.lnew (t' := s.toks) (r1.append r2) (by rw [List.length_append]; exact hz), rfl, q _ I.fresh⟩
theorem RepVs.app {K : PySem.W.Frag} {G : Hp} {ps : List Addr} {vs ws : List V} {ss ts : List SV} (h : RepVs K G ps vs ss) (h2 : RepVs K G ps ws ts) : RepVs K G ps (vs ++ ws) (ss ++ ts) := by
  induction h with
  | nil => exact h2
  | cons a _ ih => exact .cons a ih
section
variable {X : Cx} {na : Nat} {sl sl' : Sl} {cs cs1 cs2 cs3 : Cs} {s t u : SV} {pos p : Pos} {x : Str} {E : DEnds} {N : List Str} {a b : Expr}
/-- as data -/
theorem ev_catL {ds es : List PyData} (ha : EV X na a sl cs s cs1) (hb : EV X na b sl cs1 t cs2) (hl : IsL cs2 s (ds.map SV.val)) (hl2 : IsL cs2 t (es.map SV.val)) (hz : ds.length + es.length ≤ 1000000) : EV X na (.BinOp a .Add b pos) sl cs (.val (.list (ds ++ es))) cs2 :=
  ev_op op_catL ha hb fun B G ps H v w hn C r1 r2 Q q => by
    obtain ⟨p, vs, rfl, h1, h2⟩ := hl.sq C r1
    obtain ⟨p2, ws, rfl, h3, h4⟩ := hl2.sq C r2
    have k1 := Reps.ofVs h2
    have k2 := Reps.ofVs h4
    have k3 : Reps X.K G (vs ++ ws) (ds ++ es) := Reps.ofVs (ps := ps) (by rw [List.map_append]; exact RepVs.app h2 h4)
    exact ⟨p, p2, vs, ws, rfl, rfl, h1, h3, sz (by rw [k1.length, k2.length]; exact hz), C.newLst k3 q⟩
/-- as a cell -/
theorem ev_catC {xs ys : List SV} {n : Nat} (ha : EV X na a sl cs s cs1) (hb : EV X na b sl cs1 t cs2) (hl : IsL cs2 s xs) (hl2 : IsL cs2 t ys) (hz : xs.length + ys.length ≤ 1000000) (ac : AppC cs2 (.lst (xs ++ ys)) n cs3) : EV X na (.BinOp a .Add b pos) sl cs (.cell n) cs3 :=
  ev_op op_catL ha hb fun B G ps H v w hn C r1 r2 Q q => by
    obtain ⟨p, vs, rfl, h1, h2⟩ := hl.sq C r1
    obtain ⟨p2, ws, rfl, h3, h4⟩ := hl2.sq C r2
    exact ⟨p, p2, vs, ws, rfl, rfl, h1, h3, sz (by rw [Paired.length h2, Paired.length h4]; exact hz), C.newCell ac (fun p hp => ⟨_, upd_same, RepVs.mono ⟨Same.refl _, List.prefix_append _ _⟩ (RepVs.app h2 h4)⟩) q⟩
/-- sorted(a list of ints), of any length -/
theorem ev_sortedI {ns : List Int} (hm : X.mg "sorted" = none) (hg : Gl X "sorted") (ha : EV X na a sl cs s cs1) (hl : IsL cs1 s ((ns.map PyData.int).map SV.val)) (hs : starEach [a] X.env = (false, eval a X.env) :: starEach [] X.env := by rfl) : EV X na (.Call (.Name "sorted" p) [a] [] pos) sl cs (.val (.list ((sortI ns).map .int))) cs1 :=
  ev_callB cr_sortedI (by decide +kernel) hg hm (av_cons ha av_nil hs) (rc1 fun B G ps' H v hn C r1 Q q => by
    obtain ⟨l, vs, rfl, h1, h2⟩ := hl.sq C r1
    have k := Reps.ints (Reps.ofVs h2)
    subst k
    refine ⟨l, ns, rfl, h1, fun ns' p hp hs' hn' => ?_⟩
    rw [sortI_uniq hp hs']
    exact C.newLst (Reps.ofInts _) q p hn') (by decide) (by decide) hs
end
/-! ### {k: v, ..} -/
def trsOf (X : Cx) : List (Option Expr) → List Expr → List (TE × TE)
  | some k :: ks, v :: vs => (anyE X k, anyE X v) :: trsOf X ks vs
  | _, _ => []
inductive APs (X : Cx) (na : Nat) (sl : Sl) : List (Option Expr) → List Expr → Cs → List (Key × SV) → Cs → Prop
  | nil {cs : Cs} : APs X na sl [] [] cs [] cs
  | cons {k v : Expr} {ks : List (Option Expr)} {vs : List Expr} {cs cs1 cs2 cs3 : Cs} {kd : PyData} {key : Key} {s : SV} {kvs : List (Key × SV)} : EV X na k sl cs (.val kd) cs1 → KeyOf kd key → EV X na v sl cs1 s cs2 → APs X na sl ks vs cs2 kvs cs3 → APs X na sl (some k :: ks) (v :: vs) cs ((key, s) :: kvs) cs3
section
variable {X : Cx} {na : Nat} {sl sl' : Sl} {cs cs0 cs1 cs2 cs3 : Cs} {pos : Pos} {ks : List (Option Expr)} {vs : List Expr} {kvs : List (Key × SV)}
theorem APs.pps (h : APs X na sl ks vs cs kvs cs1) : PPs X pos ks vs (trsOf X ks vs) := by
  induction h with
  | nil => exact pps_nil
  | cons _ _ _ _ ih => exact pps_cons pe_any pe_any ih
theorem APs.len (h : APs X na sl ks vs cs kvs cs1) : ks.length = vs.length ∧ ks.all (·.isSome) = true ∧ kvs.length = ks.length := by
  induction h with
  | nil => exact ⟨rfl, rfl, rfl⟩
  | cons _ _ _ _ ih => exact ⟨by rw [List.length_cons, List.length_cons, ih.1], by rw [List.all_cons, ih.2.1]; rfl, by rw [List.length_cons, List.length_cons, ih.2.2]⟩
theorem APs.go (h : APs X na sl ks vs cs kvs cs1) : ∀ (B : Bs) (G : Hp) (ps : List Addr) (σ : L2.St) (H : Hp), B.As.length = na → Core X.K B G ps cs H → Slots X.K G ps σ sl → ∀ Q : List (V × V) → Hp → Prop,
    (∀ us G' ps' H', Core X.K B G' ps' cs1 H' → Up G ps G' ps' → RepKs X.K G' ps' us kvs → Q (us.map fun kv => (kV kv.1, kv.2)) H') → tPairs (trsOf X ks vs) σ H Q := by
  induction h with
  | nil => exact fun B G ps σ H hn C S Q q => q [] G ps H C (Up.refl _ _) .nil
  | cons hk ho hv _ ih =>
    intro B G ps σ H hn C S Q q
    exact hk B G ps σ H hn C S _ fun x G1 ps1 H1 C1 u1 r1 => hv B G1 ps1 σ H1 hn C1 (Slots.mono u1 S) _ fun y G2 ps2 H2 C2 u2 r2 => ih B G2 ps2 σ H2 hn C2 (Slots.mono (u1.trans u2) S) _ fun us G3 ps3 H3 C3 u3 r3 => by
      have := q ((_, y) :: us) G3 ps3 H3 C3 ((u1.trans u2).trans u3) (.cons ⟨rfl, RepV.mono u3 r2⟩ r3)
      have e := ho.v r1
      subst e
      exact this
theorem mergeK_new : ∀ (us acc : List (Key × V)), ((acc ++ us).map (·.1)).Nodup → mergeK acc us = acc ++ us
  | [], acc, _ => by rw [List.append_nil]; rfl
  | (k, v) :: r, acc, h => by
    have hk : ¬ (acc.any fun kv => decide (kv.1 = k)) = true := by
      intro z
      obtain ⟨p, hp, e⟩ := List.any_eq_true.mp z
      rw [List.map_append, List.nodup_append] at h
      exact h.2.2 p.1 (List.mem_map.mpr ⟨p, hp, rfl⟩) k (by simp) (of_decide_eq_true e)
    have e : putK acc k v = acc ++ [(k, v)] := by
      unfold putK
      rw [if_neg hk]
    show mergeK (putK acc k v) r = _
    rw [e, mergeK_new r (acc ++ [(k, v)]) (by rw [List.append_assoc]; exact h), List.append_assoc]
    rfl
theorem RepKs.keys {K : PySem.W.Frag} {G : Hp} {ps : List Addr} : ∀ {us : List (Key × V)} {kvs : List (Key × SV)}, RepKs K G ps us kvs → us.map (·.1) = kvs.map (·.1)
  | _, _, .nil => rfl
  | _, _, .cons h t => by
    rw [List.map_cons, List.map_cons, RepKs.keys t, h.1]
theorem ev_dlC {n : Nat} (ac : AppC cs (.dct []) n cs0) (h : APs X na sl ks vs cs0 kvs cs1) (hc : cs1[n]? = some (.dct [])) (pc : PutC cs1 n (.dct kvs) cs2) (nd : (kvs.map (·.1)).Nodup) (h0 : ks ≠ []) (h15 : Nat.ble ks.length 15 = true) : EV X na (.Dict ks vs pos) sl cs (.cell n) cs2 :=
  ev_of (pe_disp h.pps h.len.2.1 h.len.1 h0 (Nat.le_of_ble_eq_true h15)) fun B G ps σ H hn C S Q q => by
    intro p hp
    obtain ⟨rfl, rfl⟩ := ac.at
    have C0 := C.cellNew (o := .dK []) (c := .dct []) hp ⟨[], upd_same, .nil⟩
    have u0 : Up G ps G (ps ++ [p]) := ⟨Same.refl _, List.prefix_append _ _⟩
    have e0 : (ps ++ [p])[cs.length]? = some p := by rw [← C.len]; exact pre_snoc_get ps p
    refine h.go B G (ps ++ [p]) σ _ hn C0 (Slots.mono u0 S) _ fun us G1 ps1 H1 C1 u1 r1 => ?_
    have e1 := pre_get u1.p e0
    obtain ⟨us0, k1, k2⟩ := (C1.cell _ p _ e1 hc).1
    cases k2
    have hl : us.length ≤ 15 := by
      have h1 : us.length = kvs.length := by have := congrArg List.length (RepKs.keys r1); rwa [List.length_map, List.length_map] at this
      have h2 := h.len.2.2
      have h3 := Nat.le_of_ble_eq_true h15
      omega
    refine ⟨k1, us, rfl, hl, ?_⟩
    rw [mergeK_new us [] (by rw [List.nil_append, RepKs.keys r1]; exact nd), List.nil_append]
    rw [pc.at] at q
    exact q (.ref p) G1 ps1 _ (C1.put (c' := .dct kvs) e1 hc (by intro z; cases z) ⟨us, upd_same, r1⟩) (u0.trans u1) ⟨p, e1, rfl⟩
/-- a display that nothing writes at -/
theorem ev_dlV {n : Nat} {kds : List (Key × PyData)} (hA : na ≤ cs.length) (ac : AppC cs (.dct []) n cs0) (h : APs X na sl ks vs cs0 kvs cs1) (hc : cs1[n]? = some (.dct [])) (e : kvs = svK kds) (pc : PutC cs1 n .dead cs2) (nd : (kvs.map (·.1)).Nodup) (h0 : ks ≠ []) (h15 : Nat.ble ks.length 15 = true) : EV X na (.Dict ks vs pos) sl cs (.val (dD kds)) cs2 := by
  subst e
  have hlen : n < cs1.length := (List.getElem?_eq_some_iff.mp hc).1
  have h1 : EV X na (.Dict ks vs pos) sl cs (.cell n) (cs1.set n (.dct (svK kds))) := by
    refine ev_dlC ac h hc ?_ nd h0 h15
    have gen : ∀ (cs : Cs) (n : Nat) (c : CC), n < cs.length → PutC cs n c (cs.set n c) := by
      intro cs
      induction cs with
      | nil => intro n c h; cases h
      | cons a r ih =>
        intro n c h
        cases n with
        | zero => exact .here
        | succ n => exact .there (ih n c (Nat.lt_of_succ_lt_succ h))
    exact gen cs1 n _ hlen
  have hn0 := ac.at.1
  rw [pc.at]
  intro B G ps σ H hn C S Q q
  refine h1 B G ps σ H hn C S Q fun v G1 ps1 H1 C1 u1 r1 => ?_
  have hget : (cs1.set n (.dct (svK kds)))[n]? = some (.dct (svK kds)) := by rw [List.getElem?_set_self hlen]
  obtain ⟨p, rfl, ep, us, k1, k2⟩ := C1.cellAt r1 hget
  have hG : G1 p = none := (C1.cell n p _ ep hget).2.2.elim (fun z => by cases z) id
  have C2 := C1.freeze (by omega) ep hget (by intro z; cases z) k1
  rw [List.set_set] at C2
  exact q (.ref p) _ ps1 H1 C2 ⟨u1.s.trans (Same.new hG), u1.p⟩ (Rep.dct upd_same (RepD.mono (Same.new hG) (RepKs.repD k2)))
end
end DL
namespace DL
open PySem PySem.Spec PyProof.Rows L2
/-! ### dicts compared, of any values -/
def rEqDD (K : PySem.W.Frag) (r : Bool) : R2 := fun x y H Q => ∃ a b ks ls, x = .ref a ∧ y = .ref b ∧ H a = some (.dK ks) ∧ H b = some (.dK ls) ∧ ks.length = ls.length ∧ (∀ p ∈ ks, ∃ y d, valV ls p.1 = some y ∧ Dp K H p.2 d ∧ Dp K H y d ∧ SeqAt.shaped d = true ∧ PyData.eqv d d = true) ∧ Q (.bl r) H
theorem hits_deep {X : Cx} {pins : List (Addr × Obj)} {σ : L2.St} {H : Hp} {s : Shared} (I : Inv X pins σ H s) {A : Around} (hu : A.in1.units + 64 < cLine) {ls : List (Key × V)} {vb : List (Key × Value)} (rb : KV ls vb) {ks : List (Key × V)} {va : List (Key × Value)} (ra : KV ks va) :
    (∀ p ∈ ks, ∃ y d, valV ls p.1 = some y ∧ Dp X.K H p.2 d ∧ Dp X.K H y d ∧ SeqAt.shaped d = true ∧ PyData.eqv d d = true) → PySem.W.KeqHits A.in1 s vb va true := by
  unfold KV at ra
  induction ra with
  | nil => intro _; exact .nil
  | @cons p q ps qs h t ih =>
    intro hp
    obtain ⟨h1, h2⟩ := h
    obtain ⟨y, d, e, d1, d2, sd, ed⟩ := hp p List.mem_cons_self
    have rr : RelO (some y) (valueAt vb p.1) := by rw [← e]; exact rb.val p.1
    obtain ⟨z, hz, rz⟩ := rr.some_of
    obtain ⟨k, v⟩ := q
    have h1' : p.1 = k := h1
    rw [h1'] at hz
    obtain ⟨as, r1⟩ := Dp.reads I d _ v d1 h2
    obtain ⟨bs, r2⟩ := Dp.reads I d _ z d2 rz
    have := PySem.W.keq_at (A := A) r1 r2 sd sd hu
    rw [ed] at this
    show PySem.W.KeqHits A.in1 s vb ((k, v) :: qs) (true && true)
    exact .hit hz this (ih fun p' hm => hp p' (List.mem_cons_of_mem _ hm))
theorem op_eqDD {X : Cx} (hu : X.A.units < cLine) (hu2 : X.A.in1.units + 64 < cLine) : OpR X (compareOp .Eq) (rEqDD X.K true) := by
  intro pins s σ H x y v u Q I rx ry h
  obtain ⟨a, b, ks, ls, rfl, rfl, ea, eb, hlen, hp, q⟩ := h
  obtain rfl : v = Value.ref a := rx
  obtain rfl : u = Value.ref b := ry
  obtain ⟨_, ya, va, ra, da⟩ := (show ObjOk X.prog X.w H s.heap a (.dK ks) from I.hok a _ ea)
  obtain ⟨_, yb, vb, rb, db⟩ := (show ObjOk X.prog X.w H s.heap b (.dK ls) from I.hok b _ eb)
  have hl : va.length = vb.length := by rw [← ra.length, ← rb.length]; exact hlen
  exact PySem.W.keq_eq (knd := mixKind X.prog X.w) (r := true) ya yb da db hu (fun _ => hits_deep I hu2 rb ra hp) (fin_bl I q (by simp [hl]))
theorem op_neDD {X : Cx} (hu : X.A.units < cLine) (hu2 : X.A.in1.units + 64 < cLine) : OpR X (compareOp .NotEq) (rEqDD X.K false) := by
  intro pins s σ H x y v u Q I rx ry h
  obtain ⟨a, b, ks, ls, rfl, rfl, ea, eb, hlen, hp, q⟩ := h
  obtain rfl : v = Value.ref a := rx
  obtain rfl : u = Value.ref b := ry
  obtain ⟨_, ya, va, ra, da⟩ := (show ObjOk X.prog X.w H s.heap a (.dK ks) from I.hok a _ ea)
  obtain ⟨_, yb, vb, rb, db⟩ := (show ObjOk X.prog X.w H s.heap b (.dK ls) from I.hok b _ eb)
  have hl : va.length = vb.length := by rw [← ra.length, ← rb.length]; exact hlen
  exact PySem.W.keq_ne (knd := mixKind X.prog X.w) (r := true) ya yb da db hu (fun _ => hits_deep I hu2 rb ra hp) (fin_bl I q (by simp [hl]))
theorem repKs_deep {K : PySem.W.Frag} {G H : Hp} {ps : List Addr} (g : Same G H) : ∀ {us ls : List (Key × V)} {kvs : List (Key × PyData)}, (∀ kv ∈ kvs, SeqAt.shaped kv.2 = true ∧ PyData.eqv kv.2 kv.2 = true) → RepKs K G ps us (svK kvs) → RepKs K G ps ls (svK kvs) → us.length = ls.length ∧ us.map (·.1) = kvs.map (·.1) ∧ ls.map (·.1) = kvs.map (·.1) ∧ ∀ p ∈ us, ∃ y d, (p.1, y) ∈ ls ∧ Dp K H p.2 d ∧ Dp K H y d ∧ SeqAt.shaped d = true ∧ PyData.eqv d d = true
  | us, ls, [], _, h1, h2 => by cases h1; cases h2; exact ⟨rfl, rfl, rfl, fun _ h => (nomatch h)⟩
  | us, ls, (k, d) :: r, hf, h1, h2 => by
    cases h1 with
    | cons g1 t1 =>
      cases h2 with
      | cons g2 t2 =>
        rename_i u us' l ls'
        obtain ⟨e1, f1⟩ := g1
        obtain ⟨e2, f2⟩ := g2
        obtain ⟨i1, i2, i3, i4⟩ := repKs_deep g (fun kv h => hf kv (List.mem_cons_of_mem _ h)) t1 t2
        obtain ⟨s1, s2⟩ := hf (k, d) List.mem_cons_self
        have e1 : u.1 = k := e1
        have e2 : l.1 = k := e2
        refine ⟨by rw [List.length_cons, List.length_cons, i1], by rw [List.map_cons, List.map_cons, i2, e1], by rw [List.map_cons, List.map_cons, i3, e2], fun p h => ?_⟩
        rcases List.mem_cons.mp h with h | h
        · subst h
          refine ⟨l.2, d, ?_, Rep.dp g f1 (SeqAt.canLay_of_shaped s1), Rep.dp g f2 (SeqAt.canLay_of_shaped s1), s1, s2⟩
          have : (p.1, l.2) = l := Prod.ext (by rw [e1, e2]) rfl
          rw [this]
          exact List.mem_cons_self
        · obtain ⟨y, d', j1, j2⟩ := i4 p h
          exact ⟨y, d', List.mem_cons_of_mem _ j1, j2⟩
section
variable {X : Cx} {na : Nat} {sl sl' : Sl} {cs cs1 cs2 cs3 : Cs} {s t u : SV} {pos p : Pos} {x : Str} {E : DEnds} {N : List Str} {a b : Expr}
theorem rv_eqDD {K : PySem.W.Frag} {r : Bool} {kvs : List (Key × PyData)} (hd : IsD cs s (svK kvs)) (he : IsD cs t (svK kvs)) (hf : ∀ kv ∈ kvs, SeqAt.shaped kv.2 = true ∧ PyData.eqv kv.2 kv.2 = true) (nd : (kvs.map (·.1)).Nodup) : RV K na (rEqDD K r) s t cs (.val (.bool r)) cs := fun B G ps H v w hn C r1 r2 Q q => by
  obtain ⟨a, us, rfl, h1, h2⟩ := hd.at C r1
  obtain ⟨b, ls, rfl, h3, h4⟩ := he.at C r2
  obtain ⟨h5, h6, h7, h8⟩ := repKs_deep C.gh hf h2 h4
  refine ⟨a, b, us, ls, rfl, rfl, h1, h3, h5, fun p hp => ?_, q _ G ps H C (Up.refl _ _) (Rep.bl _)⟩
  obtain ⟨y, d, k1, k2⟩ := h8 p hp
  exact ⟨y, d, valV_mem (by rw [h7]; exact nd) k1, k2⟩
theorem room_in1 {A : Around} {k : Nat} (hr : Room k A) : A.in1.units + 64 < cLine := by
  have := hr.un
  show A.units + 1 + 64 < _
  omega
theorem tv_eqDD {kvs : List (Key × PyData)} {k : Nat} (hr : Room k X.A) (ha : EV X na a sl cs s cs1) (hb : EV X na b sl cs1 t cs2) (hd : IsD cs2 s (svK kvs)) (he : IsD cs2 t (svK kvs)) (hf : ∀ kv ∈ kvs, SeqAt.shaped kv.2 = true ∧ PyData.eqv kv.2 kv.2 = true) (nd : (kvs.map (·.1)).Nodup) : TV X na (.Compare a [.Eq] [b] pos) sl cs true cs2 :=
  tv_cmp (op_eqDD (by have := hr.un; omega) (room_in1 hr)) (nomark _) ha hb (rv_eqDD hd he hf nd)
theorem ev_eqDD {kvs : List (Key × PyData)} {k : Nat} (hr : Room k X.A) (ha : EV X na a sl cs s cs1) (hb : EV X na b sl cs1 t cs2) (hd : IsD cs2 s (svK kvs)) (he : IsD cs2 t (svK kvs)) (hf : ∀ kv ∈ kvs, SeqAt.shaped kv.2 = true ∧ PyData.eqv kv.2 kv.2 = true) (nd : (kvs.map (·.1)).Nodup) : EV X na (.Compare a [.Eq] [b] pos) sl cs (.val (.bool true)) cs2 :=
  ev_cmp (op_eqDD (by have := hr.un; omega) (room_in1 hr)) (nomark _) ha hb (rv_eqDD hd he hf nd)
theorem tv_neDD {kvs : List (Key × PyData)} {k : Nat} (hr : Room k X.A) (ha : EV X na a sl cs s cs1) (hb : EV X na b sl cs1 t cs2) (hd : IsD cs2 s (svK kvs)) (he : IsD cs2 t (svK kvs)) (hf : ∀ kv ∈ kvs, SeqAt.shaped kv.2 = true ∧ PyData.eqv kv.2 kv.2 = true) (nd : (kvs.map (·.1)).Nodup) : TV X na (.Compare a [.NotEq] [b] pos) sl cs false cs2 :=
  tv_cmp (op_neDD (by have := hr.un; omega) (room_in1 hr)) (nomark _) ha hb (rv_eqDD hd he hf nd)
/-- for, with what is known of the things gone through -/
theorem s1_forJ {α : Type} {body : List Stmt} {tg iter : Expr} {GC : Cs → Prop} (es : List α) (f : α → SV) (J : List α → Prop) (hJ : J []) (hp : PassesOwn (model X.prog X.w) X.A X.env X.xe) (hc : X.calm = true) (h : IV X na tg iter sl cs (es.map f) GC cs1) (a : List α → Sl) (c : List α → Cs) (h0 : Le (a []) sl) (h1 : c [] = cs1) (hG : ∀ pre post, es = pre ++ post → GC (c pre))
    (hs : ∀ pre e post, es = pre ++ e :: post → J pre → GX X na tg (f e) (a pre) (c pre) fun sl2 cs2 => SX X na body sl2 cs2 { E with nx := fun sl3 cs3 => J (pre ++ [e]) ∧ At cs1.length (a (pre ++ [e])) (c (pre ++ [e])) sl3 cs3, ct := fun sl3 cs3 => J (pre ++ [e]) ∧ At cs1.length (a (pre ++ [e])) (c (pre ++ [e])) sl3 cs3, bk := E.nx })
    (hd : ∀ sl', J es → Le (a es) sl' → E.nx sl' (c es))
    (hf : ∀ x, foldedSetIterable iter X.env x = pure x := by intro _; rfl) : S1 X na (.For tg iter body [] pos) sl cs E := by
  refine s1_for hp hc h (fun i sl' cs' => J (es.take i) ∧ Le (a (es.take i)) sl' ∧ cs' = c (es.take i)) ⟨hJ, h0, h1.symm⟩ (fun i sl' cs' ⟨_, _, e⟩ => e ▸ hG _ (es.drop i) (List.take_append_drop i es).symm) (fun i s sl' cs' hx ⟨hj, l, e⟩ => ?_) (fun sl' cs' ⟨hj, l, e⟩ => ?_) hf
  · subst e
    rw [List.getElem?_map] at hx
    cases he : es[i]? with
    | none => rw [he] at hx; cases hx
    | some e =>
      rw [he] at hx
      cases hx
      have e1 : es.take (i + 1) = es.take i ++ [e] := by rw [List.take_add_one, he]; rfl
      have hi := (List.getElem?_eq_some_iff.mp he).1
      have e2 : es.drop i = e :: es.drop (i + 1) := by
        rw [List.drop_eq_getElem_cons hi, (List.getElem?_eq_some_iff.mp he).2]
      intro B G ps σ H v hn C S r Q q
      refine hs _ e (es.drop (i + 1)) (by rw [← e2, List.take_append_drop]) hj B G ps σ H v hn C (l.slots S) r Q fun sl3 cs3 G3 ps3 σ3 H3 C3 u3 S3 q3 => q sl3 cs3 G3 ps3 σ3 H3 C3 u3 S3 ?_
      intro B4 G4 ps4 σ4 H4 hn4 C4 S4 D4 L4
      exact q3 B4 G4 ps4 σ4 H4 hn4 C4 S4 D4 ⟨fun sl5 cs5 G5 ps5 σ5 H5 C5 u5 S5 q5 => L4.nx sl5 cs5 G5 ps5 σ5 H5 C5 u5 S5 ⟨_, _, ⟨by rw [e1]; exact q5.1, by rw [e1]; exact Le.refl _, by rw [e1]⟩, q5.2⟩, L4.rt, L4.bk, fun sl5 cs5 G5 ps5 σ5 H5 C5 u5 S5 q5 => L4.ct sl5 cs5 G5 ps5 σ5 H5 C5 u5 S5 ⟨_, _, ⟨by rw [e1]; exact q5.1, by rw [e1]; exact Le.refl _, by rw [e1]⟩, q5.2⟩⟩
  · subst e
    rw [List.length_map, List.take_of_length_le (Nat.le_refl _)] at hj l ⊢
    exact hd sl' hj l
/-- x is not y, of truths -/
theorem tv_isnotB {i j : Bool} (ha : EV X na a sl cs (.val (.bool i)) cs1) (hb : EV X na b sl cs1 (.val (.bool j)) cs2) (hm : behindInMarks .IsNot b = false := by rfl) : TV X na (.Compare a [.IsNot] [b] pos) sl cs (!decide (i = j)) cs2 :=
  tv_cmp op_isnot_bl hm ha hb fun B G ps H v w hn C r1 r2 Q q => by
    rw [Rep.boolI r1, Rep.boolI r2]
    exact ⟨i, j, rfl, rfl, q _ G ps H C (Up.refl _ _) (Rep.bl _)⟩
/-- xs[k:] -/
theorem ev_slFrom {ds : List PyData} {k : Nat} (ha : EV X na a sl cs s cs1) (hb : EV X na b sl cs1 (.val (.int (k : Nat))) cs2) (hl : IsL cs2 s (ds.map SV.val)) (p2 : Pos) : EV X na (.Subscript a (.Slice (some b) none none p2) pos) sl cs (.val (.list (ds.drop k))) cs2 :=
  ev_of (pe_slice sl_list pe_any (po_some pe_any) po_none) fun B G ps σ H hn C S Q q => ha B G ps σ H hn C S _ fun v G1 ps1 H1 C1 u1 r1 => hb B G1 ps1 σ H1 hn C1 (Slots.mono u1 S) _ fun w G2 ps2 H2 C2 u2 r2 => by
    obtain ⟨l, vs, rfl, h1, h2⟩ := hl.sq C2 (RepV.mono u2 r1)
    have k1 := Reps.ofVs h2
    have e : cutV vs (some (k : Int)) none = vs.drop k := by
      unfold cutV
      rw [HT.sIx_none, HT.sIx_nat]
      by_cases hk : k ≤ vs.length
      · rw [Nat.min_eq_left hk, List.take_of_length_le (by rw [List.length_drop]; omega)]
      · rw [Nat.min_eq_right (by omega), List.drop_of_length_le (Nat.le_refl _), List.drop_of_length_le (by omega), List.take_nil]
    refine ⟨(k : Int), Rep.intI r2, l, vs, rfl, h1, ?_⟩
    rw [e]
    exact C2.newLst (Reps.drop k k1) fun v G3 ps3 H3 C3 u3 => q v G3 ps3 H3 C3 ((u1.trans u2).trans u3)
end
/-! ### (0, ()) of the module's top -/
theorem glo_blank {K : PySem.W.Frag} {h : Heap} {mg : Str → Option Value} {x : Str} {f g : Addr} {od od2 : Option Addr} {sl sl2 : Array (Option Value)} {n n2 : Nat} {tk : Tok} (X : K.In h) (G : h.Ns mainGlobals mg)
    (a : PySem.W.nsIn K mainGlobals x = some (some (.ref f))) (l : K.lookup f = some ⟨.type "tuple", od, .seq #[.int 0 tk, .ref g] n, sl⟩) (l2 : K.lookup g = some ⟨.type "tuple", od2, .seq #[] n2, sl2⟩) : Glo K mg x (.tuple [.int 0, .tuple []]) :=
  ⟨.ref f, .ref f, PySem.W.mg_of X G a, rfl, fun G => .tup (xs := [.int 0, .ref g]) (.inr ⟨_, _, _, l, rfl, rfl, by rw [sizeLine_eq]; show (2 : Nat) ≤ _; decide, .cons ⟨tk, rfl⟩ (.cons rfl .nil)⟩) (.cons (.int 0) (.cons (.tup (xs := []) (.inr ⟨_, _, _, l2, rfl, rfl, by rw [sizeLine_eq]; show (0 : Nat) ≤ _; decide, .nil⟩) .nil) .nil))⟩
end DL
namespace DL
open PySem PySem.Spec PyProof.Rows L2
section
variable {X : Cx} {na : Nat} {sl sl' : Sl} {cs cs1 cs2 cs3 : Cs} {s t u : SV} {pos spos p : Pos} {x : Str} {E : DEnds} {N : List Str} {a b : Expr}
/-- a comprehension's list as a new cell -/
theorem ev_LCC {elt tg iter : Expr} {ifs : List Expr} {scope : Scope} {own : List (Str × Nat)} {ds : List PyData} {n : Nat} (hc : X.calm = true) (nd : X.N.Nodup) (ok : BlkOk X.N X.env.scope scope own) (d : LC X na elt tg iter ifs scope own sl cs ds cs1) (ac : AppC cs1 (.lst (ds.map SV.val)) n cs2) (hs : ∀ x, foldedSetIterable iter X.env x = pure x := by intro _; rfl) : EV X na (.ListComp elt [⟨tg, iter, ifs, 0⟩] scope pos) sl cs (.cell n) cs2 :=
  ev_of (pe_LC hc nd ok hs) fun B G ps σ H hna C S Q q => d B G ps σ H hna C S Q fun D vs G' ps' H' C' u' d1 d2 d3 d4 r => by
    obtain ⟨rfl, rfl⟩ := ac.at
    exact q (.ref D) G' (ps' ++ [D]) H' (C'.adoptCell (c := .lst (ds.map SV.val)) d1 d2 d3 ⟨vs, d4, Reps.vs r⟩) (u'.trans ⟨Same.refl _, List.prefix_append _ _⟩) ⟨D, by rw [← C'.len]; exact pre_snoc_get ps' D, rfl⟩
/-- name = [..], on one line -/
theorem s1_setLc {elt tg iter : Expr} {ifs : List Expr} {scope : Scope} {own : List (Str × Nat)} {ds : List PyData} {y : Str} {py : Pos} {i m : Nat} (T : TabL X m) (hN : X.N = N) (hc : X.calm = true) (ok : BlkOk X.N X.env.scope scope own) (d : LC X na elt tg iter ifs scope own sl cs ds cs1) (p : Put N sl y i (.val (.list ds)) sl') (q : E.nx sl' cs1) (hi : Nat.blt i m = true)
    (hyl : X.env.scope.names.lookup y = some .local := by rfl) (hk : X.env.scope.kind = .function := by rfl) (hl : (py.line == pos.line) = true := by rfl) (hq : (scope.names.any fun (n, k) => n == y && (k == .local || k == .cell)) = false := by rfl)
    (hs : ∀ x, foldedSetIterable iter X.env x = pure x := by intro _; rfl) : S1 X na (.Assign [.Name y py] (.ListComp elt [⟨tg, iter, ifs, 0⟩] scope pos) spos) sl cs E := by
  subst hN
  obtain ⟨h1, h2⟩ := p.at
  subst h2
  refine s1_of (ps_setLc (wi := anyI X tg iter) (g := famG X scope tg) (tt := famT X scope ifs) (te := famE X scope elt) hc T.nd h1 hyl (sw_true hk hyl hl hq) pi_any ok
    (fun st H0 C cl fp => ⟨fun pins s σ H v u Q I r h => pg_any.run pins s σ H v u Q I r (h st H0 C cl fp)⟩) (fun st H0 C cl fp => ⟨fun pins s σ H Q I h => by obtain ⟨te, p, h⟩ := h st H0 C cl fp; exact p.run pins s σ H Q I h⟩)
    (fun st H0 C cl fp => ⟨fun pins s σ H Q I h => pe_any.run pins s σ H Q I (h st H0 C cl fp)⟩) hs) fun B G ps σ H hna C S D L => ?_
  exact d B G ps σ H hna C S _ fun A vs G' ps' H' C' u' d1 d2 d3 d4 r => L.nx _ cs1 _ ps' _ H' (C'.adopt d1 d2 d3 d4) (u'.trans ⟨Same.new d2, List.prefix_refl _⟩) (Slots.set (Slots.mono (u'.trans ⟨Same.new d2, List.prefix_refl _⟩) S) (s := .val (.list ds)) (Rep.lst (SqL.of upd_same) (Reps.mono (Same.new d2) r)) i) q
theorem s1_setLcC {elt tg iter : Expr} {ifs : List Expr} {scope : Scope} {own : List (Str × Nat)} {ds : List PyData} {y : Str} {py : Pos} {i m n : Nat} (T : TabL X m) (hN : X.N = N) (hc : X.calm = true) (ok : BlkOk X.N X.env.scope scope own) (d : LC X na elt tg iter ifs scope own sl cs ds cs1) (ac : AppC cs1 (.lst (ds.map SV.val)) n cs2) (p : Put N sl y i (.cell n) sl') (q : E.nx sl' cs2) (hi : Nat.blt i m = true)
    (hyl : X.env.scope.names.lookup y = some .local := by rfl) (hk : X.env.scope.kind = .function := by rfl) (hl : (py.line == pos.line) = true := by rfl) (hq : (scope.names.any fun (n, k) => n == y && (k == .local || k == .cell)) = false := by rfl)
    (hs : ∀ x, foldedSetIterable iter X.env x = pure x := by intro _; rfl) : S1 X na (.Assign [.Name y py] (.ListComp elt [⟨tg, iter, ifs, 0⟩] scope pos) spos) sl cs E := by
  subst hN
  obtain ⟨h1, h2⟩ := p.at
  subst h2
  obtain ⟨rfl, rfl⟩ := ac.at
  refine s1_of (ps_setLc (wi := anyI X tg iter) (g := famG X scope tg) (tt := famT X scope ifs) (te := famE X scope elt) hc T.nd h1 hyl (sw_true hk hyl hl hq) pi_any ok
    (fun st H0 C cl fp => ⟨fun pins s σ H v u Q I r h => pg_any.run pins s σ H v u Q I r (h st H0 C cl fp)⟩) (fun st H0 C cl fp => ⟨fun pins s σ H Q I h => by obtain ⟨te, p, h⟩ := h st H0 C cl fp; exact p.run pins s σ H Q I h⟩)
    (fun st H0 C cl fp => ⟨fun pins s σ H Q I h => pe_any.run pins s σ H Q I (h st H0 C cl fp)⟩) hs) fun B G ps σ H hna C S D L => ?_
  exact d B G ps σ H hna C S _ fun A vs G' ps' H' C' u' d1 d2 d3 d4 r => L.nx _ _ G' (ps' ++ [A]) _ H' (C'.adoptCell (c := .lst (ds.map SV.val)) d1 d2 d3 ⟨vs, d4, Reps.vs r⟩) (u'.trans ⟨Same.refl _, List.prefix_append _ _⟩) (Slots.set (Slots.mono (u'.trans ⟨Same.refl _, List.prefix_append _ _⟩) S) (s := .cell cs1.length) ⟨A, by rw [← C'.len]; exact pre_snoc_get ps' A, rfl⟩ i) q
end
theorem at_zero {α : Type} {a : α} {l : List α} : atI (a :: l) 0 = some a := by
  have e : (0 : Int) = ((0 : Nat) : Int) := rfl
  rw [e]
  exact atI_nat rfl
theorem sortI_two (t u : Int) : sortI [t, u] = [if t ≤ u then t else u, if t ≤ u then u else t] := by
  refine (sortI_uniq ?_ ?_).symm
  · split
    · exact List.Perm.refl _
    · exact List.Perm.swap _ _ _
  · split
    · simp; omega
    · simp; omega
theorem data_map (ds : List PyData) : (CC.lst (ds.map SV.val)).data = some (.list ds) := by
  show (svData (ds.map SV.val)).map _ = _
  rw [svData_map]
  rfl
end DL
namespace DL
open PySem PySem.Spec PyProof.Rows L2
/-! ### mirrors: what a def computes, told by what comes behind -/
def letF {α β : Type} (a : α) (f : α → β) : β := f a
theorem letF_elim {α β : Type} {a : α} {f : α → β} {r : β} (h : letF a f = r) : ∃ x, a = x ∧ f x = r := ⟨a, rfl, h⟩
def joinF {α β ρ : Type} (J : α → β) (F : (α → β) → ρ) : ρ := F J
theorem joinF_elim {α ρ : Type} {J : α → ρ} {F : (α → ρ) → ρ} {r : ρ} (h : joinF J F = r) : ∃ j : α → ρ, (∀ x, j x = r → J x = r) ∧ F j = r := ⟨J, fun _ z => z, h⟩
def forL {α σ ρ : Type} (body : α → σ → (σ → ρ) → ρ) (k : σ → ρ) : List α → σ → ρ
  | [], s => k s
  | x :: xs, s => body x s (forL body k xs)
def whileL {σ ρ : Type} (body : σ → (σ → ρ) → ρ) : Nat → σ → ρ → ρ
  | 0, _, z => z
  | n + 1, s, z => body s fun t => whileL body n t z
def mapS {α β σ : Type} (g : α → σ → β × σ) : List α → σ → List β × σ
  | [], s => ([], s)
  | x :: xs, s => ((g x s).1 :: (mapS g xs (g x s).2).1, (mapS g xs (g x s).2).2)
theorem mapS_snoc {α β σ : Type} (g : α → σ → β × σ) (x : α) : ∀ (xs : List α) (s : σ), mapS g (xs ++ [x]) s = ((mapS g xs s).1 ++ [(g x (mapS g xs s).2).1], (g x (mapS g xs s).2).2)
  | [], s => rfl
  | y :: ys, s => by
    show ((g y s).1 :: (mapS g (ys ++ [x]) (g y s).2).1, (mapS g (ys ++ [x]) (g y s).2).2) = _
    rw [mapS_snoc g x ys]
    rfl
def ixD {α : Type} [Inhabited α] (xs : List α) (i : Int) : α := (L2.atI xs i).getD default
def inR (i : Int) (n : Nat) : Prop := 0 ≤ i ∧ i < n ∨ -(n : Int) ≤ i ∧ i < 0
theorem at_ixD {α β : Type} [Inhabited α] {xs : List α} {f : α → β} {i : Int} (h0 : 0 ≤ i) (h1 : i < xs.length) : L2.atI (xs.map f) i = some (f (ixD xs i)) := by
  have e1 := at_map (xs := xs) (f := f) (d := default) h0 h1
  have e2 := at_in (d := default) h0 h1
  rw [e1]
  unfold ixD
  rw [e2]
  rfl
theorem ixD_eq {α : Type} [Inhabited α] {xs : List α} {i : Int} (h0 : 0 ≤ i) (h1 : i < xs.length) : ixD xs i = xs.getD i.toNat default := by
  unfold ixD
  rw [at_in (d := default) h0 h1]
  rfl
section
variable {X : Cx} {na : Nat} {sl sl' : Sl} {cs cs1 cs2 cs3 : Cs} {s t u : SV} {pos spos p : Pos} {x : Str} {E : DEnds} {N : List Str} {a b : Expr}
theorem ev_as {e : Expr} (h : EV X na e sl cs s cs1) (q : s = t) (q2 : cs1 = cs2) : EV X na e sl cs t cs2 := by
  subst q
  subst q2
  exact h
theorem tv_as {e : Expr} {k l : Bool} (h : TV X na e sl cs k cs1) (q : k = l) (q2 : cs1 = cs2) : TV X na e sl cs l cs2 := by
  subst q
  subst q2
  exact h
/-- ways that meet again; what was made on them is forgotten -/
theorem sx_cutA {st : Stmt} {rest : List Stmt} (M : Sl → Cs → Prop) (h : S1 X na st sl cs { E with nx := fun sl' cs' => ∃ a c, M a c ∧ At cs.length a c sl' cs' }) (k : ∀ sl' cs', M sl' cs' → SX X na rest sl' cs' E) : SX X na (st :: rest) sl cs E := by
  refine sx_cons fun B G ps σ H hn C S D L => h B G ps σ H hn C S D ⟨?_, L.rt, L.bk, L.ct⟩
  intro sl1 cs1 G1 ps1 σ1 H1 C1 u1 S1 ⟨a, c, m, ha⟩
  have hA : B.As.length ≤ cs.length := by
    rw [← C.len]
    exact C.pre.length_le
  obtain ⟨G', ps', C', u', S'⟩ := ha.go C.len C1 hA u1 S1
  exact L.nx a c G' ps' σ1 H1 C' u' S' (k a c m)
theorem s1_forK {α σ ρ : Type} {tg iter : Expr} {body : List Stmt} {GC : Cs → Prop} (es : List α) (f : α → SV) (mb : α → σ → (σ → ρ) → ρ) (mk : σ → ρ) (R0 : ρ) (s0 : σ) (J : List α → σ → Prop) (h0 : forL mb mk es s0 = R0) (hp : PassesOwn (model X.prog X.w) X.A X.env X.xe) (hc : X.calm = true) (hi : IV X na tg iter sl cs (es.map f) GC cs1)
    (hj : J es s0) (a : σ → Sl) (c : σ → Cs) (hl : Le (a s0) sl) (hcs : c s0 = cs1) (hG : ∀ s, GC (c s))
    (hs : ∀ e rest s cont, (∃ pre, es = pre ++ e :: rest) → J (e :: rest) s → mb e s cont = R0 → GX X na tg (f e) (a s) (c s) fun sl2 cs2 => SX X na body sl2 cs2 { E with nx := fun sl3 cs3 => ∃ s', cont s' = R0 ∧ J rest s' ∧ At cs1.length (a s') (c s') sl3 cs3, ct := fun sl3 cs3 => ∃ s', cont s' = R0 ∧ J rest s' ∧ At cs1.length (a s') (c s') sl3 cs3, bk := E.nx })
    (hd : ∀ s, J [] s → mk s = R0 → ∀ sl', Le (a s) sl' → E.nx sl' (c s))
    (hf : ∀ x, foldedSetIterable iter X.env x = pure x := by intro _; rfl) : S1 X na (.For tg iter body [] pos) sl cs E := by
  refine s1_for hp hc hi (fun i sl' cs' => ∃ s, J (es.drop i) s ∧ forL mb mk (es.drop i) s = R0 ∧ Le (a s) sl' ∧ cs' = c s) ⟨s0, hj, h0, hl, hcs.symm⟩ (fun i sl' cs' ⟨s, _, _, _, e⟩ => e ▸ hG s) (fun i sv sl' cs' hx ⟨s, hJ, hF, l, e⟩ => ?_) (fun sl' cs' ⟨s, hJ, hF, l, e⟩ => ?_) hf
  · subst e
    rw [List.getElem?_map] at hx
    cases he : es[i]? with
    | none => rw [he] at hx; cases hx
    | some e =>
      rw [he] at hx
      cases hx
      obtain ⟨hlt, he2⟩ := List.getElem?_eq_some_iff.mp he
      have ed : es.drop i = e :: es.drop (i + 1) := by rw [List.drop_eq_getElem_cons hlt, he2]
      rw [ed] at hJ hF
      have := hs e (es.drop (i + 1)) s (forL mb mk (es.drop (i + 1))) ⟨es.take i, by rw [← ed, List.take_append_drop]⟩ hJ hF
      intro B G ps σ' H v hn C S r Q q
      refine this B G ps σ' H v hn C (l.slots S) r Q fun sl2 cs2 G2 ps2 σ2 H2 C2 u2 S2 q2 => q sl2 cs2 G2 ps2 σ2 H2 C2 u2 S2 ?_
      intro B' G' ps' σ'' H' hn' C' S' D L
      refine q2 B' G' ps' σ'' H' hn' C' S' D ⟨?_, L.rt, L.bk, ?_⟩
      · exact fun sl3 cs3 G3 ps3 σ3 H3 C3 u3 S3 ⟨s', e1, e2, e3⟩ => L.nx sl3 cs3 G3 ps3 σ3 H3 C3 u3 S3 ⟨a s', c s', ⟨s', e2, e1, Le.refl _, rfl⟩, e3⟩
      · exact fun sl3 cs3 G3 ps3 σ3 H3 C3 u3 S3 ⟨s', e1, e2, e3⟩ => L.ct sl3 cs3 G3 ps3 σ3 H3 C3 u3 S3 ⟨a s', c s', ⟨s', e2, e1, Le.refl _, rfl⟩, e3⟩
  · subst e
    rw [List.length_map, List.drop_length] at hJ hF
    exact hd s hJ hF sl' l
theorem s1_forKD {α σ ρ : Type} {tg iter : Expr} {body : List Stmt} {GC : Cs → Prop} (es : List α) (g : α → PyData) (mb : α → σ → (σ → ρ) → ρ) (mk : σ → ρ) (R0 : ρ) (s0 : σ) (J : List α → σ → Prop) (h0 : forL mb mk es s0 = R0) (hp : PassesOwn (model X.prog X.w) X.A X.env X.xe) (hc : X.calm = true) (hi : IV X na tg iter sl cs ((es.map g).map SV.val) GC cs1)
    (hj : J es s0) (a : σ → Sl) (c : σ → Cs) (hl : Le (a s0) sl) (hcs : c s0 = cs1) (hG : ∀ s, GC (c s))
    (hs : ∀ e rest s cont, (∃ pre, es = pre ++ e :: rest) → J (e :: rest) s → mb e s cont = R0 → GX X na tg (.val (g e)) (a s) (c s) fun sl2 cs2 => SX X na body sl2 cs2 { E with nx := fun sl3 cs3 => ∃ s', cont s' = R0 ∧ J rest s' ∧ At cs1.length (a s') (c s') sl3 cs3, ct := fun sl3 cs3 => ∃ s', cont s' = R0 ∧ J rest s' ∧ At cs1.length (a s') (c s') sl3 cs3, bk := E.nx })
    (hd : ∀ s, J [] s → mk s = R0 → ∀ sl', Le (a s) sl' → E.nx sl' (c s))
    (hf : ∀ x, foldedSetIterable iter X.env x = pure x := by intro _; rfl) : S1 X na (.For tg iter body [] pos) sl cs E :=
  s1_forK es (fun e => .val (g e)) mb mk R0 s0 J h0 hp hc (by rw [List.map_map] at hi; exact hi) hj a c hl hcs hG hs hd hf
/-- a while, by how many turns at most are left; z: what would be told if these were too few -/
theorem s1_whileK {σ ρ : Type} {c : Expr} {body : List Stmt} (mb : σ → (σ → ρ) → ρ) (z : ρ) (n0 : Nat) (R0 : ρ) (s0 : σ) (J : Nat → σ → Prop) (h0 : whileL mb n0 s0 z = R0) (hp : PassesOwn (model X.prog X.w) X.A X.env X.xe)
    (hj : J n0 s0) (a : σ → Sl) (d : σ → Cs) (hl : Le (a s0) sl) (hcs : d s0 = cs) (hpos : ∀ s, ¬ J 0 s)
    (hs : ∀ n s cont, J (n + 1) s → mb s cont = R0 → ∃ k cs2, TV X na c (a s) (d s) k cs2 ∧ (k = true → SX X na body (a s) cs2 { E with nx := fun sl3 cs3 => ∃ s', cont s' = R0 ∧ J n s' ∧ At cs.length (a s') (d s') sl3 cs3, ct := fun sl3 cs3 => ∃ s', cont s' = R0 ∧ J n s' ∧ At cs.length (a s') (d s') sl3 cs3, bk := E.nx }) ∧ (k = false → ∀ sl', Le (a s) sl' → E.nx sl' cs2)) : S1 X na (.While c body [] pos) sl cs E := by
  refine s1_while hp (fun m sl' cs' => ∃ s, J m s ∧ whileL mb m s z = R0 ∧ Le (a s) sl' ∧ cs' = d s) n0 ⟨s0, hj, h0, hl, hcs.symm⟩ fun m sl' cs' ⟨s, hJ, hF, l, e⟩ => ?_
  subst e
  cases m with
  | zero => exact (hpos s hJ).elim
  | succ n =>
    obtain ⟨k, cs2, ht, h1, h2⟩ := hs n s (fun t => whileL mb n t z) hJ hF
    refine ⟨k, cs2, fun B G ps σ' H hn C S Q q => ht B G ps σ' H hn C (l.slots S) Q q, fun hk => sx_weak l ?_, fun hk => h2 hk sl' l⟩
    intro B' G' ps' σ'' H' hn' C' S' D L
    refine h1 hk B' G' ps' σ'' H' hn' C' S' D ⟨?_, L.rt, L.bk, ?_⟩
    · exact fun sl3 cs3 G3 ps3 σ3 H3 C3 u3 S3 ⟨s', e1, e2, e3⟩ => L.nx sl3 cs3 G3 ps3 σ3 H3 C3 u3 S3 ⟨n, a s', d s', Nat.lt_succ_self n, ⟨s', e2, e1, Le.refl _, rfl⟩, e3⟩
    · exact fun sl3 cs3 G3 ps3 σ3 H3 C3 u3 S3 ⟨s', e1, e2, e3⟩ => L.ct sl3 cs3 G3 ps3 σ3 H3 C3 u3 S3 ⟨n, a s', d s', Nat.lt_succ_self n, ⟨s', e2, e1, Le.refl _, rfl⟩, e3⟩
/-! comprehensions -/
theorem lc_K {α : Type} {elt tg iter : Expr} {scope : Scope} {own : List (Str × Nat)} {GC : Cs → Prop} (es : List α) (f : α → SV) (h : IV X na tg iter sl cs (es.map f) GC cs1)
    (v : α → PyData) (a : α → Sl) (c2 : α → Cs) (hz : es.length ≤ 100000) (hG : GC cs1)
    (hg : ∀ e ∈ es, ∀ st H C cl fp, GW (blkOf X scope st H C cl fp) cs1.length tg (f e) (wipeS sl (own.map (·.2))) cs1 (own.map (·.2)) fun sl2 cs2 => sl2 = a e ∧ cs2 = cs1)
    (he : ∀ e ∈ es, (∀ st H C cl fp, EV (blkOf X scope st H C cl fp) cs1.length elt (a e) cs1 (.val (v e)) (c2 e)) ∧ AtC cs1.length cs1 (c2 e))
    : LC X na elt tg iter [] scope own sl cs (es.map v) cs1 := by
  cases es with
  | nil => exact lc_M h [] (fun _ => sl) (fun _ => cs1) rfl (Nat.zero_le _) hG (fun i s e => by simp at e) (fun i s d e => by simp at e)
  | cons e0 er =>
    have get : ∀ {i : Nat} {s : SV}, ((e0 :: er).map f)[i]? = some s → ∃ e, (e0 :: er)[i]? = some e ∧ s = f e ∧ (e0 :: er).getD i e0 = e := fun {i s} e => by
      rw [List.getElem?_map] at e
      cases q : (e0 :: er)[i]? with
      | none => rw [q] at e; cases e
      | some z =>
        rw [q] at e
        cases e
        exact ⟨z, rfl, rfl, by rw [List.getD_eq_getElem?_getD, q]; rfl⟩
    refine lc_M h ((e0 :: er).map v) (fun i => a ((e0 :: er).getD i e0)) (fun i => c2 ((e0 :: er).getD i e0)) (by rw [List.length_map, List.length_map]) (by rw [List.length_map]; exact hz) hG (fun i s e st H C cl fp => ?_) (fun i s d e hd => ?_)
    · obtain ⟨z, h1, rfl, h3⟩ := get e
      rw [h3]
      exact hg z (List.mem_of_getElem? h1) st H C cl fp
    · obtain ⟨z, h1, rfl, h3⟩ := get e
      rw [List.getElem?_map, h1] at hd
      cases hd
      rw [h3]
      exact he z (List.mem_of_getElem? h1)
/-- .. whose elements change cells -/
theorem lc_S {α β σ : Type} {elt tg iter : Expr} {scope : Scope} {own : List (Str × Nat)} {GC : Cs → Prop} (es : List α) (f : α → SV) (h : IV X na tg iter sl cs (es.map f) GC cs1)
    (g : α → σ → β × σ) (v : β → PyData) (s0 : σ) (c : σ → Cs) (hcs : c s0 = cs1) (a : α → Sl) (c2 : α → σ → Cs) (hz : es.length ≤ 100000) (hG : ∀ s, GC (c s)) (hlen : ∀ s, (c s).length = cs1.length)
    (hg : ∀ e ∈ es, ∀ s, ∀ st H C cl fp, GW (blkOf X scope st H C cl fp) cs1.length tg (f e) (wipeS sl (own.map (·.2))) (c s) (own.map (·.2)) fun sl2 cs2 => sl2 = a e ∧ cs2 = c s)
    (he : ∀ e ∈ es, ∀ s, (∀ st H C cl fp, EV (blkOf X scope st H C cl fp) cs1.length elt (a e) (c s) (.val (v (g e s).1)) (c2 e s)) ∧ AtC cs1.length (c (g e s).2) (c2 e s))
    : LC X na elt tg iter [] scope own sl cs ((mapS g es s0).1.map v) (c (mapS g es s0).2) := by
  cases es with
  | nil =>
    subst hcs
    exact lc_M h [] (fun _ => sl) (fun _ => c s0) rfl (Nat.zero_le _) (hG _) (fun i s e => by simp at e) (fun i s d e => by simp at e)
  | cons e0 er =>
    have get : ∀ {i : Nat} {s : SV}, ((e0 :: er).map f)[i]? = some s → ∃ e, (e0 :: er)[i]? = some e ∧ s = f e ∧ (e0 :: er).getD i e0 = e := fun {i s} e => by
      rw [List.getElem?_map] at e
      cases q : (e0 :: er)[i]? with
      | none => rw [q] at e; cases e
      | some z =>
        rw [q] at e
        cases e
        exact ⟨z, rfl, rfl, by rw [List.getD_eq_getElem?_getD, q]; rfl⟩
    have := lc_gen (elt := elt) (ifs := []) (sl := sl) (scope := scope) (own := own) h (fun i => a ((e0 :: er).getD i e0)) (fun i => c (mapS g ((e0 :: er).take i) s0).2) (fun i => c2 ((e0 :: er).getD i e0) (mapS g ((e0 :: er).take i) s0).2) (fun _ => true) (fun i => v (g ((e0 :: er).getD i e0) (mapS g ((e0 :: er).take i) s0).2).1) (fun i => (mapS g ((e0 :: er).take i) s0).1.map v) hcs rfl (by rw [List.length_map]; exact hz) (fun _ _ => hG _)
      (fun i s e st H C cl fp => by
        obtain ⟨z, h1, rfl, h3⟩ := get e
        rw [h3, hlen]
        exact hg z (List.mem_of_getElem? h1) _ st H C cl fp)
      (fun i s e st H C cl fp => tvs_nil)
      (fun i s e _ => by
        obtain ⟨z, h1, rfl, h3⟩ := get e
        obtain ⟨g1, g2⟩ := he z (List.mem_of_getElem? h1) (mapS g ((e0 :: er).take i) s0).2
        have e1 : (e0 :: er).take (i + 1) = (e0 :: er).take i ++ [z] := by rw [List.take_add_one, h1]; rfl
        refine ⟨fun st H C cl fp => ?_, ?_, ?_⟩
        · rw [h3, hlen]
          exact g1 st H C cl fp
        · rw [e1, mapS_snoc, h3]
          exact g2
        · rw [e1, mapS_snoc, h3, List.map_append]
          rfl)
      (fun i s e hk => by cases hk)
    rw [List.length_map, List.take_of_length_le (Nat.le_refl _)] at this
    exact this
/-! lists of one kind -/
theorem ev_appT {α : Type} {f : α → PyData} {l : List α} {y : α} {o e : Expr} {apos : Pos} {k : Nat} {ys : List SV} (ho : EV X na o sl cs (.cell k) cs1) (he : EV X na e sl cs1 (.val (f y)) cs2) (hc1 : cs1[k]? = some (.lst ys)) (hc : cs2[k]? = some (.lst ((l.map f).map SV.val))) (pc : PutC cs2 k (.lst (((l ++ [y]).map f).map SV.val)) cs3) (hz : l.length ≤ 1000000)
    (hs : starEach [e] X.env = (false, eval e X.env) :: starEach [] X.env := by rfl)
    (hbase : attributeBase o "append" X.env (eval o X.env) = eval o X.env := by rfl) (hfew : ((backTo pos (starEach (e :: []) X.env)).all (fun x => !x.1) && (backToKw pos (keywordEach [] X.env)).all (fun x => x.1.isSome)
      && decide ((e :: []).length + ([] : List Keyword).length + (if ([] : List Keyword).isEmpty then 0 else 1) < 30)) = true := by rfl)
    (hline : (apos.endLine == pos.line) = true := by rfl) (hplain : (backTo pos (starEach [] X.env)).any (·.1) = false := by rfl) : EV X na (.Call (.Attribute o "append" apos) [e] [] pos) sl cs (.val .none) cs3 := by
  refine ev_append ho he hc1 hc ?_ (by rw [List.length_map, List.length_map]; exact hz) hs hbase hfew hline hplain
  rw [List.map_append, List.map_append] at pc
  exact pc
end
end DL
namespace DL
open PySem PySem.Spec PyProof.Rows L2
theorem mem_mid {α : Type} {es rest : List α} {x : α} (h : ∃ pre, es = pre ++ x :: rest) : x ∈ es := by
  obtain ⟨pre, rfl⟩ := h
  simp
theorem at_ixN {α β : Type} [Inhabited α] {xs : List α} {f : α → β} {i : Int} (h0 : -(xs.length : Int) ≤ i) (h1 : i < 0) : L2.atI (xs.map f) i = some (f (ixD xs i)) := by
  have e1 : ∀ {γ : Type} (ys : List γ), ys.length = xs.length → L2.atI ys i = ys[(i + ys.length).toNat]? := fun ys hy => by
    unfold L2.atI L2.ixN
    rw [hy, if_neg (by omega), if_pos (by omega)]
    rfl
  have hlt : (i + xs.length).toNat < xs.length := by omega
  unfold ixD
  rw [e1 (xs.map f) (List.length_map ..), e1 xs rfl, List.getElem?_map, List.length_map, List.getElem?_eq_getElem hlt]
  rfl
theorem rgD_0 (n : Int) : SV.val (.list (rgD 0 n)) = SV.val (.list (((List.range n.toNat).map fun i : Nat => (i : Int)).map PyData.int)) := by
  unfold rgD
  rw [List.map_map, Int.sub_zero]
  congr 3
  funext i
  simp
theorem rgD_2 (m n : Int) : SV.val (.list (rgD m n)) = SV.val (.list (((List.range (n - m).toNat).map fun i : Nat => (m + (i : Int))).map PyData.int)) := by
  unfold rgD
  rw [List.map_map]
  rfl
theorem get_T {α : Type} {f : α → PyData} (xs : List (Str × α)) (k : Str) (d : α) : (lkK (svK (kvT f xs)) (.inr k)).getD (.val (f d)) = .val (f ((lkS xs k).getD d)) := by
  rw [lk_T]
  cases lkS xs k <;> rfl
section
variable {X : Cx} {na : Nat} {sl sl' : Sl} {cs cs1 cs2 cs3 : Cs} {s t u : SV} {pos spos p : Pos} {x : Str} {E : DEnds} {N : List Str} {a b : Expr} {tg iter : Expr}
theorem lc_as {elt : Expr} {ifs : List Expr} {scope : Scope} {own : List (Str × Nat)} {ds es : List PyData} (h : LC X na elt tg iter ifs scope own sl cs ds cs1) (q : SV.val (.list ds) = SV.val (.list es)) (q2 : cs1 = cs2) : LC X na elt tg iter ifs scope own sl cs es cs2 := by
  cases q
  subst q2
  exact h
theorem iv_mapC {α : Type} {g : α → PyData} {es : List α} {GC : Cs → Prop} (h : IV X na tg iter sl cs ((es.map g).map SV.val) GC cs1) : IV X na tg iter sl cs (es.map fun x => SV.val (g x)) GC cs1 := by
  rw [List.map_map] at h
  exact h
theorem ev_maxM {i j : Int} (hm : X.mg "max" = none) (ha : EV X na a sl cs (.val (.int i)) cs1) (hb : EV X na b sl cs1 (.val (.int j)) cs2) (hc : X.calm = true := by rfl) (hg : Gl X "max" := by rfl) (hs : starEach [a, b] X.env = (false, eval a X.env) :: starEach [b] X.env := by rfl)
    (hs2 : starEach [b] X.env = (false, eval b X.env) :: starEach [] X.env := by rfl) (hpl : (backTo pos (starEach [b] X.env)).any (·.1) = false := by rfl) : EV X na (.Call (.Name "max" p) [a, b] [] pos) sl cs (.val (.int (max i j))) cs2 := by
  have := ev_max2 (p := p) (pos := pos) hc hm hg ha hb hs hs2 hpl
  rwa [show (if j > i then j else i) = max i j by omega] at this
theorem ev_minM {i j : Int} (hm : X.mg "min" = none) (ha : EV X na a sl cs (.val (.int i)) cs1) (hb : EV X na b sl cs1 (.val (.int j)) cs2) (hc : X.calm = true := by rfl) (hg : Gl X "min" := by rfl) (hs : starEach [a, b] X.env = (false, eval a X.env) :: starEach [b] X.env := by rfl)
    (hs2 : starEach [b] X.env = (false, eval b X.env) :: starEach [] X.env := by rfl) (hpl : (backTo pos (starEach [b] X.env)).any (·.1) = false := by rfl) : EV X na (.Call (.Name "min" p) [a, b] [] pos) sl cs (.val (.int (min i j))) cs2 := by
  have := ev_min2 (p := p) (pos := pos) hc hm hg ha hb hs hs2 hpl
  rwa [show (if j < i then j else i) = min i j by omega] at this
end
end DL
namespace DL
open PySem PySem.Spec PyProof.Rows L2
def minL : List Int → Int
  | [] => 0
  | [a] => a
  | a :: b :: r => min a (minL (b :: r))
def maxL : List Int → Int
  | [] => 0
  | [a] => a
  | a :: b :: r => max a (maxL (b :: r))
theorem minL_is : ∀ {l : List Int}, l ≠ [] → minL l ∈ l ∧ ∀ y ∈ l, minL l ≤ y
  | [], h => (h rfl).elim
  | [a], _ => ⟨List.mem_cons_self, fun y hy => by rw [List.mem_singleton] at hy; rw [hy]; exact Int.le_refl a⟩
  | a :: b :: r, _ => by
    obtain ⟨h1, h2⟩ := minL_is (l := b :: r) (by simp)
    have e : minL (a :: b :: r) = min a (minL (b :: r)) := rfl
    rw [e]
    refine ⟨?_, fun y hy => ?_⟩
    · by_cases h : a ≤ minL (b :: r)
      · rw [show min a (minL (b :: r)) = a by omega]; exact List.mem_cons_self
      · rw [show min a (minL (b :: r)) = minL (b :: r) by omega]; exact List.mem_cons_of_mem _ h1
    · rcases List.mem_cons.mp hy with z | z
      · omega
      · have := h2 y z; omega
theorem maxL_is : ∀ {l : List Int}, l ≠ [] → maxL l ∈ l ∧ ∀ y ∈ l, y ≤ maxL l
  | [], h => (h rfl).elim
  | [a], _ => ⟨List.mem_cons_self, fun y hy => by rw [List.mem_singleton] at hy; rw [hy]; exact Int.le_refl a⟩
  | a :: b :: r, _ => by
    obtain ⟨h1, h2⟩ := maxL_is (l := b :: r) (by simp)
    have e : maxL (a :: b :: r) = max a (maxL (b :: r)) := rfl
    rw [e]
    refine ⟨?_, fun y hy => ?_⟩
    · by_cases h : maxL (b :: r) ≤ a
      · rw [show max a (maxL (b :: r)) = a by omega]; exact List.mem_cons_self
      · rw [show max a (maxL (b :: r)) = maxL (b :: r) by omega]; exact List.mem_cons_of_mem _ h1
    · rcases List.mem_cons.mp hy with z | z
      · omega
      · have := h2 y z; omega
theorem sortI_two2 (t u : Int) : SV.val (.list ((sortI [t, u]).map PyData.int)) = SV.val (.list [.int (min t u), .int (max t u)]) := by
  rw [sortI_two]
  by_cases h : t ≤ u
  · rw [if_pos h, if_pos h, show min t u = t by omega, show max t u = u by omega]; rfl
  · rw [if_neg h, if_neg h, show min t u = u by omega, show max t u = t by omega]; rfl
theorem ix2 {α : Type} [Inhabited α] {x y : α} {i : Int} (h : 0 ≤ i ∧ i < 2) : ixD [x, y] i = x ∨ ixD [x, y] i = y := by
  rcases (by omega : i = 0 ∨ i = 1) with z | z <;> subst z
  · exact .inl rfl
  · exact .inr rfl
theorem ix3 {α : Type} [Inhabited α] {x y z : α} {i : Int} (h : 0 ≤ i ∧ i < 3) : ixD [x, y, z] i = x ∨ ixD [x, y, z] i = y ∨ ixD [x, y, z] i = z := by
  rcases (by omega : i = 0 ∨ i = 1 ∨ i = 2) with z | z | z <;> subst z
  · exact .inl rfl
  · exact .inr (.inl rfl)
  · exact .inr (.inr rfl)
theorem ixD_mem {α : Type} [Inhabited α] {xs : List α} {i : Int} (h0 : 0 ≤ i) (h1 : i < xs.length) : ixD xs i ∈ xs := by
  rw [ixD_eq h0 h1, List.getD_eq_getElem?_getD, List.getElem?_eq_getElem (by omega)]
  exact List.getElem_mem _
theorem lk_at {α : Type} [Inhabited α] {f : α → PyData} {xs : List (Str × α)} {k : Str} (h : (lkS xs k).isSome = true) : lkK (svK (kvT f xs)) (.inr k) = some (.val (f ((lkS xs k).getD default))) := by
  rw [lk_T]
  cases q : lkS xs k with
  | none => rw [q] at h; cases h
  | some a => rfl
theorem dd_ok {α : Type} {f : α → PyData} {n : Nat} (hn : n ≤ 60) (h : ∀ x, dkD n (f x) = true) (xs : List (Str × α)) : ∀ kv ∈ kvT f xs, SeqAt.shaped kv.2 = true ∧ PyData.eqv kv.2 kv.2 = true := by
  intro kv hk
  unfold kvT at hk
  obtain ⟨p, _, rfl⟩ := List.mem_map.mp hk
  exact ⟨dk_shaped (h p.2) hn, dk_refl (h p.2)⟩
section
variable {X : Cx} {na : Nat} {sl sl' : Sl} {cs cs1 cs2 cs3 : Cs} {s t u : SV} {pos spos p : Pos} {x : Str} {E : DEnds} {N : List Str} {a b : Expr} {tg iter : Expr}
theorem ev_minL {ns : List Int} (hm : X.mg "min" = none) (ha : EV X na a sl cs s cs1) (hl : IsL cs1 s ((ns.map PyData.int).map SV.val)) (hn : ns ≠ []) (hc : X.calm = true := by rfl) (hg : Gl X "min" := by rfl) (hs : starEach [a] X.env = (false, eval a X.env) :: starEach [] X.env := by rfl) : EV X na (.Call (.Name "min" p) [a] [] pos) sl cs (.val (.int (minL ns))) cs1 :=
  ev_callB (cr_min hc) (by decide +kernel) hg hm (av_cons ha av_nil hs) (rc1 fun B G ps' H v hn2 C r1 Q q => by
    obtain ⟨l, vs, rfl, h1, h2⟩ := hl.sq C r1
    have e : vs = ns.map V.int := Reps.ints (Reps.ofVs h2)
    subst e
    refine ⟨l, ns, rfl, h1, List.length_pos_iff.mpr hn, fun m hm1 hm2 => ?_⟩
    obtain ⟨g1, g2⟩ := minL_is hn
    have : m = minL ns := Int.le_antisymm (hm2 _ g1) (g2 _ hm1)
    subst this
    exact q _ G ps' H C (Up.refl _ _) (Rep.int _)) (by decide) (by decide) hs
theorem ev_maxL {ns : List Int} (hm : X.mg "max" = none) (ha : EV X na a sl cs s cs1) (hl : IsL cs1 s ((ns.map PyData.int).map SV.val)) (hn : ns ≠ []) (hc : X.calm = true := by rfl) (hg : Gl X "max" := by rfl) (hs : starEach [a] X.env = (false, eval a X.env) :: starEach [] X.env := by rfl) : EV X na (.Call (.Name "max" p) [a] [] pos) sl cs (.val (.int (maxL ns))) cs1 :=
  ev_callB (cr_max hc) (by decide +kernel) hg hm (av_cons ha av_nil hs) (rc1 fun B G ps' H v hn2 C r1 Q q => by
    obtain ⟨l, vs, rfl, h1, h2⟩ := hl.sq C r1
    have e : vs = ns.map V.int := Reps.ints (Reps.ofVs h2)
    subst e
    refine ⟨l, ns, rfl, h1, List.length_pos_iff.mpr hn, fun m hm1 hm2 => ?_⟩
    obtain ⟨g1, g2⟩ := maxL_is hn
    have : m = maxL ns := Int.le_antisymm (g2 _ hm1) (hm2 _ g1)
    subst this
    exact q _ G ps' H C (Up.refl _ _) (Rep.int _)) (by decide) (by decide) hs
end
end DL
namespace DL
open PySem PySem.Spec PyProof.Rows L2
/-! ### texts -/
theorem ixD_bd {xs : List Int} {lo hi i : Int} (h : ∀ x ∈ xs, lo ≤ x ∧ x ≤ hi) (h0 : 0 ≤ i) (h1 : i < xs.length) : lo ≤ ixD xs i ∧ ixD xs i ≤ hi := h _ (ixD_mem h0 h1)
theorem ixD_bdS {xs : List Str} {lo hi : Nat} {i : Int} (h : ∀ x ∈ xs, lo ≤ x.length ∧ x.length ≤ hi) (h0 : 0 ≤ i) (h1 : i < xs.length) : lo ≤ (ixD xs i).length ∧ (ixD xs i).length ≤ hi := h _ (ixD_mem h0 h1)
/-- x n times -/
def strRep (x : Str) (n : Int) : Str := ⟨(List.replicate n.toNat x.cps).foldl (· ++ ·) #[]⟩
theorem fold_size (a : Array Nat) : ∀ (n : Nat) (acc : Array Nat), ((List.replicate n a).foldl (· ++ ·) acc).size = acc.size + n * a.size
  | 0, acc => by simp
  | n + 1, acc => by
    rw [List.replicate_succ, List.foldl_cons, fold_size a n, Array.size_append, Nat.add_mul]
    omega
theorem strRep_len (x : Str) (n : Int) : (strRep x n).length = n.toNat * x.length := by
  show ((List.replicate n.toNat x.cps).foldl (· ++ ·) #[]).size = n.toNat * x.cps.size
  rw [fold_size]
  simp
theorem op_mulS {X : Cx} : OpR X (binaryOp .Mult) (fun x y H Q => ∃ (z : Str) (k : Int), x = .str z ∧ y = .int k ∧ 2 ≤ k ∧ k ≤ 100 ∧ 0 < z.length ∧ z.length ≤ 1000 ∧ Q (.str (strRep z k)) H) := by
  intro pins s σ H x y v u Q I rx ry h
  obtain ⟨z, k, rfl, rfl, h1, h2, h3, h4, q⟩ := h
  obtain ⟨t, rfl⟩ := rx
  obtain ⟨t', rfl⟩ := ry
  have hk1 : ¬ k < 1 := by omega
  have hk2 : (k == 1 || z.length == 0) = false := by
    rw [Bool.or_eq_false_iff, beq_eq_false_iff_ne, beq_eq_false_iff_ne]
    omega
  refine PySem.P.mul_str (by rw [Bool.or_eq_false_iff, decide_eq_false_iff_not, decide_eq_false_iff_not]; omega) (fun _ _ => ?_) (fun _ _ => ?_) ?_
  · have : (2 ^ 63 - 1 : Int) / k ≥ (2 ^ 63 - 1) / 100 := Int.le_ediv_of_mul_le (by omega) (by
      have : (2 ^ 63 - 1 : Int) / 100 * k ≤ (2 ^ 63 - 1) / 100 * 100 := Int.mul_le_mul_of_nonneg_left h2 (by decide)
      omega)
    have e : (2 ^ 63 - 1 : Int) / 100 = 92233720368547758 := by decide
    omega
  · have : z.length * k.toNat ≤ 1000 * 100 := Nat.mul_le_mul h4 (by omega)
    exact decide_eq_false (by rw [sizeLine_eq]; omega)
  · rw [if_neg hk1, if_neg (by rw [hk2]; decide)]
    have hlen : (strRep z k).length ≤ sizeLine := by
      have : k.toNat * z.length ≤ 100 * 1000 := Nat.mul_le_mul (by omega) h4
      rw [strRep_len, sizeLine_eq]
      omega
    exact ⟨hlen, ⟨.str (strRep z k), H, I.tok _, ⟨_, rfl⟩, q⟩⟩
theorem lt_cps_asymm {a b : Str} (h1 : ltCps b.cps.toList a.cps.toList = false) (h2 : ltCps a.cps.toList b.cps.toList = false) : a = b := by
  rw [ltCps_eq, decide_eq_false_iff_not] at h1 h2
  have : a.cps.toList = b.cps.toList := List.le_antisymm (List.not_lt.mp h1) (List.not_lt.mp h2)
  cases a
  cases b
  congr 1
  exact Array.ext' this
def leS (a b : Str) : Bool := !ltCps b.cps.toList a.cps.toList
theorem leS_iff {a b : Str} : leS a b = true ↔ a.cps.toList ≤ b.cps.toList := by
  unfold leS
  rw [ltCps_eq, Bool.not_eq_true', decide_eq_false_iff_not]
  exact List.not_lt
theorem leS_trans {a b c : Str} (h1 : leS a b = true) (h2 : leS b c = true) : leS a c = true := leS_iff.mpr (List.le_trans (leS_iff.mp h1) (leS_iff.mp h2))
theorem leS_anti {a b : Str} (h1 : leS a b = true) (h2 : leS b a = true) : a = b := by
  have e := List.le_antisymm (leS_iff.mp h1) (leS_iff.mp h2)
  cases a
  cases b
  congr 1
  exact Array.ext' e
theorem leS_total (a b : Str) : (leS a b || leS b a) = true := by
  rw [Bool.or_eq_true, leS_iff, leS_iff]
  exact List.le_total _ _
def sortS (ks : List Str) : List Str := ks.mergeSort leS
theorem sortS_perm (ks : List Str) : (sortS ks).Perm ks := List.mergeSort_perm ks _
theorem sortS_srt (ks : List Str) : (sortS ks).Pairwise fun a b => leS a b = true := List.pairwise_mergeSort (le := leS) (fun _ _ _ => leS_trans) leS_total ks
theorem sortS_len (ks : List Str) : (sortS ks).length = ks.length := (sortS_perm ks).length_eq
theorem rising_pw : ∀ (p : Str) (l : List Str), risingS p l = true → (p :: l).Pairwise fun a b => leS a b = true
  | p, [], _ => List.pairwise_singleton _ _
  | p, x :: r, h => by
    have h' : (!ltCps x.cps.toList p.cps.toList && risingS x r) = true := h
    rw [Bool.and_eq_true] at h'
    have ih := rising_pw x r h'.2
    refine List.pairwise_cons.mpr ⟨fun y hy => ?_, ih⟩
    rcases List.mem_cons.mp hy with z | z
    · subst z
      exact h'.1
    · exact leS_trans h'.1 ((List.pairwise_cons.mp ih).1 y z)
theorem sortedS_pw : ∀ {l : List Str}, sortedS l = true → l.Pairwise fun a b => leS a b = true
  | [], _ => List.Pairwise.nil
  | x :: r, h => rising_pw x r h
theorem sortS_uniq {ks ys : List Str} (p : ys.Perm ks) (h : sortedS ys = true) : ys = sortS ks :=
  perm_sorted (le := fun a b => leS a b = true) (fun _ _ => leS_anti) (p.trans (sortS_perm ks).symm) (sortedS_pw h) (sortS_srt ks)
section
variable {X : Cx} {na : Nat} {sl sl' : Sl} {cs cs1 cs2 cs3 : Cs} {s t u : SV} {pos spos p : Pos} {x : Str} {E : DEnds} {N : List Str} {a b : Expr} {tg iter : Expr}
theorem ev_mulS {z : Str} {k : Int} (ha : EV X na a sl cs (.val (.str z)) cs1) (hb : EV X na b sl cs1 (.val (.int k)) cs2) (h : 2 ≤ k ∧ k ≤ 100) (hz : 0 < z.length ∧ z.length ≤ 1000) : EV X na (.BinOp a .Mult b pos) sl cs (.val (.str (strRep z k))) cs2 :=
  ev_op op_mulS ha hb fun B G ps H v w hn C h1 h2 Q q => ⟨z, k, Rep.strI h1, Rep.intI h2, h.1, h.2, hz.1, hz.2, q _ G ps H C (Up.refl _ _) (Rep.str _)⟩
theorem ev_addS {y z : Str} (ha : EV X na a sl cs (.val (.str y)) cs1) (hb : EV X na b sl cs1 (.val (.str z)) cs2) (h : y.length + z.length ≤ 1000000) : EV X na (.BinOp a .Add b pos) sl cs (.val (.str (y ++ z))) cs2 :=
  ev_op op_add_str ha hb fun B G ps H v w hn C h1 h2 Q q => ⟨y, z, Rep.strI h1, Rep.strI h2, by rw [sizeLine_eq]; omega, q _ G ps H C (Up.refl _ _) (Rep.str _)⟩
def chS (z : Str) (i : Int) : Str := ⟨#[(L2.atI z.cps.toList i).getD 0]⟩
theorem ev_ixS {z : Str} {i : Int} (ha : EV X na a sl cs (.val (.str z)) cs1) (hb : EV X na b sl cs1 (.val (.int i)) cs2) (h : 0 ≤ i ∧ i < z.length) (hz : z.length ≤ 1000000) (hs : PlainIx b := by exact fun _ _ => rfl) : EV X na (.Subscript a b pos) sl cs (.val (.str (chS z i))) cs2 :=
  ev_of (pe_ix ix_str pe_any pe_any hs) (de_op ha hb fun B G ps H v w hn C r1 r2 Q q => by
    have hl : z.cps.toList.length = z.length := Array.length_toList
    have e := at_in (xs := z.cps.toList) (i := i) (d := 0) h.1 (by rw [hl]; exact h.2)
    refine ⟨z, i, _, Rep.strI r1, Rep.intI r2, by rw [sizeLine_eq]; omega, e, ?_⟩
    have : chS z i = ⟨#[z.cps.toList.getD i.toNat 0]⟩ := by
      unfold chS
      rw [e]
      rfl
    rw [← this]
    exact q _ G ps H C (Up.refl _ _) (Rep.str _))
theorem ev_sortedDS {α : Type} {f : α → PyData} {kvs : List (Str × α)} (hm : X.mg "sorted" = none) (ha : EV X na a sl cs s cs1) (hd : IsD cs1 s (svK (kvT f kvs))) (h64 : kvs.length < 64) (hc : X.calm = true := by rfl) (hg : Gl X "sorted" := by rfl) (hs : starEach [a] X.env = (false, eval a X.env) :: starEach [] X.env := by rfl) : EV X na (.Call (.Name "sorted" p) [a] [] pos) sl cs (.val (.list ((sortS (kvs.map (·.1))).map PyData.str))) cs1 :=
  ev_callB (call_sortedD hc) (by decide +kernel) hg hm (av_cons ha av_nil hs) (rc1 fun B G ps' H v hn C r1 Q q => by
    obtain ⟨l, us, rfl, h1, h2⟩ := hd.at C r1
    refine ⟨l, us, kvs.map (·.1), rfl, .inl h1, ?_, by rw [List.length_map]; exact h64, fun ys d hp hs hd => ?_⟩
    · rw [lk_keys h2]
      unfold svK kvT
      rw [List.map_map, List.map_map, List.map_map]
      rfl
    · rw [sortS_uniq hp hs]
      exact C.newLst (Reps.ofStrs _) q d hd) (by decide) (by decide) hs
theorem s1_dputT {α : Type} {f : α → PyData} {o i v : Expr} {p2 : Pos} {n : Nat} {kvs : List (Str × α)} {k : Str} {y : α} {m : Nat} (hr : Room m X.A) (hv : EV X na v sl cs (.val (f y)) cs1) (ho : EV X na o sl cs1 (.cell n) cs1) (hi : EV X na i sl cs1 (.val (.str k)) cs1) (hc : cs1[n]? = some (.dct (svK (kvT f kvs)))) (hz : kvs.length ≤ 1000000) (nd : (kvs.map (·.1)).Nodup) (pc : PutC cs1 n (.dct (svK (kvT f (putSt kvs k y)))) cs2) (q : E.nx sl cs2)
    (hs : swapsWith v (some (.Subscript o i p2)) pos.line X.env = pure false := by rfl) : S1 X na (.Assign [.Subscript o i p2] v pos) sl cs E :=
  s1_dput hr hv ho hi hc (KeyOf.str k) (by rw [kvT_len]; exact hz) (svT_nd nd) (by rw [putS_T]; exact pc) q hs
end
theorem forL_elim {α σ ρ : Type} {mb : α → σ → (σ → ρ) → ρ} {mk : σ → ρ} {R : ρ} (J : List α → σ → Prop) (Z : Prop) : ∀ {es : List α} {s : σ}, forL mb mk es s = R → J es s →
    (∀ e rest s cont, e ∈ es → J (e :: rest) s → mb e s cont = R → (∃ s', cont s' = R ∧ J rest s') ∨ Z) → (∃ s, J [] s ∧ mk s = R) ∨ Z
  | [], s, h, hj, _ => .inl ⟨s, hj, h⟩
  | e :: es, s, h, hj, hs => by
    rcases hs e es s (forL mb mk es) List.mem_cons_self hj h with ⟨s', h', hj'⟩ | z
    · exact forL_elim J Z h' hj' fun e' rest s cont he => hs e' rest s cont (List.mem_cons_of_mem _ he)
    · exact .inr z
end DL
namespace DL
open PySem PySem.Spec PyProof.Rows L2
/-! ### dicts by ints -/
def lkI {α : Type} : List (Int × α) → Int → Option α
  | [], _ => none
  | (j, v) :: r, k => if j = k then some v else lkI r k
def putI {α : Type} : List (Int × α) → Int → α → List (Int × α)
  | [], k, v => [(k, v)]
  | (j, u) :: r, k, v => if j = k then (j, v) :: r else (j, u) :: putI r k v
def kvI {α : Type} (f : α → PyData) (ps : List (Int × α)) : List (Key × PyData) := ps.map fun p => (Sum.inl p.1, f p.2)
section
variable {α : Type} {f : α → PyData}
theorem putS_I (k : Int) (v : α) : ∀ ps : List (Int × α), putS (svK (kvI f ps)) (.inl k) (.val (f v)) = svK (kvI f (putI ps k v))
  | [] => rfl
  | (j, u) :: r => by
    show (if (Sum.inl j : Key) = .inl k then _ else _) = svK (kvI f (if j = k then (j, v) :: r else (j, u) :: putI r k v))
    by_cases h : j = k
    · rw [if_pos h, if_pos (by rw [h])]
      rfl
    · rw [if_neg h, if_neg (fun z => h (by cases z; rfl))]
      show (_ :: putS (svK (kvI f r)) (.inl k) (.val (f v))) = _
      rw [putS_I k v r]
      rfl
theorem lk_I (k : Int) : ∀ ps : List (Int × α), lkK (svK (kvI f ps)) (.inl k) = (lkI ps k).map fun a => .val (f a)
  | [] => rfl
  | (j, u) :: r => by
    show (if (Sum.inl j : Key) = .inl k then _ else lkK (svK (kvI f r)) (.inl k)) = (if j = k then some u else lkI r k).map fun a => .val (f a)
    by_cases h : j = k
    · rw [if_pos h, if_pos (by rw [h])]
      rfl
    · rw [if_neg h, if_neg (fun z => h (by cases z; rfl)), lk_I k r]
theorem putI_len (k : Int) (v : α) : ∀ ps : List (Int × α), (putI ps k v).length ≤ ps.length + 1
  | [] => Nat.le_refl _
  | (j, u) :: r => by
    show (if j = k then (j, v) :: r else (j, u) :: putI r k v).length ≤ r.length + 1 + 1
    have := putI_len k v r
    split
    · rw [List.length_cons]; omega
    · rw [List.length_cons]; omega
theorem putI_mem {k : Int} {v : α} : ∀ {ps : List (Int × α)} {q : Int × α}, q ∈ putI ps k v → q = (k, v) ∨ q ∈ ps
  | [], q, h => .inl (List.mem_singleton.mp h)
  | (j, u) :: r, q, h => by
    unfold putI at h
    by_cases e : j = k
    · rw [if_pos e] at h
      rcases List.mem_cons.mp h with z | z
      · exact .inl (by rw [z, e])
      · exact .inr (List.mem_cons_of_mem _ z)
    · rw [if_neg e] at h
      rcases List.mem_cons.mp h with z | z
      · exact .inr (by rw [z]; exact List.mem_cons_self)
      · exact (putI_mem z).imp id (List.mem_cons_of_mem _)
theorem putI_nd (k : Int) (v : α) : ∀ ps : List (Int × α), (ps.map (·.1)).Nodup → ((putI ps k v).map (·.1)).Nodup
  | [], _ => by show [k].Nodup; simp
  | (j, u) :: r, h => by
    show ((if j = k then (j, v) :: r else (j, u) :: putI r k v).map (·.1)).Nodup
    rw [List.map_cons, List.nodup_cons] at h
    split
    · rw [List.map_cons, List.nodup_cons]; exact h
    · rename_i hj
      rw [List.map_cons, List.nodup_cons]
      refine ⟨fun z => ?_, putI_nd k v r h.2⟩
      obtain ⟨q, hq, e⟩ := List.mem_map.mp z
      rcases putI_mem hq with rfl | hq
      · exact hj e.symm
      · exact h.1 (List.mem_map.mpr ⟨q, hq, e⟩)
theorem lkI_put (k : Int) (v : α) (j : Int) : ∀ ps : List (Int × α), lkI (putI ps k v) j = if k = j then some v else lkI ps j
  | [] => rfl
  | (i, u) :: r => by
    show lkI (if i = k then (i, v) :: r else (i, u) :: putI r k v) j = if k = j then some v else if i = j then some u else lkI r j
    by_cases h : i = k
    · subst h
      rw [if_pos rfl]
      show (if i = j then some v else lkI r j) = _
      by_cases e : i = j
      · rw [if_pos e, if_pos e]
      · rw [if_neg e, if_neg e, if_neg e]
    · rw [if_neg h]
      show (if i = j then some u else lkI (putI r k v) j) = _
      rw [lkI_put k v j r]
      by_cases e : i = j
      · subst e
        rw [if_pos rfl, if_neg (fun z => h z.symm), if_pos rfl]
      · rw [if_neg e, if_neg e]
theorem lkI_mem : ∀ {ps : List (Int × α)} {k : Int} {v : α}, lkI ps k = some v → (k, v) ∈ ps
  | [], _, _, h => by cases h
  | (i, u) :: r, k, v, h => by
    unfold lkI at h
    by_cases e : i = k
    · rw [if_pos e] at h
      cases h
      subst e
      exact List.mem_cons_self
    · rw [if_neg e] at h
      exact List.mem_cons_of_mem _ (lkI_mem h)
theorem lkI_some : ∀ {ps : List (Int × α)} {k : Int}, k ∈ ps.map (·.1) → (lkI ps k).isSome = true
  | [], _, h => nomatch h
  | (i, u) :: r, k, h => by
    unfold lkI
    by_cases e : i = k
    · rw [if_pos e]; rfl
    · rw [if_neg e]
      rw [List.map_cons, List.mem_cons] at h
      exact lkI_some (h.elim (fun z => (e z.symm).elim) id)
theorem kvI_len (ps : List (Int × α)) : (svK (kvI f ps)).length = ps.length := by unfold svK kvI; rw [List.length_map, List.length_map]
theorem svI_nd {ps : List (Int × α)} (h : (ps.map (·.1)).Nodup) : ((svK (kvI f ps)).map (·.1)).Nodup := by
  have e : (svK (kvI f ps)).map (·.1) = (ps.map (·.1)).map Sum.inl := by
    unfold svK kvI
    rw [List.map_map, List.map_map, List.map_map]
    rfl
  rw [e]
  exact List.Pairwise.map _ (fun a b hab z => hab (by cases z; rfl)) h
theorem lkI_at [Inhabited α] {xs : List (Int × α)} {k : Int} (h : (lkI xs k).isSome = true) : lkK (svK (kvI f xs)) (.inl k) = some (.val (f ((lkI xs k).getD default))) := by
  rw [lk_I]
  cases q : lkI xs k with
  | none => rw [q] at h; cases h
  | some a => rfl
end
section
variable {X : Cx} {na : Nat} {sl sl' : Sl} {cs cs1 cs2 cs3 : Cs} {s t u : SV} {pos spos p : Pos} {x : Str} {E : DEnds} {N : List Str} {a b : Expr} {tg iter : Expr}
theorem s1_dputI {α : Type} {f : α → PyData} {o i v : Expr} {p2 : Pos} {n : Nat} {kvs : List (Int × α)} {k : Int} {y : α} {m : Nat} (hr : Room m X.A) (hv : EV X na v sl cs (.val (f y)) cs1) (ho : EV X na o sl cs1 (.cell n) cs1) (hi : EV X na i sl cs1 (.val (.int k)) cs1) (hc : cs1[n]? = some (.dct (svK (kvI f kvs)))) (hz : kvs.length ≤ 1000000) (nd : (kvs.map (·.1)).Nodup) (pc : PutC cs1 n (.dct (svK (kvI f (putI kvs k y)))) cs2) (q : E.nx sl cs2)
    (hs : swapsWith v (some (.Subscript o i p2)) pos.line X.env = pure false := by rfl) : S1 X na (.Assign [.Subscript o i p2] v pos) sl cs E :=
  s1_dput hr hv ho hi hc (KeyOf.int k) (by rw [kvI_len]; exact hz) (svI_nd nd) (by rw [putS_I]; exact pc) q hs
/-! walking a dict's keys: it is locked as long -/
theorem iv_frz {k : Nat} {od : Obj} {us : List (Key × V)} {kvs : List (Key × SV)} (h : EV X na iter sl cs (.cell k) cs1) (hl : cs1[k]? = some (.frz od us kvs)) : IV X na tg iter sl cs (kvs.map fun kv => SV.val (kD kv.1)) (fun cs' => cs'[k]? = some (.frz od us kvs)) cs1 :=
  iv_of (pi_keys pe_any) fun B G ps σ H hn C S R r => h B G ps σ H hn C S _ fun v G1 ps1 H1 C1 u1 r1 => by
    obtain ⟨a, rfl, ea, h1, h2⟩ := C1.cellAt r1 hl
    have hlen : us.length = kvs.length := Paired.length h2
    refine ⟨a, od, rfl, .inl ⟨us, h1, r _ _ _ G1 ps1 H1 C1 u1 (by rw [List.length_map, ← hlen]; exact walk_keys) (fun G' ps' cs' H' C' u' g => (C'.cell k a _ (pre_get u'.p ea) g).1.1) ?_⟩⟩
    intro i H' x H'' G' ps' cs' y C' u' g
    obtain ⟨rfl, ky, w, e, rfl⟩ := y
    obtain ⟨⟨k2, s2⟩, es, ek, _⟩ := pd_getL h2 e
    have ek : ky = k2 := ek
    subst ek
    exact ⟨.val (kD ky), G', by rw [List.getElem?_map, es]; rfl, C', Up.refl _ _, rep_key ky, Same.refl _, fun _ z => .inl z⟩
theorem iv_frzI {α : Type} {f : α → PyData} {k : Nat} {od : Obj} {us : List (Key × V)} {ps : List (Int × α)} (h : EV X na iter sl cs (.cell k) cs1) (hl : cs1[k]? = some (.frz od us (svK (kvI f ps)))) : IV X na tg iter sl cs ((ps.map (·.1)).map fun i => SV.val (.int i)) (fun cs' => cs'[k]? = some (.frz od us (svK (kvI f ps)))) cs1 := by
  have := iv_frz (tg := tg) h hl
  unfold svK kvI at this ⊢
  rw [List.map_map, List.map_map] at this
  rw [List.map_map]
  exact this
theorem iv_frzT {α : Type} {f : α → PyData} {k : Nat} {od : Obj} {us : List (Key × V)} {ps : List (Str × α)} (h : EV X na iter sl cs (.cell k) cs1) (hl : cs1[k]? = some (.frz od us (svK (kvT f ps)))) : IV X na tg iter sl cs ((ps.map (·.1)).map fun i => SV.val (.str i)) (fun cs' => cs'[k]? = some (.frz od us (svK (kvT f ps)))) cs1 := by
  have := iv_frz (tg := tg) h hl
  unfold svK kvT at this ⊢
  rw [List.map_map, List.map_map] at this
  rw [List.map_map]
  exact this
theorem s1_lock {st : Stmt} {k : Nat} {kvs : List (Key × SV)} (hk : cs[k]? = some (.dct kvs))
    (h : ∀ (od : Obj) (us : List (Key × V)), S1 X na st sl (cs.set k (.frz od us kvs)) ⟨fun sl' cs' => cs'[k]? = some (.frz od us kvs) ∧ E.nx sl' (cs'.set k (.dct kvs)), fun s cs' => cs'[k]? = some (.frz od us kvs) ∧ E.rt s (cs'.set k (.dct kvs)), fun sl' cs' => cs'[k]? = some (.frz od us kvs) ∧ E.bk sl' (cs'.set k (.dct kvs)), fun sl' cs' => cs'[k]? = some (.frz od us kvs) ∧ E.ct sl' (cs'.set k (.dct kvs))⟩) : S1 X na st sl cs E :=
  s1_of (ps_lock ps_any) fun B G ps σ H hn C S D L => by
    obtain ⟨p, ep⟩ := C.addr hk
    obtain ⟨⟨us, hH, rus⟩, hB, hG⟩ := C.cell k p _ ep hk
    refine ⟨p, .dK us, hH, trivial, fun od => ?_⟩
    have C1 : Core X.K B G ps (cs.set k (.frz od us kvs)) (upd H p (.frz od (.dK us))) := C.put ep hk (by intro z; cases z) ⟨upd_same, rus⟩
    have back : ∀ {G' : Hp} {ps' : List Addr} {cs' : Cs} {H' : Hp}, Core X.K B G' ps' cs' H' → Up G ps G' ps' → cs'[k]? = some (.frz od us kvs) → H' p = some (.frz od (.dK us)) ∧ Core X.K B G' ps' (cs'.set k (.dct kvs)) (upd H' p (.dK us)) := fun {G' ps' cs' H'} C' u' g => by
      obtain ⟨h1, _, _⟩ := C'.cell k p _ (pre_get u'.p ep) g
      exact ⟨h1.1, C'.put (pre_get u'.p ep) g (by intro z; cases z) ⟨us, upd_same, h1.2⟩⟩
    refine h od us B G ps σ _ hn C1 S _ ⟨?_, ?_, ?_, ?_⟩
    · exact fun sl' cs' G' ps' σ' H' C' u' S' ⟨g, e⟩ => ⟨(back C' u' g).1, L.nx sl' _ G' ps' σ' _ (back C' u' g).2 u' S' e⟩
    · exact fun s' cs' G' ps' v' H' C' u' r' ⟨g, e⟩ => ⟨(back C' u' g).1, L.rt s' _ G' ps' v' _ (back C' u' g).2 u' r' e⟩
    · exact fun sl' cs' G' ps' σ' H' C' u' S' ⟨g, e⟩ => ⟨(back C' u' g).1, L.bk sl' _ G' ps' σ' _ (back C' u' g).2 u' S' e⟩
    · exact fun sl' cs' G' ps' σ' H' C' u' S' ⟨g, e⟩ => ⟨(back C' u' g).1, L.ct sl' _ G' ps' σ' _ (back C' u' g).2 u' S' e⟩
/-- d[k], d locked -/
theorem ev_dgetF {kn : Nat} {od : Obj} {us : List (Key × V)} {kvs : List (Key × SV)} {kd : PyData} {k : Key} {m : Nat} (hr : Room m X.A) (ha : EV X na a sl cs (.cell kn) cs1) (hb : EV X na b sl cs1 (.val kd) cs2) (hd : cs2[kn]? = some (.frz od us kvs)) (hk : KeyOf kd k) (hl : lkK kvs k = some t) (hs : NoSl b := by exact fun _ _ => rfl) : EV X na (.Subscript a b pos) sl cs t cs2 :=
  ev_of (pe_dget (by have := hr.un; omega) pe_any pe_any hs) fun B G ps σ H hn C S Q q => ha B G ps σ H hn C S _ fun v G1 ps1 H1 C1 u1 r1 => hb B G1 ps1 σ H1 hn C1 (Slots.mono u1 S) _ fun w G2 ps2 H2 C2 u2 r2 => by
    obtain ⟨pa, rfl, ea, h1, h2⟩ := C2.cellAt (RepV.mono u2 r1) hd
    obtain ⟨z, e1, e2⟩ := lk_some h2 hl
    refine ⟨pa, z, rfl, ?_, q z G2 ps2 H2 C2 (u1.trans u2) e2⟩
    rw [hk.v r2]
    exact .inl ⟨us, k, .inr ⟨od, h1⟩, rfl, e1.symm⟩
theorem ev_extT {α : Type} {f : α → PyData} {l m : List α} {o e : Expr} {apos : Pos} {k j : Nat} {ys : List SV} (ho : EV X na o sl cs (.cell k) cs1) (he : EV X na e sl cs1 (.cell j) cs2) (hc1 : cs1[k]? = some (.lst ys)) (hc : cs2[k]? = some (.lst ((l.map f).map SV.val))) (hj : cs2[j]? = some (.lst ((m.map f).map SV.val))) (pc : PutC cs2 k (.lst (((l ++ m).map f).map SV.val)) cs3) (hz : l.length + m.length ≤ 1000000)
    (hs : starEach [e] X.env = (false, eval e X.env) :: starEach [] X.env := by rfl)
    (hbase : attributeBase o "extend" X.env (eval o X.env) = eval o X.env := by rfl) (hfew : ((backTo pos (starEach (e :: []) X.env)).all (fun x => !x.1) && (backToKw pos (keywordEach [] X.env)).all (fun x => x.1.isSome)
      && decide ((e :: []).length + ([] : List Keyword).length + (if ([] : List Keyword).isEmpty then 0 else 1) < 30)) = true := by rfl)
    (hline : (apos.endLine == pos.line) = true := by rfl) (hplain : (backTo pos (starEach [] X.env)).any (·.1) = false := by rfl) : EV X na (.Call (.Attribute o "extend" apos) [e] [] pos) sl cs (.val .none) cs3 :=
  ev_of (pe_bm PySem.F.plainAttrs_list PySem.F.slot_list_extend PySem.F.type_list_extend mt_extend pe_any pa_any hbase hfew hline hs hplain) fun B G ps σ H hn C S Q q => ho B G ps σ H hn C S _ fun v G1 ps1 H1 C1 u1 r1 => by
    obtain ⟨a, ea, rfl⟩ := r1
    obtain ⟨ws, hw, _⟩ := (C1.cell k a _ ea hc1).1
    refine ⟨.inl ⟨rfl, ws, SqL.of hw⟩, av_cons he av_nil hs B G1 ps1 σ H1 hn C1 (Slots.mono u1 S) _ fun vs G2 ps2 H2 C2 u2 r2 => ?_⟩
    cases r2 with
    | cons r3 r4 =>
      cases r4
      obtain ⟨b, eb, rfl⟩ := r3
      have ea2 := pre_get u2.p ea
      obtain ⟨zs, hz2, rz⟩ := (C2.cell k a _ ea2 hc).1
      obtain ⟨ms, hm2, rm⟩ := (C2.cell j b _ eb hj).1
      have hlz : zs.length = l.length := by rw [Paired.length rz, List.length_map, List.length_map]
      have hlm : ms.length = m.length := by rw [Paired.length rm, List.length_map, List.length_map]
      rw [List.map_append, List.map_append] at pc
      rw [pc.at] at q
      exact ⟨a, b, zs, ms, rfl, rfl, hz2, hm2, by rw [hlz, hlm, sizeLine_eq]; omega, q _ G2 ps2 _ (C2.put ea2 hc (by intro z; cases z) ⟨_, upd_same, pd_app rz rm⟩) (u1.trans u2) Rep.non⟩
end
end DL
namespace DL
open PySem PySem.Spec PyProof.Rows L2
/-! ### something or None -/
def optD {α : Type} (f : α → PyData) : Option α → PyData
  | none => .none
  | some x => f x
theorem optD_some {α : Type} [Inhabited α] {f : α → PyData} {o : Option α} (h : o.isSome = true) : SV.val (optD f o) = SV.val (f (o.getD default)) := by
  cases o with
  | none => cases h
  | some x => rfl
/-! ### each once -/
def nubL {α : Type} [DecidableEq α] : List α → List α
  | [] => []
  | a :: r => if a ∈ r then nubL r else a :: nubL r
theorem nubL_mem {α : Type} [DecidableEq α] : ∀ (l : List α) (x : α), x ∈ nubL l ↔ x ∈ l
  | [], _ => Iff.rfl
  | a :: r, x => by
    unfold nubL
    split
    · rename_i h
      rw [nubL_mem r, List.mem_cons]
      exact ⟨.inr, fun z => z.elim (fun z => z ▸ h) id⟩
    · rw [List.mem_cons, nubL_mem r, List.mem_cons]
theorem nubL_nd {α : Type} [DecidableEq α] : ∀ (l : List α), (nubL l).Nodup
  | [] => List.Pairwise.nil
  | a :: r => by
    unfold nubL
    split
    · exact nubL_nd r
    · rename_i h
      exact List.nodup_cons.mpr ⟨fun z => h ((nubL_mem r a).mp z), nubL_nd r⟩
theorem nubL_self {α : Type} [DecidableEq α] : ∀ {l : List α}, l.Nodup → nubL l = l
  | [], _ => rfl
  | a :: r, h => by
    rw [List.nodup_cons] at h
    unfold nubL
    rw [if_neg h.1, nubL_self h.2]
section
variable {X : Cx} {na : Nat} {sl sl' : Sl} {cs cs1 cs2 cs3 cs4 : Cs} {s t u : SV} {pos spos p pos2 p2 : Pos} {x : Str} {E : DEnds} {N : List Str} {a b : Expr} {tg iter : Expr}
/-! ### lists -/
theorem s1_lputT {α : Type} {f : α → PyData} {o i v : Expr} {p2 : Pos} {k : Nat} {l : List α} {y : α} {z : Int} (hv : EV X na v sl cs (.val (f y)) cs1) (ho : EV X na o sl cs1 (.cell k) cs2) (hi : EV X na i sl cs2 (.val (.int z)) cs2) (hc : cs2[k]? = some (.lst ((l.map f).map SV.val))) (h0 : 0 ≤ z) (h1 : z < l.length) (pc : PutC cs2 k (.lst (((l.set z.toNat y).map f).map SV.val)) cs3) (q : E.nx sl cs3)
    (hs : swapsWithSole [.Subscript o i p2] v pos.line X.env = pure false := by rfl) (hw : swappedStores [.Subscript o i p2] v X.env = pure none := by rfl)
    (ha1 : (assignEach [.Subscript o i p2] X.env).map (·.2) = [assign (.Subscript o i p2) X.env] := by rfl)
    (ha : ∀ v, assign (.Subscript o i p2) X.env v = (do
      let ov ← holding [v] (eval o X.env)
      let iv ← holding [v, ov] (eval i X.env)
      standAt p2
      holding [v, ov, iv] (setItem ov iv v)
      release [v, ov, iv] []) := by intro _; rfl) : S1 X na (.Assign [.Subscript o i p2] v pos) sl cs E := by
  refine s1_lput (j := z.toNat) hv ho hi hc ?_ ?_ q hs hw ha1 ha
  · rw [List.length_map, List.length_map]
    unfold L2.ixN
    rw [if_pos h0, if_pos h1]
  · rw [List.map_set, List.map_set] at pc
    exact pc
theorem ev_popT {α : Type} [Inhabited α] {f : α → PyData} {l : List α} {o e : Expr} {apos : Pos} {k : Nat} {z : Int} {ys : List SV} (ho : EV X na o sl cs (.cell k) cs1) (he : EV X na e sl cs1 (.val (.int z)) cs2) (hc1 : cs1[k]? = some (.lst ys)) (hc : cs2[k]? = some (.lst ((l.map f).map SV.val))) (h0 : 0 ≤ z) (h1 : z < l.length) (hl : l.length ≤ 1000000) (pc : PutC cs2 k (.lst (((l.eraseIdx z.toNat).map f).map SV.val)) cs3)
    (hs : starEach [e] X.env = (false, eval e X.env) :: starEach [] X.env := by rfl)
    (hbase : attributeBase o "pop" X.env (eval o X.env) = eval o X.env := by rfl) (hfew : ((backTo pos (starEach (e :: []) X.env)).all (fun x => !x.1) && (backToKw pos (keywordEach [] X.env)).all (fun x => x.1.isSome)
      && decide ((e :: []).length + ([] : List Keyword).length + (if ([] : List Keyword).isEmpty then 0 else 1) < 30)) = true := by rfl)
    (hline : (apos.endLine == pos.line) = true := by rfl) (hplain : (backTo pos (starEach [] X.env)).any (·.1) = false := by rfl) : EV X na (.Call (.Attribute o "pop" apos) [e] [] pos) sl cs (.val (f (ixD l z))) cs3 :=
  ev_of (pe_bm PySem.F.plainAttrs_list PySem.F.slot_list_pop PySem.F.type_list_pop mt_popAt pe_any pa_any hbase hfew hline hs hplain) fun B G ps σ H hn C S Q q => ho B G ps σ H hn C S _ fun v G1 ps1 H1 C1 u1 r1 => by
    obtain ⟨ad, ea, rfl⟩ := r1
    obtain ⟨ws, hw, _⟩ := (C1.cell k ad _ ea hc1).1
    refine ⟨.inl ⟨rfl, ws, SqL.of hw⟩, av_cons he av_nil hs B G1 ps1 σ H1 hn C1 (Slots.mono u1 S) _ fun vs G2 ps2 H2 C2 u2 r2 => ?_⟩
    cases r2 with
    | cons r3 r4 =>
      cases r4
      cases (r3 : Rep _ _ _ _)
      have ea2 := pre_get u2.p ea
      obtain ⟨zs, hz2, rz⟩ := (C2.cell k ad _ ea2 hc).1
      have hlz : zs.length = l.length := by rw [Paired.length rz, List.length_map, List.length_map]
      have hlt : z.toNat < l.length := by omega
      obtain ⟨y, ey, ry⟩ := pd_get rz (show ((l.map f).map SV.val)[z.toNat]? = some (.val (f l[z.toNat])) by rw [List.getElem?_map, List.getElem?_map, List.getElem?_eq_getElem hlt]; rfl)
      have eix : ixD l z = l[z.toNat] := by
        rw [ixD_eq h0 h1, List.getD_eq_getElem?_getD, List.getElem?_eq_getElem hlt]
        rfl
      rw [pc.at] at q
      rw [eix] at q
      have rz2 : RepVs X.K G2 ps2 (zs.eraseIdx z.toNat) (((l.eraseIdx z.toNat).map f).map SV.val) := by
        rw [List.eraseIdx_eq_take_drop_succ, List.eraseIdx_eq_take_drop_succ, List.map_append, List.map_append, List.map_take, List.map_drop, List.map_take, List.map_drop]
        exact pd_app (pd_take _ rz) (pd_drop _ rz)
      refine ⟨ad, zs, z, z.toNat, y, rfl, rfl, hz2, by omega, by omega, by rw [seqIndex_of h0 (by rw [hlz]; exact h1)], ey, ?_⟩
      exact q _ G2 ps2 _ (C2.put ea2 hc (by intro z; cases z) ⟨_, upd_same, rz2⟩) (u1.trans u2) ry
theorem ev_insT {α : Type} {f : α → PyData} {l : List α} {y : α} {o e d : Expr} {apos : Pos} {k : Nat} {z : Int} {ys : List SV} (ho : EV X na o sl cs (.cell k) cs1) (he : EV X na e sl cs1 (.val (.int z)) cs2) (hd : EV X na d sl cs2 (.val (f y)) cs3) (hc1 : cs1[k]? = some (.lst ys)) (hc : cs3[k]? = some (.lst ((l.map f).map SV.val))) (h0 : 0 ≤ z) (h1 : z ≤ l.length) (hl : l.length ≤ 1000000) (pc : PutC cs3 k (.lst (((l.take z.toNat ++ [y] ++ l.drop z.toNat).map f).map SV.val)) cs4)
    (hs : starEach [e, d] X.env = (false, eval e X.env) :: starEach [d] X.env := by rfl) (hs2 : starEach [d] X.env = (false, eval d X.env) :: starEach [] X.env := by rfl)
    (hbase : attributeBase o "insert" X.env (eval o X.env) = eval o X.env := by rfl) (hfew : ((backTo pos (starEach (e :: [d]) X.env)).all (fun x => !x.1) && (backToKw pos (keywordEach [] X.env)).all (fun x => x.1.isSome)
      && decide ((e :: [d]).length + ([] : List Keyword).length + (if ([] : List Keyword).isEmpty then 0 else 1) < 30)) = true := by rfl)
    (hline : (apos.endLine == pos.line) = true := by rfl) (hplain : (backTo pos (starEach [d] X.env)).any (·.1) = false := by rfl) : EV X na (.Call (.Attribute o "insert" apos) [e, d] [] pos) sl cs (.val .none) cs4 :=
  ev_of (pe_bm PySem.F.plainAttrs_list PySem.F.slot_list_insert PySem.F.type_list_insert mt_insert pe_any pa_any hbase hfew hline hs hplain) fun B G ps σ H hn C S Q q => ho B G ps σ H hn C S _ fun v G1 ps1 H1 C1 u1 r1 => by
    obtain ⟨ad, ea, rfl⟩ := r1
    obtain ⟨ws, hw, _⟩ := (C1.cell k ad _ ea hc1).1
    refine ⟨.inl ⟨rfl, ws, SqL.of hw⟩, av_cons he (av_cons hd av_nil hs2) hs B G1 ps1 σ H1 hn C1 (Slots.mono u1 S) _ fun vs G2 ps2 H2 C2 u2 r2 => ?_⟩
    cases r2 with
    | cons r3 r4 =>
      cases r4 with
      | cons r5 r6 =>
        cases r6
        cases (r3 : Rep _ _ _ _)
        have ea2 := pre_get u2.p ea
        obtain ⟨zs, hz2, rz⟩ := (C2.cell k ad _ ea2 hc).1
        have hlz : zs.length = l.length := by rw [Paired.length rz, List.length_map, List.length_map]
        rw [pc.at] at q
        refine ⟨ad, zs, z, _, rfl, rfl, hz2, by rw [hlz, sizeLine_eq]; omega, h0, by omega, ?_⟩
        refine q _ G2 ps2 _ (C2.put ea2 hc (by intro z; cases z) ⟨_, upd_same, ?_⟩) (u1.trans u2) Rep.non
        rw [List.map_append, List.map_append, List.map_append, List.map_append, List.map_take, List.map_drop, List.map_take, List.map_drop]
        exact pd_app (pd_app (pd_take _ rz) (.cons r5 .nil)) (pd_drop _ rz)
end
end DL
namespace DL
open PySem PySem.Spec PyProof.Rows L2
/-- when equality of data is equality -/
def EqvIs {α : Type} [DecidableEq α] (f : α → PyData) : Prop := ∀ a b, PyData.eqv (f a) (f b) = decide (a = b)
theorem eqv_int : EqvIs PyData.int := fun a b => by
  show (a == b) = decide (a = b)
  rw [Bool.eq_iff_iff, beq_iff_eq, decide_eq_true_eq]
theorem eqv_str : EqvIs PyData.str := fun a b => by
  show (a == b) = decide (a = b)
  rw [Bool.eq_iff_iff, beq_iff_eq, decide_eq_true_eq]
abbrev tieD (q : Int × Int × Int) : PyData := .tuple [.int q.1, .int q.2.1, .int q.2.2]
theorem eqv_tie : EqvIs tieD := fun a b => by
  have e : PyData.eqv (tieD a) (tieD b) = ((a.1 == b.1) && ((a.2.1 == b.2.1) && ((a.2.2 == b.2.2) && true))) := by simp [tieD, PyData.eqv, PyData.eqvAll]
  rw [e, Bool.eq_iff_iff, decide_eq_true_eq, Bool.and_eq_true, Bool.and_eq_true, Bool.and_eq_true, beq_iff_eq, beq_iff_eq, beq_iff_eq]
  constructor
  · rintro ⟨h1, h2, h3, _⟩
    exact Prod.ext h1 (Prod.ext h2 h3)
  · rintro rfl
    exact ⟨rfl, rfl, rfl, rfl⟩
theorem any_is {α : Type} [DecidableEq α] {f : α → PyData} (h : EqvIs f) (y : α) (l : List α) : ((l.map f).any fun z => PyData.eqv z (f y)) = decide (y ∈ l) := by
  rw [List.any_map, Bool.eq_iff_iff, List.any_eq_true, decide_eq_true_eq]
  constructor
  · rintro ⟨z, hz, e⟩
    have e : PyData.eqv (f z) (f y) = true := e
    rw [h, decide_eq_true_eq] at e
    exact e ▸ hz
  · intro hy
    exact ⟨y, hy, by show PyData.eqv (f y) (f y) = true; rw [h]; exact decide_eq_true rfl⟩
section
variable {X : Cx} {na : Nat} {sl sl' : Sl} {cs cs1 cs2 cs3 cs4 : Cs} {s t u : SV} {pos spos p pos2 p2 p3 p4 : Pos} {x : Str} {E : DEnds} {N : List Str} {a b : Expr} {tg iter : Expr}
theorem rep_one {α : Type} (n : Nat) (x : α) : (List.replicate n [x]).flatten = List.replicate n x := by
  induction n with
  | zero => rfl
  | succ n ih => rw [List.replicate_succ, List.flatten_cons, ih]; rfl
/-- [y] * n: a new cell -/
theorem ev_repT {α : Type} {f : α → PyData} {y : α} {n : Int} {j m : Nat} (ha : EV X na a sl cs (.cell j) cs1) (hb : EV X na b sl cs1 (.val (.int n)) cs2) (hc : cs2[j]? = some (.lst [.val (f y)])) (h0 : 0 ≤ n) (h1 : n ≤ 1000000) (ac : AppC cs2 (.lst (((List.replicate n.toNat y).map f).map SV.val)) m cs3) : EV X na (.BinOp a .Mult b pos) sl cs (.cell m) cs3 :=
  ev_op op_rep ha hb fun B G ps H v w hn C r1 r2 Q q => by
    obtain ⟨pa, ea, rfl⟩ := r1
    obtain ⟨ws, hw, rw'⟩ := (C.cell j pa _ ea hc).1
    have hl : ws.length = 1 := Paired.length rw'
    refine ⟨pa, n, ws, rfl, Rep.intI r2, hw, by omega, by omega, by rw [hl, sizeLine_eq]; omega, ?_⟩
    match ws, hl, rw', hw with
    | [w0], _, .cons r0 .nil, _ =>
      refine C.newCell ac (fun q hq => ⟨_, upd_same, ?_⟩) fun v' G' ps' H' C' u' r' => q v' G' ps' H' C' u' r'
      rw [rep_one, List.map_replicate, List.map_replicate]
      have r1 : RepV X.K G (ps ++ [q]) w0 (.val (f y)) := RepV.mono ⟨Same.refl _, List.prefix_append _ _⟩ r0
      generalize n.toNat = k
      induction k with
      | zero => exact .nil
      | succ k ih => exact .cons r1 ih
/-- xs[:k] -/
theorem ev_slTo {ds : List PyData} {k : Int} (ha : EV X na a sl cs s cs1) (hb : EV X na b sl cs1 (.val (.int k)) cs2) (hl : IsL cs2 s (ds.map SV.val)) (h0 : 0 ≤ k) (h1 : k ≤ ds.length) : EV X na (.Subscript a (.Slice none (some b) none p2) pos) sl cs (.val (.list (ds.take k.toNat))) cs2 :=
  ev_of (pe_slice sl_list pe_any po_none (po_some pe_any)) fun B G ps σ H hn C S Q q => ha B G ps σ H hn C S _ fun v G1 ps1 H1 C1 u1 r1 => hb B G1 ps1 σ H1 hn C1 (Slots.mono u1 S) _ fun w G2 ps2 H2 C2 u2 r2 => by
    obtain ⟨l, vs, rfl, h3, h2⟩ := hl.sq C2 (RepV.mono u2 r1)
    have k1 := Reps.ofVs h2
    have hlen : vs.length = ds.length := k1.length
    have e : cutV vs none (some k) = vs.take k.toNat := by
      have hk : k = ((k.toNat : Nat) : Int) := by omega
      unfold cutV
      rw [HT.sIx_none, hk, HT.sIx_nat, Nat.min_eq_left (by omega), List.drop_zero, Nat.sub_zero]
      rfl
    refine ⟨k, Rep.intI r2, l, vs, rfl, h3, ?_⟩
    rw [e]
    exact C2.newLst (Reps.take _ k1) fun v G3 ps3 H3 C3 u3 => q v G3 ps3 H3 C3 ((u1.trans u2).trans u3)
/-- xs[k:] -/
theorem ev_slFr {ds : List PyData} {k : Int} (ha : EV X na a sl cs s cs1) (hb : EV X na b sl cs1 (.val (.int k)) cs2) (hl : IsL cs2 s (ds.map SV.val)) (h0 : 0 ≤ k) : EV X na (.Subscript a (.Slice (some b) none none p2) pos) sl cs (.val (.list (ds.drop k.toNat))) cs2 := by
  have hk : k = ((k.toNat : Nat) : Int) := by omega
  rw [hk] at hb
  exact ev_slFrom ha hb hl p2
/-- xs[::-1] -/
theorem ev_slRev {ds : List PyData} {k : Nat} (ha : EV X na a sl cs s cs1) (hl : IsL cs1 s (ds.map SV.val)) : EV X na (.Subscript a (.Slice none none (some (.UnaryOp .USub (.Constant (.int 1) k p2) p3)) p4) pos) sl cs (.val (.list ds.reverse)) cs1 :=
  ev_of (pe_revL pe_any) fun B G ps σ H hn C S Q q => ha B G ps σ H hn C S _ fun v G1 ps1 H1 C1 u1 r1 => by
    obtain ⟨l, vs, rfl, h3, h2⟩ := hl.sq C1 r1
    exact ⟨l, vs, rfl, h3, C1.newLst (Reps.reverse (Reps.ofVs h2)) fun v G3 ps3 H3 C3 u3 => q v G3 ps3 H3 C3 (u1.trans u3)⟩
/-- x in xs, deep -/
theorem room_65 {A : Around} {k : Nat} (hr : Room k A) : A.units + 65 < cLine := by have := hr.un; omega
theorem rv_inD {K : PySem.W.Frag} {d : PyData} {ds : List PyData} (hd : IsDat cs s d) (he : IsDat cs t (.list ds)) (sd : SeqAt.shaped d = true) (se : SeqAt.shaped (.list ds) = true) : RV K na (rInD K) s t cs (.val (.bool (ds.any fun z => PyData.eqv z d))) cs := fun B G ps H v w hn C r1 r2 Q q =>
  ⟨d, ds, IsDat.dp C r1 hd (SeqAt.canLay_of_shaped sd), IsDat.dp C r2 he (SeqAt.canLay_of_shaped se), sd, se, q _ G ps H C (Up.refl _ _) (Rep.bl _)⟩
theorem rv_ninD {K : PySem.W.Frag} {d : PyData} {ds : List PyData} (hd : IsDat cs s d) (he : IsDat cs t (.list ds)) (sd : SeqAt.shaped d = true) (se : SeqAt.shaped (.list ds) = true) : RV K na (rNotInD K) s t cs (.val (.bool (!ds.any fun z => PyData.eqv z d))) cs := fun B G ps H v w hn C r1 r2 Q q =>
  ⟨d, ds, IsDat.dp C r1 hd (SeqAt.canLay_of_shaped sd), IsDat.dp C r2 he (SeqAt.canLay_of_shaped se), sd, se, q _ G ps H C (Up.refl _ _) (Rep.bl _)⟩
theorem tv_inT {α : Type} [DecidableEq α] {f : α → PyData} {y : α} {l : List α} {k : Nat} (hr : Room k X.A) (ha : EV X na a sl cs (.val (f y)) cs1) (hb : EV X na b sl cs1 (.val (.list (l.map f))) cs2) (h : EqvIs f) (sd : SeqAt.shaped (f y) = true) (se : SeqAt.shaped (.list (l.map f)) = true) (hm : behindInMarks .In b = false := by rfl) : TV X na (.Compare a [.In] [b] pos) sl cs (decide (y ∈ l)) cs2 := by
  have := tv_cmp (pos := pos) (op_inD (room_65 hr)) hm ha hb (rv_inD IsDat.val IsDat.val sd se)
  rwa [any_is h] at this
theorem tv_ninT {α : Type} [DecidableEq α] {f : α → PyData} {y : α} {l : List α} {k : Nat} (hr : Room k X.A) (ha : EV X na a sl cs (.val (f y)) cs1) (hb : EV X na b sl cs1 (.val (.list (l.map f))) cs2) (h : EqvIs f) (sd : SeqAt.shaped (f y) = true) (se : SeqAt.shaped (.list (l.map f)) = true) (hm : behindInMarks .NotIn b = false := by rfl) : TV X na (.Compare a [.NotIn] [b] pos) sl cs (!decide (y ∈ l)) cs2 := by
  have := tv_cmp (pos := pos) (op_notInD (room_65 hr)) hm ha hb (rv_ninD IsDat.val IsDat.val sd se)
  rwa [any_is h] at this
theorem dk_list {α : Type} {f : α → PyData} {n : Nat} (hn : n + 1 ≤ 60) (h : ∀ x, dkD n (f x) = true) (l : List α) : SeqAt.shaped (.list (l.map f)) = true := by
  refine dk_shaped (n := n + 1) ?_ hn
  show (l.map f).all (dkD n) = true
  rw [List.all_eq_true]
  intro d hd
  obtain ⟨x, _, rfl⟩ := List.mem_map.mp hd
  exact h x
/-! len(set(xs)), xs a list of ties -/
def rLenTO (K : PySem.W.Frag) (P : Program) (w : World) : List V → Hp → VK → Prop := fun vs H Q => ∃ (a : Addr) (L : List (Addr × List Int)), vs = [V.ref a] ∧ H a = some (SetTO P w a L) ∧ (∀ p ∈ L, SqT K H p.1 (p.2.map V.int)) ∧ ((L.map (·.2)).Nodup → Q (.int (L.length : Nat)) H)
theorem cr_lenTO : CallR X (.builtin "len") (rLenTO X.K X.prog X.w) := by
  intro pins s σ H vs us Q I r h
  obtain ⟨a, L, rfl, ha, hk, q⟩ := h
  have R0 : SetT0 X.prog X.w s.heap a L := (I.hok a _ ha).1
  obtain ⟨es, ep, t, R⟩ := R0.full fun p hp => I.isT (hk p hp)
  obtain ⟨o, ho, hex, hd⟩ := R.ob
  have hsz : es.size = L.length := R.size
  have few := R.few
  rw [Vals.ref1 r]
  exact call_len_set ho hex hd R.fits (by rw [hsz]; omega) ⟨.int (L.length : Nat), H, I.tok _, ⟨_, by rw [hsz]⟩, q R.nd⟩
def tie3 (q : Int × Int × Int) : List Int := [q.1, q.2.1, q.2.2]
theorem reps_ties {K : PySem.W.Frag} {G : Hp} : ∀ {vs : List V} {l : List (Int × Int × Int)}, Reps K G vs (l.map tieD) → ∃ ks : List (Addr × List Int), vs = ks.map (fun p => V.ref p.1) ∧ ks.map (·.2) = l.map tie3 ∧ ∀ p ∈ ks, SqT K G p.1 (p.2.map V.int)
  | _, [], h => by cases h; exact ⟨[], rfl, rfl, fun _ h => nomatch h⟩
  | _, q :: l, h => by
    cases h with
    | cons r rr =>
      obtain ⟨ks, h1, h2, h3⟩ := reps_ties rr
      obtain ⟨a, ws, rfl, g1, g2⟩ := Rep.tupI r
      have e : ws = (tie3 q).map V.int := Reps.ints (ns := tie3 q) g2
      subst e
      refine ⟨(a, tie3 q) :: ks, by rw [h1]; rfl, by rw [List.map_cons, h2]; rfl, fun p hp => ?_⟩
      rcases List.mem_cons.mp hp with rfl | hp
      · exact g1
      · exact h3 p hp
theorem tie3_inj {a b : Int × Int × Int} (h : tie3 a = tie3 b) : a = b := by
  unfold tie3 at h
  injection h with h1 h2
  injection h2 with h2 h3
  injection h3 with h3 _
  exact Prod.ext h1 (Prod.ext h2 h3)
theorem nub_count {l : List (Int × Int × Int)} {L : List (List Int)} (nd : L.Nodup) (h1 : ∀ x ∈ L, x ∈ l.map tie3) (h2 : ∀ x ∈ l.map tie3, x ∈ L) : L.length = (nubL l).length := by
  have nd2 : ((nubL l).map tie3).Nodup := List.Pairwise.map _ (fun a b hab z => hab (tie3_inj z)) (nubL_nd l)
  have p : L.Perm ((nubL l).map tie3) := (List.perm_ext_iff_of_nodup nd nd2).mpr fun x => by
    constructor
    · intro hx
      obtain ⟨q, hq, e⟩ := List.mem_map.mp (h1 x hx)
      exact List.mem_map.mpr ⟨q, (nubL_mem l q).mpr hq, e⟩
    · intro hx
      obtain ⟨q, hq, e⟩ := List.mem_map.mp hx
      exact h2 x (List.mem_map.mpr ⟨q, (nubL_mem l q).mp hq, e⟩)
  rw [p.length_eq, List.length_map]
theorem ev_lenSet {l : List (Int × Int × Int)} {k : Nat} (hr : Room k X.A) (hm : X.mg "len" = none) (hm2 : X.mg "set" = none) (ha : EV X na a sl cs s cs1) (hl : IsL cs1 s ((l.map tieD).map SV.val)) (few : l.length < 64) (hc : X.calm = true := by rfl) (hg : Gl X "len" := by rfl) (hg2 : Gl X "set" := by rfl)
    (hs : starEach [a] X.env = (false, eval a X.env) :: starEach [] X.env := by rfl) (hs2 : starEach [.Call (.Name "set" p2) [a] [] pos2] X.env = (false, eval (.Call (.Name "set" p2) [a] [] pos2) X.env) :: starEach [] X.env := by rfl)
    (hpl : (backTo pos2 (starEach [] X.env)).any (·.1) = false := by rfl) (hpl2 : (backTo pos (starEach [] X.env)).any (·.1) = false := by rfl) :
    EV X na (.Call (.Name "len" p) [.Call (.Name "set" p2) [a] [] pos2] [] pos) sl cs (.val (.int ((nubL l).length : Nat))) cs1 := by
  have hu : X.A.units + 64 < cLine := by have := room_65 hr; omega
  have inner : PE X (.Call (.Name "set" p2) [a] [] pos2) (tCB (rSetOfT X.K X.prog X.w) (tCons (anyE X a) tNil)) := pe_callTy (cr_setOfT hc hu) hg2 hm2 (by decide +kernel) (pa_cons pe_any pa_nil hs) (by decide) (by decide) hs hpl
  refine ev_of (pe_callB cr_lenTO hg hm (by decide +kernel) (pa_cons inner pa_nil hs2) (by decide) (by decide) hs2 hpl2) fun B G ps σ H hn C S Q q => ?_
  refine ha B G ps σ H hn C S _ fun v G1 ps1 H1 C1 u1 r1 => ?_
  obtain ⟨ad, vs, rfl, h1, h2⟩ := hl.sq C1 r1
  obtain ⟨ks, e1, e2, h3⟩ := reps_ties (Reps.ofVs h2)
  subst e1
  have hlen : ks.length = l.length := by have := congrArg List.length e2; rwa [List.length_map, List.length_map] at this
  refine ⟨ad, ks, rfl, h1, fun p hp => Same.seqT C1.gh (h3 p hp), by omega, fun b L hb sub all => ?_⟩
  have C2 := C1.alloc (SetTO X.prog X.w b L) hb
  have u2 : Up G1 ps1 (upd G1 b (SetTO X.prog X.w b L)) ps1 := ⟨Same.new (C1.freeG hb), List.prefix_refl _⟩
  refine ⟨b, L, rfl, upd_same, fun p hp => Same.seqT C2.gh (Same.seqT u2.s (h3 p (sub p hp))), fun nd => ?_⟩
  have hcount : L.length = (nubL l).length := by
    have := nub_count (l := l) nd (fun x hx => by
      obtain ⟨p, hp, e⟩ := List.mem_map.mp hx
      rw [← e2]
      exact List.mem_map.mpr ⟨p, sub p hp, e⟩) (fun x hx => by
      rw [← e2] at hx
      obtain ⟨p, hp, e⟩ := List.mem_map.mp hx
      rw [← e]
      exact all p hp)
    rwa [List.length_map] at this
  rw [hcount]
  exact q _ _ ps1 _ C2 (u1.trans u2) (Rep.int _)
end
end DL
namespace DL
open PySem PySem.Spec PyProof.Rows L2
theorem isNone_opt {α : Type} {f : α → PyData} (h : ∀ x, PyData.isNone (f x) = false) : ∀ o : Option α, PyData.isNone (optD f o) = o.isNone
  | none => rfl
  | some x => h x
theorem erase_len {α : Type} {l : List α} {i : Nat} (h : i < l.length) : (l.eraseIdx i).length + 1 = l.length := by
  rw [List.length_eraseIdx_of_lt h]
  omega
theorem mapS_J {α β σ : Type} {g : α → σ → β × σ} {J : List α → σ → Prop} (step : ∀ e rest s, J (e :: rest) s → J rest (g e s).2) : ∀ (es : List α) (s0 : σ), J es s0 → ∀ i, i ≤ es.length → J (es.drop i) (mapS g (es.take i) s0).2
  | es, s0, h, 0, _ => by simpa [mapS] using h
  | [], s0, h, i + 1, hi => by simp at hi
  | e :: es, s0, h, i + 1, hi => mapS_J step es (g e s0).2 (step e es s0 h) i (by simpa using hi)
section
variable {X : Cx} {na : Nat} {sl sl' : Sl} {cs cs1 cs2 cs3 cs4 : Cs} {s t u : SV} {pos spos p pos2 p2 p3 p4 : Pos} {x : Str} {E : DEnds} {N : List Str} {a b : Expr}
theorem lc_SJ {α β σ : Type} {elt tg iter : Expr} {scope : Scope} {own : List (Str × Nat)} {GC : Cs → Prop} (es : List α) (f : α → SV) (h : IV X na tg iter sl cs (es.map f) GC cs1)
    (g : α → σ → β × σ) (v : β → PyData) (s0 : σ) (c : σ → Cs) (J : List α → σ → Prop) (hcs : c s0 = cs1) (a : α → Sl) (c2 : α → σ → Cs) (hj : J es s0) (hz : es.length ≤ 100000) (hG : ∀ s, GC (c s)) (hlen : ∀ s, (c s).length = cs1.length)
    (hg : ∀ e ∈ es, ∀ s, ∀ st H C cl fp, GW (blkOf X scope st H C cl fp) cs1.length tg (f e) (wipeS sl (own.map (·.2))) (c s) (own.map (·.2)) fun sl2 cs2 => sl2 = a e ∧ cs2 = c s)
    (hs : ∀ e rest s, J (e :: rest) s → J rest (g e s).2)
    (he : ∀ e rest s, e ∈ es → J (e :: rest) s → (∀ st H C cl fp, EV (blkOf X scope st H C cl fp) cs1.length elt (a e) (c s) (.val (v (g e s).1)) (c2 e s)) ∧ AtC cs1.length (c (g e s).2) (c2 e s))
    : LC X na elt tg iter [] scope own sl cs ((mapS g es s0).1.map v) (c (mapS g es s0).2) := by
  cases es with
  | nil =>
    subst hcs
    exact lc_M h [] (fun _ => sl) (fun _ => c s0) rfl (Nat.zero_le _) (hG _) (fun i s e => by simp at e) (fun i s d e => by simp at e)
  | cons e0 er =>
    have get : ∀ {i : Nat} {s : SV}, ((e0 :: er).map f)[i]? = some s → ∃ e, (e0 :: er)[i]? = some e ∧ s = f e ∧ (e0 :: er).getD i e0 = e := fun {i s} e => by
      rw [List.getElem?_map] at e
      cases q : (e0 :: er)[i]? with
      | none => rw [q] at e; cases e
      | some z =>
        rw [q] at e
        cases e
        exact ⟨z, rfl, rfl, by rw [List.getD_eq_getElem?_getD, q]; rfl⟩
    have := lc_gen (elt := elt) (ifs := []) (sl := sl) (scope := scope) (own := own) h (fun i => a ((e0 :: er).getD i e0)) (fun i => c (mapS g ((e0 :: er).take i) s0).2) (fun i => c2 ((e0 :: er).getD i e0) (mapS g ((e0 :: er).take i) s0).2) (fun _ => true) (fun i => v (g ((e0 :: er).getD i e0) (mapS g ((e0 :: er).take i) s0).2).1) (fun i => (mapS g ((e0 :: er).take i) s0).1.map v) hcs rfl (by rw [List.length_map]; exact hz) (fun _ _ => hG _)
      (fun i s e st H C cl fp => by
        obtain ⟨z, h1, rfl, h3⟩ := get e
        rw [h3, hlen]
        exact hg z (List.mem_of_getElem? h1) _ st H C cl fp)
      (fun i s e st H C cl fp => tvs_nil)
      (fun i s e _ => by
        obtain ⟨z, h1, rfl, h3⟩ := get e
        have hlt := (List.getElem?_eq_some_iff.mp h1).1
        have hJ := mapS_J hs (e0 :: er) s0 hj i (Nat.le_of_lt hlt)
        rw [List.drop_eq_getElem_cons hlt, (List.getElem?_eq_some_iff.mp h1).2] at hJ
        obtain ⟨g1, g2⟩ := he z _ (mapS g ((e0 :: er).take i) s0).2 (List.mem_of_getElem? h1) hJ
        have e1 : (e0 :: er).take (i + 1) = (e0 :: er).take i ++ [z] := by rw [List.take_add_one, h1]; rfl
        refine ⟨fun st H C cl fp => ?_, ?_, ?_⟩
        · rw [h3, hlen]
          exact g1 st H C cl fp
        · rw [e1, mapS_snoc, h3]
          exact g2
        · rw [e1, mapS_snoc, h3, List.map_append]
          rfl)
      (fun i s e hk => by cases hk)
    rw [List.length_map, List.take_of_length_le (Nat.le_refl _)] at this
    exact this
end
end DL
namespace DL
open PySem PySem.Spec PyProof.Rows L2
theorem some_of {α : Type} {o : Option α} (h : o.isNone = false) : o.isSome = true := by
  cases o with
  | none => cases h
  | some x => rfl
theorem emod_bd (n : Int) {m : Int} (h : 0 < m) : 0 ≤ n % m ∧ n % m < m := ⟨Int.emod_nonneg _ (by omega), Int.emod_lt_of_pos _ h⟩
section
variable {X : Cx} {na : Nat} {sl sl' : Sl} {cs cs1 cs2 cs3 cs4 : Cs} {s t u : SV} {pos spos p pos2 p2 p3 p4 : Pos} {x : Str} {E : DEnds} {N : List Str} {a b : Expr}
/-- a cell of one's own is taken as data, and lives no more -/
theorem ev_frz {k : Nat} {c : CC} {d d' : PyData} (ha : EV X na a sl cs (.cell k) cs1) (hk : na ≤ k) (hc : cs1[k]? = some c) (hd : c.data = some d) (e : d = d') (pc : PutC cs1 k .dead cs2) : EV X na a sl cs (.val d') cs2 := by
  subst e
  rw [pc.at]
  intro B G ps σ H hn C S Q q
  refine ha B G ps σ H hn C S Q fun v G1 ps1 H1 C1 u1 r1 => ?_
  obtain ⟨p, ep, rfl⟩ := r1
  obtain ⟨g1, g2, g3⟩ := C1.cell k p c ep hc
  have hnd : c ≠ .dead := fun z => by subst z; cases hd
  have hG : G1 p = none := g3.elim (fun z => (hnd z).elim) id
  obtain ⟨ob, hH, hrr⟩ := g1.data hd
  have C2 := C1.freeze (by omega) ep hc hnd hH
  exact q (.ref p) _ ps1 H1 C2 ⟨u1.s.trans (Same.new hG), u1.p⟩ (hrr _ (Same.new hG) upd_same)
def memB {α : Type} [DecidableEq α] (y : α) (l : List α) : Bool := decide (y ∈ l)
theorem memB_true {α : Type} [DecidableEq α] {y : α} {l : List α} : memB y l = true ↔ y ∈ l := decide_eq_true_iff
theorem tv_inM {α : Type} [DecidableEq α] {f : α → PyData} {y : α} {l : List α} {k : Nat} (hr : Room k X.A) (ha : EV X na a sl cs (.val (f y)) cs1) (hb : EV X na b sl cs1 (.val (.list (l.map f))) cs2) (h : EqvIs f) (sd : SeqAt.shaped (f y) = true) (se : SeqAt.shaped (.list (l.map f)) = true) (hm : behindInMarks .In b = false := by rfl) : TV X na (.Compare a [.In] [b] pos) sl cs (memB y l) cs2 := tv_inT hr ha hb h sd se hm
theorem tv_ninM {α : Type} [DecidableEq α] {f : α → PyData} {y : α} {l : List α} {k : Nat} (hr : Room k X.A) (ha : EV X na a sl cs (.val (f y)) cs1) (hb : EV X na b sl cs1 (.val (.list (l.map f))) cs2) (h : EqvIs f) (sd : SeqAt.shaped (f y) = true) (se : SeqAt.shaped (.list (l.map f)) = true) (hm : behindInMarks .NotIn b = false := by rfl) : TV X na (.Compare a [.NotIn] [b] pos) sl cs (!memB y l) cs2 := tv_ninT hr ha hb h sd se hm
/-- x, y = a, b -/
theorem s1_par {a b : Expr} {x y : Str} {i j m : Nat} {s t : SV} {sl1 sl2 : Sl} {px py pt pt2 : Pos} {kt k2 : Nat} (T : TabL X m) (hN : X.N = N) (hc : X.calm = true) (h : AV X na [a, b] sl cs [s, t] cs1) (p1 : Put N sl x i s sl1) (p2 : Put N sl1 y j t sl2) (hij : i ≠ j) (hx : X.env.scope.names.lookup x = some .local) (hy : X.env.scope.names.lookup y = some .local) (q : E.nx sl2 cs1)
    (hw : swappedStores [.Tuple [.Name x px, .Name y py] kt pt] (.Tuple [a, b] k2 pt2) X.env = pure (some [x, y]) := by rfl) (hs : swapsWithSole [.Tuple [.Name x px, .Name y py] kt pt] (.Tuple [a, b] k2 pt2) pos.line X.env = pure false := by rfl) :
    S1 X na (.Assign [.Tuple [.Name x px, .Name y py] kt pt] (.Tuple [a, b] k2 pt2) pos) sl cs E := by
  subst hN
  obtain ⟨h1, h2⟩ := p1.at
  subst h2
  obtain ⟨h3, h4⟩ := p2.at
  subst h4
  exact s1_of (ps_par hc T.nd h1 h3 hij hx hy pa_any hw hs) fun B G ps σ H hn C S D L => h B G ps σ H hn C S _ fun vs G1 ps1 H1 C1 u1 r1 => by
    cases r1 with
    | cons ra r2 =>
      cases r2 with
      | cons rb r3 =>
        cases r3
        exact ⟨_, _, rfl, L.nx _ cs1 G1 ps1 _ H1 C1 u1 (Slots.set (Slots.set (Slots.mono u1 S) ra i) rb j) q⟩
theorem rgD_0L (n : Int) : rgD 0 n = ((List.range n.toNat).map fun i : Nat => (i : Int)).map PyData.int := by
  have := rgD_0 n
  injection this with h
  injection h
theorem ev_listRgC {n : Int} {m : Nat} {es : List Int} (hc : X.calm = true) (hm : X.mg "list" = none) (hg : Gl X "list") (hm2 : X.mg "range" = none) (hg2 : Gl X "range") (ha : EV X na a sl cs (.val (.int n)) cs1) (h0 : 0 ≤ n) (h1 : n ≤ 16777216) (e : rgD 0 n = es.map PyData.int) (ac : AppC cs1 (.lst ((es.map PyData.int).map SV.val)) m cs2)
    (hs : starEach [a] X.env = (false, eval a X.env) :: starEach [] X.env := by rfl) (hs2 : starEach [.Call (.Name "range" p2) [a] [] pos2] X.env = (false, eval (.Call (.Name "range" p2) [a] [] pos2) X.env) :: starEach [] X.env := by rfl) :
    EV X na (.Call (.Name "list" p) [.Call (.Name "range" p2) [a] [] pos2] [] pos) sl cs (.cell m) cs2 :=
  ev_of (pe_listRg hc hg hm (prg_1 hg2 hm2 pe_any hs) hs2) fun B G ps σ H hn C S Q q => ha B G ps σ H hn C S _ fun v G1 ps1 H1 C1 u1 r1 =>
    ⟨n, Rep.intI r1, RgOk.of_le (Int.le_refl 0) h1 (by omega) h0, C1.newCell ac (fun p hp => ⟨rgV 0 n, upd_same, RepVs.mono ⟨Same.refl _, List.prefix_append _ _⟩ (e ▸ Reps.vs (reps_rg 0 n))⟩) fun v G2 ps2 H2 C2 u2 => q v G2 ps2 H2 C2 (u1.trans u2)⟩
end
end DL
namespace DL
open PySem PySem.Spec PyProof.Rows L2
theorem RenA.repsG {K : PySem.W.Frag} {G : Hp} {ps : List Addr} {κ : List Nat} : ∀ {a b : List SV} {vs : List V}, RenA κ a b → RepVs K G ps vs b → RepVs K G (pick ps κ) vs a
  | _, _, _, .nil, h => by cases h; exact .nil
  | _, _, _, .val t, h => by
    cases h with
    | cons h r => exact .cons h (RenA.repsG t r)
  | _, _, _, .cell (j := j) (k := k) e t, h => by
    cases h with
    | cons h r =>
      obtain ⟨p, hp, hv⟩ := h
      refine .cons ⟨p, ?_, hv⟩ (RenA.repsG t r)
      unfold pick
      rw [List.getElem?_map, e]
      show some (ps.getD k 0) = some p
      simp [List.getD, hp]
section
variable {X : Cx} {na : Nat} {sl sl' : Sl} {cs cs1 cs2 cs3 cs4 : Cs} {s t u : SV} {pos spos p pos2 p2 p3 p4 : Pos} {x : Str} {E : DEnds} {N : List Str} {a b e : Expr} {es : List Expr} {k j n : Nat} {spec : Spec}
/-- a call: any cells are handed on (κ: all that stand within, too), any come back -/
theorem ev_callG {ss svs : List SV} {κ : List Nat} {d d2 da db csm : Cs} {r r2 : SV} (c : Cal X.prog X.w X.K X.mg X.base k x n spec) (hr : Room j X.A) (hk : k ≤ j) (hg : Gl X x)
    (ha : AV X na (e :: es) sl cs ss cs1) (S : SelR cs1 κ κ d) (hren : RenA κ svs ss) (h : spec svs d r d2) (hq : Paired (RenC (fun _ => true) (backOf κ cs1.length)) d2 (da ++ db)) (hda : da.length = κ.length) (hs : SetA cs1 κ da csm) (e1 : csm ++ db = cs2) (e2 : r.ren (backOf κ cs1.length) = r2) (nd : κ.Nodup) (hn : Nat.beq svs.length n = true)
    (hdb : (x == ("__debug__" : Str)) = false := by decide) (he : starEach (e :: es) X.env = (false, eval e X.env) :: starEach es X.env := by rfl) (hpl : (backTo pos (starEach es X.env)).any (·.1) = false := by rfl) :
    EV X na (.Call (.Name x p) (e :: es) [] pos) sl cs r2 cs2 := by
  subst e1
  subst e2
  exact ev_callR c hr hk hg (fun B G ps σ H hna C Sl Q q => ha B G ps σ H hna C Sl _ fun vs G1 ps1 H1 C1 u1 r1 => by
    show spM X.K n spec (vs ++ []) H1 Q E0
    rw [List.append_nil]
    refine ⟨G1, pick ps1 κ, svs, d, r, d2, h, Nat.eq_of_beq_eq_true hn, C1.enterG S nd, RenA.repsG hren r1, fun v G' ps' H' C' u' r' => ?_⟩
    obtain ⟨C2, back⟩ := C1.leaveG S nd C' hq hda hs
    refine q v G' _ H' C2 (u1.trans ⟨u'.s, List.prefix_append _ _⟩) ?_
    exact RepV.ren (P := fun _ => true) (fun k p _ e => back k p e) r' (by cases r <;> rfl)) hdb he hpl
/-- a tuple that holds cells -/
theorem ev_tupC {es : List Expr} {kx : Nat} {ss : List SV} {n : Nat} (h : AV X na es sl cs ss cs1) (ac : AppC cs1 (.tup ss) n cs2) (hz : Nat.ble ss.length 1000000 = true) : EV X na (.Tuple es kx pos) sl cs (.cell n) cs2 :=
  ev_of (pe_tup pa_any) fun B G ps σ H hn C S Q q => h B G ps σ H hn C S _ fun vs G1 ps1 H1 C1 u1 r1 => by
    exact ⟨sz (by rw [Paired.length r1]; exact Nat.le_of_ble_eq_true hz), C1.newCell ac (fun p hp => ⟨vs, upd_same, RepVs.mono ⟨Same.refl _, List.prefix_append _ _⟩ r1⟩) fun v G2 ps2 H2 C2 u2 => q v G2 ps2 H2 C2 (u1.trans u2)⟩
end
end DL
namespace DL
open PySem PySem.Spec PyProof.Rows L2
/-- what kind of thing a value or a cell is -/
def CC.tyOf : CC → Option String
  | .lst _ => some "list"
  | .dct _ => some "dict"
  | .tup _ => some "tuple"
  | _ => none
inductive Kind (cs : Cs) : SV → String → Prop
  | val {d : PyData} : Kind cs (.val d) (tyOf d)
  | cell {k : Nat} {c : CC} {t : String} : cs[k]? = some c → c.tyOf = some t → Kind cs (.cell k) t
theorem Kind.tyX {K : PySem.W.Frag} {B : Bs} {G : Hp} {ps : List Addr} {cs : Cs} {H : Hp} {v : V} {s : SV} {t : String} (C : Core K B G ps cs H) (r : RepV K G ps v s) (h : Kind cs s t) : TyX K H v (.type t) := by
  cases h with
  | val => exact Rep.tyX C.gh r
  | @cell k c _ hc ht =>
    obtain ⟨p, rfl, _, rc⟩ := C.cellAt r hc
    cases c with
    | lst xs => cases ht; obtain ⟨vs, h, _⟩ := rc; exact .base (.lst h)
    | dct xs => cases ht; obtain ⟨vs, h, _⟩ := rc; exact .base (.dK h)
    | tup xs => cases ht; obtain ⟨vs, h, _⟩ := rc; exact .base (.tup h)
    | ins _ _ => cases ht
    | dead => cases ht
    | frz _ _ _ => cases ht
section
variable {X : Cx} {na : Nat} {sl sl' : Sl} {cs cs1 cs2 cs3 cs4 : Cs} {s t u : SV} {pos spos p pos2 p2 p3 p4 apos : Pos} {x : Str} {E : DEnds} {N : List Str} {a b e : Expr} {es : List Expr} {R : Sl → Cs → Prop}
theorem ev_isiC {T : Str} {T' ty : String} {p2 : Pos} {k : Bool} (hm : X.mg "isinstance" = none) (hg : Gl X "isinstance") (ha : EV X na a sl cs s cs1) (hK : Kind cs1 s ty) (hmT : X.mg T = none) (hgT : Gl X T) (hbT : bootBuiltins T = some (.type T')) (hk : PySem.W.kitOne X.K (.type ty) (.type T') = some k) (hT : T ≠ "__name__" := by decide) (hT2 : (T == ("__debug__" : Str)) = false := by decide)
    (hs : starEach [a, .Name T p2] X.env = (false, eval a X.env) :: starEach [.Name T p2] X.env := by rfl) (hs2 : starEach [.Name T p2] X.env = (false, eval (.Name T p2) X.env) :: starEach [] X.env := by rfl) (hpl : (backTo pos (starEach [.Name T p2] X.env)).any (·.1) = false := by rfl) :
    EV X na (.Call (.Name "isinstance" p) [a, .Name T p2] [] pos) sl cs (.val (.bool k)) cs1 := by
  refine ev_of (pe_callB call_isi hg hm (by decide +kernel) (pa_cons pe_any (pa_cons (pe_bltn (v := .ty T') hgT hmT hbT rfl hT hT2) pa_nil hs2) hs) (by decide) (by decide) hs hpl) fun B G ps σ H hn C S Q q => ha B G ps σ H hn C S _ fun v G1 ps1 H1 C1 u1 r1 => ?_
  exact ⟨v, .ty T', _, _, k, rfl, .ty T', hK.tyX C1 r1, hk, q _ G1 ps1 H1 C1 u1 (Rep.bl _)⟩
/-- a part of a tuple that is a cell -/
theorem ev_ixC {a b : Expr} {k : Nat} {xs : List SV} {i : Int} (ha : EV X na a sl cs (.cell k) cs1) (hb : EV X na b sl cs1 (.val (.int i)) cs2) (hl : cs2[k]? = some (.tup xs)) (h : L2.atI xs i = some t) (hs : PlainIx b := by exact fun _ _ => rfl) : EV X na (.Subscript a b pos) sl cs t cs2 :=
  ev_of (pe_ix ix_tup pe_any pe_any hs) (de_op ha hb fun B G ps H v w hn C r1 r2 Q q => by
    obtain ⟨p, rfl, _, vs, h1, h2⟩ := C.cellAt r1 hl
    cases q' : ixN xs.length i with
    | none => unfold atI at h; rw [q'] at h; cases h
    | some j =>
      have h' : xs[j]? = some t := by unfold atI at h; rw [q'] at h; exact h
      obtain ⟨z, hz, rz⟩ := pd_get h2 h'
      refine ⟨p, vs, i, z, rfl, Rep.intI r2, .inl (.inl h1), ?_, q z G ps H C (Up.refl _ _) rz⟩
      unfold atI
      rw [Paired.length h2, q']
      exact hz)
theorem rc_lenC {k : Nat} {xs : List SV} (hl : cs[k]? = some (.tup xs)) : RC X.K na (fun xs H Q => ∃ p ys, xs = [.ref p] ∧ (SqL X.K H p ys ∨ SqT X.K H p ys) ∧ Q (.int ys.length) H) [.cell k] cs (.val (.int (xs.length : Int))) cs := rc1 fun B G ps H v hn C r1 Q q => by
  obtain ⟨p, rfl, _, ws, h1, h2⟩ := C.cellAt r1 hl
  exact ⟨p, ws, rfl, .inr (.inl (.inl h1)), q _ G ps H C (Up.refl _ _) (by rw [Paired.length h2]; exact Rep.int _)⟩
/-- a, b = t, a tuple that is a cell -/
theorem gx_tupC {es : List Expr} {kx k : Nat} {xs : List SV} {n : Nat} (hc : X.calm = true) (hl : cs[k]? = some (.tup xs)) (h : GXs X na es xs sl cs R) (hn' : xs.length = n)
    (hn : (assignEach es X.env).length = n := by rfl) (hst : (assignEach es X.env).findIdx? (·.1) = none := by rfl) : GX X na (.Tuple es kx pos) (.cell k) sl cs R :=
  gx_of (pg_tup hc pgs_any hn hst) fun B G ps σ H v hn C S r Q q => by
    obtain ⟨p, rfl, _, vs, h1, h2⟩ := C.cellAt r hl
    exact ⟨_, _, rfl, .inl (.inl h1), (Paired.length h2).trans hn', h B G ps σ H _ hn C S h2 Q q⟩
/-- x.clear() -/
theorem ev_clearL {k : Nat} {xs : List SV} (ha : EV X na a sl cs (.cell k) cs1) (hc : cs1[k]? = some (.lst xs)) (p : PutC cs1 k (.lst []) cs2) (hbase : attributeBase a "clear" X.env (eval a X.env) = eval a X.env := by rfl) (hline : (apos.endLine == pos.line) = true := by rfl) :
    EV X na (.Call (.Attribute a "clear" apos) [] [] pos) sl cs (.val .none) cs2 :=
  ev_of (pe_bm0 PySem.F.plainAttrs_list PySem.F.slot_list_clear PySem.F.type_list_clear mt_clear pe_any hbase hline) fun B G ps σ H hn C S Q q => ha B G ps σ H hn C S _ fun v G1 ps1 H1 C1 u1 r1 => by
    obtain ⟨l, rfl, e, ws, h1, h2⟩ := C1.cellAt r1 hc
    rw [p.at] at q
    exact ⟨.inl ⟨rfl, ws, SqL.of h1⟩, l, ws, rfl, rfl, h1, q _ G1 ps1 _ (C1.put (c' := .lst []) e hc (by intro z; cases z) ⟨_, upd_same, .nil⟩) u1 Rep.non⟩
/-! ### the content of cells within cells, as data -/
inductive Deep (cs : Cs) : SV → PyData → Prop
  | val {d : PyData} : Deep cs (.val d) d
  | flat {k : Nat} {c : CC} {d : PyData} : cs[k]? = some c → c.data = some d → Deep cs (.cell k) d
  | tup {k : Nat} {xs : List SV} {ds : List PyData} : cs[k]? = some (.tup xs) → Paired (Deep cs) xs ds → Deep cs (.cell k) (.tuple ds)
end
end DL
namespace DL
open PySem PySem.Spec PyProof.Rows L2
theorem ret_gen {na : Nat} {s s2 : SV} {d c2 : Cs} (κs κ : List Nat) (eκ : List.range na ++ κs = κ) (nd : κ.Nodup) (S : SelR c2 κ κ d) (am : s2.amid (fun k => κ.contains k) = true) (e : s2.ren (fun k => κ.idxOf k) = s) : RetOk na s d s2 c2 := by
  subst eκ
  exact .gen nd S am e
/-! ### comparisons of cells within cells -/
inductive IsDat2 (cs : Cs) : SV → PyData → Prop
  | base {s : SV} {d : PyData} : IsDat cs s d → IsDat2 cs s d
  | tup {k : Nat} {xs : List SV} {ds : List PyData} : cs[k]? = some (.tup xs) → Paired (IsDat cs) xs ds → IsDat2 cs (.cell k) (.tuple ds)
theorem IsDat.dpAll {K : PySem.W.Frag} {B : Bs} {G : Hp} {ps : List Addr} {cs : Cs} {H : Hp} (C : Core K B G ps cs H) : ∀ {xs : List SV} {ds : List PyData} {vs : List V}, Paired (IsDat cs) xs ds → RepVs K G ps vs xs → PyData.canLayAll0 ds = true → DpAll K H vs ds
  | _, _, _, .nil, .nil, _ => .nil
  | _, _, _, .cons h t, .cons r rr, l => by
    simp only [PyData.canLayAll0, Bool.and_eq_true] at l
    exact .cons (h.dp C r l.1) (IsDat.dpAll C t rr l.2)
theorem IsDat2.dp {K : PySem.W.Frag} {B : Bs} {G : Hp} {ps : List Addr} {cs : Cs} {H : Hp} {v : V} {s : SV} {d : PyData} (C : Core K B G ps cs H) (r : RepV K G ps v s) (h : IsDat2 cs s d) (l : d.canLay0 = true) : Dp K H v d := by
  cases h with
  | base h => exact h.dp C r l
  | tup hc hp =>
    obtain ⟨p, rfl, _, vs, h1, h2⟩ := C.cellAt r hc
    exact .tup (.inl (.inl h1)) (IsDat.dpAll C hp h2 (by simpa only [PyData.canLay0] using l))
section
variable {X : Cx} {na : Nat} {sl : Sl} {cs cs1 cs2 : Cs} {s t : SV} {pos : Pos} {a b : Expr} {d e : PyData} {k : Nat}
theorem ev_eqD2 (hr : Room k X.A) (ha : EV X na a sl cs s cs1) (hb : EV X na b sl cs1 t cs2) (hd : IsDat2 cs2 s d) (he : IsDat2 cs2 t e) (sd : SeqAt.shaped d = true) (se : SeqAt.shaped e = true) : EV X na (.Compare a [.Eq] [b] pos) sl cs (.val (.bool (PyData.eqv d e))) cs2 :=
  ev_cmp (op_eqD (by have := hr.un; omega)) (nomark _) ha hb fun B G ps H v w hn C r1 r2 Q q =>
    ⟨d, e, hd.dp C r1 (SeqAt.canLay_of_shaped sd), he.dp C r2 (SeqAt.canLay_of_shaped se), sd, se, q _ G ps H C (Up.refl _ _) (Rep.bl _)⟩
theorem tv_eqD2 (hr : Room k X.A) (ha : EV X na a sl cs s cs1) (hb : EV X na b sl cs1 t cs2) (hd : IsDat2 cs2 s d) (he : IsDat2 cs2 t e) (sd : SeqAt.shaped d = true) (se : SeqAt.shaped e = true) : TV X na (.Compare a [.Eq] [b] pos) sl cs (PyData.eqv d e) cs2 :=
  tv_cmp (op_eqD (by have := hr.un; omega)) (nomark _) ha hb fun B G ps H v w hn C r1 r2 Q q =>
    ⟨d, e, hd.dp C r1 (SeqAt.canLay_of_shaped sd), he.dp C r2 (SeqAt.canLay_of_shaped se), sd, se, q _ G ps H C (Up.refl _ _) (Rep.bl _)⟩
theorem tv_inMC {α : Type} [DecidableEq α] {f : α → PyData} {y : α} {l : List α} {m j : Nat} (hr : Room m X.A) (ha : EV X na a sl cs (.val (f y)) cs1) (hb : EV X na b sl cs1 (.cell j) cs2) (hc : cs2[j]? = some (.lst ((l.map f).map SV.val))) (h : EqvIs f) (sd : SeqAt.shaped (f y) = true) (se : SeqAt.shaped (.list (l.map f)) = true) (hm : behindInMarks .In b = false := by rfl) : TV X na (.Compare a [.In] [b] pos) sl cs (memB y l) cs2 := by
  have := tv_cmp (pos := pos) (op_inD (room_65 hr)) hm ha hb (rv_inD IsDat.val (IsDat.cell hc (by first | exact data_map _ | (show (svData _).map _ = _; rw [svData_map]; rfl))) sd se)
  rwa [any_is h] at this
theorem tv_ninMC {α : Type} [DecidableEq α] {f : α → PyData} {y : α} {l : List α} {m j : Nat} (hr : Room m X.A) (ha : EV X na a sl cs (.val (f y)) cs1) (hb : EV X na b sl cs1 (.cell j) cs2) (hc : cs2[j]? = some (.lst ((l.map f).map SV.val))) (h : EqvIs f) (sd : SeqAt.shaped (f y) = true) (se : SeqAt.shaped (.list (l.map f)) = true) (hm : behindInMarks .NotIn b = false := by rfl) : TV X na (.Compare a [.NotIn] [b] pos) sl cs (!memB y l) cs2 := by
  have := tv_cmp (pos := pos) (op_notInD (room_65 hr)) hm ha hb (rv_ninD IsDat.val (IsDat.cell hc (by first | exact data_map _ | (show (svData _).map _ = _; rw [svData_map]; rfl))) sd se)
  rwa [any_is h] at this
theorem tv_neD2 (hr : Room k X.A) (ha : EV X na a sl cs s cs1) (hb : EV X na b sl cs1 t cs2) (hd : IsDat2 cs2 s d) (he : IsDat2 cs2 t e) (sd : SeqAt.shaped d = true) (se : SeqAt.shaped e = true) : TV X na (.Compare a [.NotEq] [b] pos) sl cs (!PyData.eqv d e) cs2 :=
  tv_cmp (op_neD (by have := hr.un; omega)) (nomark _) ha hb fun B G ps H v w hn C r1 r2 Q q =>
    ⟨d, e, hd.dp C r1 (SeqAt.canLay_of_shaped sd), he.dp C r2 (SeqAt.canLay_of_shaped se), sd, se, q _ G ps H C (Up.refl _ _) (Rep.bl _)⟩
end
end DL
set_option Elab.async false
set_option linter.all false
set_option maxRecDepth 100000
set_option maxHeartbeats 8000000
namespace DL
open PySem PySem.Spec PyProof.Rows L2
def topS (i : Nat) : Stmt := PySem.Challenge.pw_outlineward_k31_ties_settled.main.body.getD i (.Pass ⟨0, 0, 0, 0⟩)
abbrev s_eased : Stmt := topS 1
abbrev N_eased : List Str := ["values", "last", "ties", "moved", "tie", "x", "y", "c"]
abbrev P_eased : List Str := ["values", "last", "ties"]
theorem sc_eased : FnScope N_eased P_eased (defScope s_eased) := ⟨rfl, rfl, rfl, by decide +kernel, rfl, by decide +kernel, by decide +kernel⟩
theorem tb_eased : tabOk (N_eased.take 8) (defScope s_eased) = true := by decide +kernel
abbrev s_ring_at : Stmt := topS 2
abbrev N_ring_at : List Str := ["last", "at", "turn", "ring", "here"]
abbrev P_ring_at : List Str := ["last", "at"]
theorem sc_ring_at : FnScope N_ring_at P_ring_at (defScope s_ring_at) := ⟨rfl, rfl, rfl, by decide +kernel, rfl, by decide +kernel, by decide +kernel⟩
theorem tb_ring_at : tabOk (N_ring_at.take 5) (defScope s_ring_at) = true := by decide +kernel
abbrev s_settled : Stmt := topS 3
abbrev N_settled : List Str := ["count", "ties", "values", "last", "moved", "turns", "value"]
abbrev P_settled : List Str := ["count", "ties"]
theorem sc_settled : FnScope N_settled P_settled (defScope s_settled) := ⟨rfl, rfl, rfl, by decide +kernel, rfl, by decide +kernel, by decide +kernel⟩
theorem tb_settled : tabOk (N_settled.take 6) (defScope s_settled) = true := by decide +kernel
abbrev s__law_cell : Stmt := topS 5
abbrev N__law_cell : List Str := ["_law_script", "_law_k", "_law_number"]
abbrev P__law_cell : List Str := ["_law_script", "_law_k"]
theorem sc__law_cell : FnScope N__law_cell P__law_cell (defScope s__law_cell) := ⟨rfl, rfl, rfl, by decide +kernel, rfl, by decide +kernel, by decide +kernel⟩
theorem tb__law_cell : tabOk (N__law_cell.take 3) (defScope s__law_cell) = true := by decide +kernel
abbrev s__law_feed : Stmt := topS 6
abbrev N__law_feed : List Str := ["_law_script", "_law_k", "_law_cell_here", "_law_number", "_law_whole", "_law_j"]
abbrev P__law_feed : List Str := ["_law_script", "_law_k"]
theorem sc__law_feed : FnScope N__law_feed P__law_feed (defScope s__law_feed) := ⟨rfl, rfl, rfl, by decide +kernel, rfl, by decide +kernel, by decide +kernel⟩
theorem tb__law_feed : tabOk (N__law_feed.take 6) (defScope s__law_feed) = true := by decide +kernel
abbrev s__law_take : Stmt := topS 7
abbrev N__law_take : List Str := ["_law_feed_here", "_law_many", "_law_digit"]
abbrev P__law_take : List Str := ["_law_feed_here", "_law_many"]
theorem sc__law_take : FnScope N__law_take P__law_take (defScope s__law_take) := ⟨rfl, rfl, rfl, by decide +kernel, rfl, by decide +kernel, by decide +kernel⟩
theorem tb__law_take : tabOk (N__law_take.take 3) (defScope s__law_take) = true := by decide +kernel
abbrev s__law_tie : Stmt := topS 8
abbrev N__law_tie : List Str := ["_law_answer", "_law_part"]
abbrev P__law_tie : List Str := ["_law_answer"]
theorem sc__law_tie : FnScope N__law_tie P__law_tie (defScope s__law_tie) := ⟨rfl, rfl, rfl, by decide +kernel, rfl, by decide +kernel, by decide +kernel⟩
theorem tb__law_tie : tabOk (N__law_tie.take 1) (defScope s__law_tie) = true := by decide +kernel
abbrev s__law_values : Stmt := topS 9
abbrev N__law_values : List Str := ["_law_answer", "_law_count", "_law_ties_here", "_law_value", "_law_x", "_law_y", "_law_c"]
abbrev P__law_values : List Str := ["_law_answer", "_law_count", "_law_ties_here"]
theorem sc__law_values : FnScope N__law_values P__law_values (defScope s__law_values) := ⟨rfl, rfl, rfl, by decide +kernel, rfl, by decide +kernel, by decide +kernel⟩
theorem tb__law_values : tabOk (N__law_values.take 7) (defScope s__law_values) = true := by decide +kernel
abbrev s__law_ring : Stmt := topS 10
abbrev N__law_ring : List Str := ["_law_answer", "_law_ties_here", "_law_total", "_law_at", "_law_tie_here"]
abbrev P__law_ring : List Str := ["_law_answer", "_law_ties_here"]
theorem sc__law_ring : FnScope N__law_ring P__law_ring (defScope s__law_ring) := ⟨rfl, rfl, rfl, by decide +kernel, rfl, by decide +kernel, by decide +kernel⟩
theorem tb__law_ring : tabOk (N__law_ring.take 5) (defScope s__law_ring) = true := by decide +kernel
abbrev s__law_good : Stmt := topS 11
abbrev N__law_good : List Str := ["_law_answer", "_law_count", "_law_ties_here", "_law_due"]
abbrev P__law_good : List Str := ["_law_answer", "_law_count", "_law_ties_here", "_law_due"]
theorem sc__law_good : FnScope N__law_good P__law_good (defScope s__law_good) := ⟨rfl, rfl, rfl, by decide +kernel, rfl, by decide +kernel, by decide +kernel⟩
theorem tb__law_good : tabOk (N__law_good.take 4) (defScope s__law_good) = true := by decide +kernel
abbrev s__law_ties : Stmt := topS 12
abbrev N__law_ties : List Str := ["_law_script", "_law_count", "_law_ties_here", "_law_feed_here", "_law_many", "_law_k", "_law_x", "_law_y", "_law_c"]
abbrev P__law_ties : List Str := ["_law_script", "_law_count"]
theorem sc__law_ties : FnScope N__law_ties P__law_ties (defScope s__law_ties) := ⟨rfl, rfl, rfl, by decide +kernel, rfl, by decide +kernel, by decide +kernel⟩
theorem tb__law_ties : tabOk (N__law_ties.take 9) (defScope s__law_ties) = true := by decide +kernel
abbrev s_law : Stmt := topS 13
abbrev N_law : List Str := ["_law_script", "_law_count", "_law_ties_here", "_law_handed", "_law_answer", "_law_kept", "_law_other"]
abbrev P_law : List Str := ["_law_script"]
theorem sc_law : FnScope N_law P_law (defScope s_law) := ⟨rfl, rfl, rfl, by decide +kernel, rfl, by decide +kernel, by decide +kernel⟩
theorem tb_law : tabOk (N_law.take 7) (defScope s_law) = true := by decide +kernel
/-- what a script is -/
def Sbd (n : Int) : Prop := ∃ b : Nat, b ≤ 1050000 ∧ n.natAbs < 2 ^ b
theorem Sbd.bd {n : Int} (h : Sbd n) : Bd n := by
  obtain ⟨b, hb, h⟩ := h
  exact ⟨b, by omega, h⟩
theorem sbd_of {ns : List Int} (h : ∀ z ∈ ns, Builtin.Int.intBits z ≤ 1048576) : ∀ z ∈ ns, Sbd z := fun z hz => by
  refine ⟨1048576, by omega, ?_⟩
  have h1 := h z hz
  unfold Builtin.Int.intBits at h1
  by_cases h0 : z = 0
  · subst h0
    exact Nat.two_pow_pos _
  · rw [if_neg (by simpa using h0)] at h1
    exact Nat.lt_of_lt_of_le Nat.lt_log2_self (Nat.pow_le_pow_right (by omega) h1)
structure Scr where
  ns : List Int
  len : ns.length ≤ 63
  bd : ∀ z ∈ ns, Sbd z
abbrev Scr.D (S : Scr) : PyData := .list (S.ns.map .int)
abbrev Scr.at (S : Scr) (k : Nat) : Int := S.ns.getD k 0
theorem Scr.bdAt (S : Scr) (k : Nat) : Sbd (S.at k) := by
  unfold Scr.at
  rw [List.getD_eq_getElem?_getD]
  cases h : S.ns[k]? with
  | none => exact ⟨1, by decide, by decide⟩
  | some z => exact S.bd z (List.mem_of_getElem? h)
theorem Scr.atI (S : Scr) {i : Int} (h0 : 0 ≤ i) (h1 : i < S.ns.length) : L2.atI (S.ns.map PyData.int) i = some (.int (S.at i.toNat)) := at_map h0 h1
/-! ### how a text is gone through -/
local macro_rules | `(tactic| wtm_at "d.lk") => `(tactic| first | exact Lk.here | (apply Lk.there; wtm_at "d.lk"))
local macro_rules | `(tactic| wtm_at "d.put") => `(tactic| first | exact Put.here | (apply Put.there; wtm_at "d.put"))
local macro_rules | `(tactic| wtm_at "d.putC") => `(tactic| first | exact PutC.here | (apply PutC.there; wtm_at "d.putC"))
local macro_rules | `(tactic| wtm_at "d.appC") => `(tactic| first | exact AppC.nil | (apply AppC.cons; wtm_at "d.appC"))
local macro_rules | `(tactic| wtm_at "d.le") => `(tactic| first | exact Le.nil | (apply Le.same; wtm_at "d.le") | (apply Le.lose; wtm_at "d.le"))
local macro_rules | `(tactic| wtm_at "d.isL") => `(tactic| first | exact IsL.val | exact IsL.cell rfl | assumption)
local macro_rules | `(tactic| wtm_at "d.isQ") => `(tactic| first | exact IsQ.t | exact IsQ.l IsL.val | exact IsQ.l (IsL.cell rfl))
local macro_rules | `(tactic| wtm_at "d.isD") => `(tactic| first | exact IsD.val | exact IsD.cell rfl | assumption)
local macro_rules | `(tactic| wtm_at "d.isDat") => `(tactic| first | exact IsDat.val | exact IsDat.cell rfl rfl | assumption)
local macro_rules | `(tactic| wtm_at "d.flat") => `(tactic| first | rfl | exact flat_map _ | exact flat_svK _ | exact all_flat1 (flat_map _) | exact all_flat1 (flat_svK _) | assumption | (simp [CC.flat, SV.isVal]; done))
local macro_rules | `(tactic| wtm_at "d.sel") => `(tactic| first | exact Sel.nil | (refine' Sel.cons rfl (by wtm_at "d.flat") (by intro z; cases z) ?t; (case t => wtm_at "d.sel")))
local macro_rules | `(tactic| wtm_at "d.ren") => `(tactic| first | exact RenA.nil | (apply RenA.val; wtm_at "d.ren") | (refine' RenA.cell rfl ?t; (case t => wtm_at "d.ren")))
local macro_rules | `(tactic| wtm_at "d.setA") => `(tactic| first | exact SetA.nil | (refine' SetA.cons ?h ?t; (case h => wtm_at "d.putC"); (case t => wtm_at "d.setA")))
local macro_rules | `(tactic| wtm_at "d.args") => `(tactic| first | exact av_nil | (refine' av_cons ?h ?t; (case h => wtm_at "d.ev"); (case t => wtm_at "d.args")))
local macro_rules | `(tactic| wtm_at "d.argsD") => `(tactic| first | exact ad_nil | (refine' ad_cons ?h ?t; (case h => wtm_at "d.ev"); (case t => wtm_at "d.argsD")))
local macro_rules | `(tactic| wtm_at "d.argsC") => `(tactic| first | exact av_nil | (refine' av_cons ?h ?t; (case h => first | wtm_at "d.evC" | wtm_at "d.ev"); (case t => wtm_at "d.argsC")))
local macro_rules | `(tactic| wtm_at "d.side") => `(tactic| first | with_reducible assumption | omega | decide | rfl)
local macro_rules | `(tactic| wtm_at "d.mul") => `(tactic| first | with_reducible assumption | exact small_mul (by omega) (by omega) | exact bd_mul_small (by assumption) (by omega) | exact bd_mul_small (Deal.bd _) (by omega) | exact small_mul (by decide) (by decide))
local macro_rules | `(tactic| wtm_at "d.div") => `(tactic| exact small_div (by omega) (by omega))
local macro_rules | `(tactic| wtm_at "d.pow") => `(tactic| exact ⟨by decide, by decide, by decide⟩)
local macro_rules | `(tactic| wtm_at "d.at") => `(tactic| first | with_reducible assumption | exact at_if | rfl | exact at_zero | (apply atI_nat; assumption))
local macro_rules | `(tactic| wtm_at "d.lt") => `(tactic| first | rfl | (simp [CC.lt, SV.lt]; done))
local macro_rules | `(tactic| wtm_at "d.ret") => `(tactic| first
  | (refine RetOk.val ?_ rfl ?_; (exact ⟨_, rfl⟩); wtm_at "d.lt")
  | (refine RetOk.frz ?_ rfl ?_ ?_ rfl ?_; (exact Nat.le_of_ble_eq_true rfl); (first | rfl | (simp [CC.data, svData_map, kvData_map]; done)); (exact ⟨_, rfl⟩); wtm_at "d.lt")
  | (refine RetOk.new ?_ rfl ?_ ?_ ?_ rfl ?_; (exact Nat.le_of_ble_eq_true rfl); (first | rfl | (simp [CC.flat, SV.isVal]; done)); (intro z; cases z); (exact ⟨_, rfl⟩); wtm_at "d.lt"))
local macro_rules | `(tactic| wtm_at "d.dget") => `(tactic| (refine' ev_dget (by assumption) ?ha ?hb ?hd ?hk ?hl; (case ha => wtm_at "d.ev"); (case hb => wtm_at "d.ev"); (case hd => wtm_at "d.isD"); (case hk => constructor); (case hl => first | assumption | rfl)))
local macro_rules | `(tactic| wtm_at "d.dg2") => `(tactic| first | assumption | rfl)
local macro_rules | `(tactic| wtm_at "d.dget2") => `(tactic| (refine' ev_dget2 (by assumption) ?hf ?ha ?hb ?hd1 ?hd ?hk ?hl; (case ha => wtm_at "d.ev"); (case hb => wtm_at "d.ev"); (case hf => wtm_at "d.ev"); (case hd1 => exact ⟨_, by wtm_at "d.isD"⟩); (case hd => wtm_at "d.isD"); (case hk => constructor); (case hl => wtm_at "d.dg2")))
local macro_rules | `(tactic| wtm_at "d.two") => `(tactic| ((case ha => wtm_at "d.ev"); (case hb => wtm_at "d.ev")))
local macro_rules | `(tactic| wtm_at "d.nelist") => `(tactic| (refine' tv_neD (by assumption) ?ha ?hb ?hd ?he ?sd ?se; (case ha => wtm_at "d.ev"); (case hb => wtm_at "d.ev"); (case hd => wtm_at "d.isDat"); (case he => wtm_at "d.isDat"); (case sd => assumption); (case se => assumption)))
local macro_rules | `(tactic| wtm_at "d.eqDD") => `(tactic| first
  | (refine' tv_eqDD (by assumption) ?ha ?hb ?hd ?he ?hf ?nd; (case ha => wtm_at "d.ev"); (case hb => wtm_at "d.ev"); (case hd => wtm_at "d.isD"); (case he => wtm_at "d.isD"); (case hf => assumption); (case nd => assumption))
  | (refine' tv_neDD (by assumption) ?ha ?hb ?hd ?he ?hf ?nd; (case ha => wtm_at "d.ev"); (case hb => wtm_at "d.ev"); (case hd => wtm_at "d.isD"); (case he => wtm_at "d.isD"); (case hf => assumption); (case nd => assumption)))
local macro_rules | `(tactic| wtm_at "d.eqD") => `(tactic| first
  | (refine' ev_eqDD (by assumption) ?ha ?hb ?hd ?he ?hf ?nd; (case ha => wtm_at "d.ev"); (case hb => wtm_at "d.ev"); (case hd => wtm_at "d.isD"); (case he => wtm_at "d.isD"); (case hf => assumption); (case nd => assumption))
  | (refine' ev_eqD (by assumption) ?ha ?hb ?hd ?he ?sd ?se; (case ha => wtm_at "d.ev"); (case hb => wtm_at "d.ev"); (case hd => wtm_at "d.isDat"); (case he => wtm_at "d.isDat"); (case sd => first | rfl | assumption); (case se => first | rfl | assumption)))
local macro_rules | `(tactic| wtm_at "d.catL") => `(tactic| (refine' ev_catL ?ha ?hb ?hl ?hm ?hz; (case ha => wtm_at "d.ev"); (case hb => wtm_at "d.ev"); (case hl => wtm_at "d.isL"); (case hm => wtm_at "d.isL"); (case hz => first | assumption | decide)))
local macro_rules | `(tactic| wtm_at "d.slF") => `(tactic| (refine' ev_slFrom (k := 1) ?ha ?hb ?hl _; (case ha => wtm_at "d.ev"); (case hb => wtm_at "d.ev"); (case hl => wtm_at "d.isL")))
local macro_rules | `(tactic| wtm_at "d.tv") => `(tactic| first
  | (refine' tv_w ?h; (case h => wtm_at "d.wv"))
  | (refine' tv_not ?h; (case h => wtm_at "d.tv"))
  | (refine' tv_lt ?ha ?hb; (case ha => wtm_at "d.ev"); (case hb => wtm_at "d.ev")) | (refine' tv_le ?ha ?hb; (case ha => wtm_at "d.ev"); (case hb => wtm_at "d.ev")) | (refine' tv_gt ?ha ?hb; (case ha => wtm_at "d.ev"); (case hb => wtm_at "d.ev")) | (refine' tv_ge ?ha ?hb; (case ha => wtm_at "d.ev"); (case hb => wtm_at "d.ev"))
  | (refine' tv_eqI ?ha ?hb; (case ha => wtm_at "d.ev"); (case hb => wtm_at "d.ev")) | (refine' tv_eqS ?ha ?hb; (case ha => wtm_at "d.ev"); (case hb => wtm_at "d.ev")) | (refine' tv_neI ?ha ?hb; (case ha => wtm_at "d.ev"); (case hb => wtm_at "d.ev")) | (refine' tv_neS ?ha ?hb; (case ha => wtm_at "d.ev"); (case hb => wtm_at "d.ev"))
  | (refine' tv_isN ?ha ?hb; (case ha => wtm_at "d.ev"); (case hb => wtm_at "d.ev")) | (refine' tv_notN ?ha ?hb; (case ha => wtm_at "d.ev"); (case hb => wtm_at "d.ev"))
  | (refine' tv_din (by assumption) ?ha ?hb ?hd ?hk; (case ha => wtm_at "d.ev"); (case hb => wtm_at "d.ev"); (case hd => wtm_at "d.isD"); (case hk => constructor))
  | (refine' tv_dnin (by assumption) ?ha ?hb ?hd ?hk; (case ha => wtm_at "d.ev"); (case hb => wtm_at "d.ev"); (case hd => wtm_at "d.isD"); (case hk => constructor))
  | wtm_at "d.nelist"
  | (refine' tv_isnotB ?ha ?hb; (case ha => wtm_at "d.ev"); (case hb => wtm_at "d.ev"))
  | wtm_at "d.eqDD"
  | (refine' tv_neDF (by assumption) ?ha ?hb ?hd ?he ?hf ?nd; (case ha => wtm_at "d.ev"); (case hb => wtm_at "d.ev"); (case hd => wtm_at "d.isD"); (case he => wtm_at "d.isD"); (case hf => assumption); (case nd => assumption))
  | (refine' tv_val ?h; (case h => wtm_at "d.ev")))
local macro_rules | `(tactic| wtm_at "d.wv") => `(tactic| first
  | (refine' wv_and1 ?h; (case h => wtm_at "d.tv")) | (refine' wv_or1 ?h; (case h => wtm_at "d.tv"))
  | (refine' wv_and ?h (fun hk => ?t); (case h => wtm_at "d.tv"); (case t => wtm_at "d.wv"))
  | (refine' wv_or ?h (fun hk => ?t); (case h => wtm_at "d.tv"); (case t => wtm_at "d.wv"))
  | (refine' wv_or0 ?h ?t; (case h => wtm_at "d.tv"); (case t => wtm_at "d.wv"))
  | (refine' wv_and0 ?h ?t; (case h => wtm_at "d.tv"); (case t => wtm_at "d.wv")))
local macro_rules | `(tactic| wtm_at "d.ev") => `(tactic| first
  | exact ev_int | exact ev_str | exact ev_bool | exact ev_none
  | (refine' ev_name (by assumption) rfl ?h ?hi; (case h => wtm_at "d.lk"); (case hi => exact rfl))
  | (refine' ev_nameV (by assumption) rfl ?h; (case h => wtm_at "d.lk"))
  | (refine' ev_add ?ha ?hb; (case ha => wtm_at "d.ev"); (case hb => wtm_at "d.ev"))
  | (refine' ev_sub ?ha ?hb; (case ha => wtm_at "d.ev"); (case hb => wtm_at "d.ev"))
  | (refine' ev_mul ?ha ?hb ?hc; (case ha => wtm_at "d.ev"); (case hb => wtm_at "d.ev"); (case hc => wtm_at "d.mul"))
  | (refine' ev_mod ?ha ?hb ?hc; (case ha => wtm_at "d.ev"); (case hb => wtm_at "d.ev"); (case hc => wtm_at "d.side"))
  | (refine' ev_div ?ha ?hb ?hc; (case ha => wtm_at "d.ev"); (case hb => wtm_at "d.ev"); (case hc => wtm_at "d.div"))
  | (refine' ev_pow ?ha ?hb ?hc; (case ha => wtm_at "d.ev"); (case hb => wtm_at "d.ev"); (case hc => wtm_at "d.pow"))
  | (refine' ev_neg ?ha; (case ha => wtm_at "d.ev"))
  | (refine' ev_lt ?ha ?hb; (case ha => wtm_at "d.ev"); (case hb => wtm_at "d.ev")) | (refine' ev_le ?ha ?hb; (case ha => wtm_at "d.ev"); (case hb => wtm_at "d.ev")) | (refine' ev_gt ?ha ?hb; (case ha => wtm_at "d.ev"); (case hb => wtm_at "d.ev")) | (refine' ev_ge ?ha ?hb; (case ha => wtm_at "d.ev"); (case hb => wtm_at "d.ev"))
  | (refine' ev_eqI ?ha ?hb; (case ha => wtm_at "d.ev"); (case hb => wtm_at "d.ev")) | (refine' ev_eqS ?ha ?hb; (case ha => wtm_at "d.ev"); (case hb => wtm_at "d.ev")) | (refine' ev_neI ?ha ?hb; (case ha => wtm_at "d.ev"); (case hb => wtm_at "d.ev")) | (refine' ev_neS ?ha ?hb; (case ha => wtm_at "d.ev"); (case hb => wtm_at "d.ev"))
  | (refine' ev_isN ?ha ?hb; (case ha => wtm_at "d.ev"); (case hb => wtm_at "d.ev")) | (refine' ev_notN ?ha ?hb; (case ha => wtm_at "d.ev"); (case hb => wtm_at "d.ev"))
  | (refine' ev_not ?ha; (case ha => wtm_at "d.ev"))
  | (refine' ev_tup ?ha ?hz; (case ha => wtm_at "d.argsD"); (case hz => exact rfl))
  | (refine' ev_lstV ?ha ?hz; (case ha => wtm_at "d.argsD"); (case hz => exact rfl))
  | (refine' ev_ixT ?ha ?hb ?hi; (case ha => wtm_at "d.ev"); (case hb => wtm_at "d.ev"); (case hi => wtm_at "d.at"))
  | (refine' ev_ixLv ?ha ?hb ?hi; (case ha => wtm_at "d.ev"); (case hb => wtm_at "d.ev"); (case hi => wtm_at "d.at"))
  | (refine' ev_ixL ?ha ?hb ?hl ?hi; (case ha => wtm_at "d.ev"); (case hb => wtm_at "d.ev"); (case hl => wtm_at "d.isL"); (case hi => wtm_at "d.at"))
  | wtm_at "d.dget"
  | wtm_at "d.dget2"
  | exact ev_dict0V
  | (refine' ev_dictDV (by assumption) rfl ?ha ?hl; (case ha => wtm_at "d.ev"); (case hl => wtm_at "d.isD"))
  | (refine' ev_len (by assumption) rfl ?ha ?hr; (case ha => wtm_at "d.ev"); (case hr => first | exact rc_lenT | exact rc_lenLv | exact rc_lenL (IsL.cell rfl)))
  | (refine' ev_tupleL (by assumption) rfl ?ha ?hl; (case ha => wtm_at "d.ev"); (case hl => wtm_at "d.isL"))
  | (refine' ev_tupleT (by assumption) rfl ?ha; (case ha => wtm_at "d.ev"))
  | (refine' ev_max2 rfl (by assumption) rfl ?ha ?hb; (case ha => wtm_at "d.ev"); (case hb => wtm_at "d.ev")) | (refine' ev_min2 rfl (by assumption) rfl ?ha ?hb; (case ha => wtm_at "d.ev"); (case hb => wtm_at "d.ev"))
  | (refine' ev_intB (by assumption) rfl ?ha; (case ha => wtm_at "d.ev"))
  | (refine' ev_isTup (by assumption) rfl ?ha (by assumption) rfl; (case ha => wtm_at "d.ev")) | (refine' ev_isInt (by assumption) rfl ?ha (by assumption) rfl; (case ha => wtm_at "d.ev")) | (refine' ev_isBool (by assumption) rfl ?ha (by assumption) rfl; (case ha => wtm_at "d.ev")) | (refine' ev_isStr (by assumption) rfl ?ha (by assumption) rfl; (case ha => wtm_at "d.ev")) | (refine' ev_isLst (by assumption) rfl ?ha (by assumption) rfl; (case ha => wtm_at "d.ev"))
  | (refine' ev_glo (by assumption) rfl)
  | wtm_at "d.eqD"
  | wtm_at "d.catL"
  | wtm_at "d.slF"
  | (refine' ev_sortedI (by assumption) rfl ?ha ?hl; (case ha => wtm_at "d.ev"); (case hl => first | assumption | wtm_at "d.isL"))
  | (refine' ev_and1 ?ha; (case ha => wtm_at "d.ev"))
  | (refine' ev_and ?ha ?hb; (case ha => wtm_at "d.ev"); (case hb => intro _; wtm_at "d.ev"))
  | (refine' ev_or ?ha ?hb; (case ha => wtm_at "d.ev"); (case hb => intro _; wtm_at "d.ev"))
  | (refine' ev_and0 ?ha ?hb; (case ha => wtm_at "d.ev"); (case hb => wtm_at "d.ev"))
  | (refine' ev_or0 ?ha ?hb; (case ha => wtm_at "d.ev"); (case hb => wtm_at "d.ev"))
  | (refine' ev_append ?ha ?hb ?hc ?hd ?hp ?hz; (case ha => wtm_at "d.ev"); (case hb => wtm_at "d.ev"); (case hc => exact rfl); (case hd => exact rfl); (case hp => wtm_at "d.putC"); (case hz => wtm_at "d.side"))
  | (refine' ev_listRg1 rfl (by assumption) rfl (by assumption) rfl ?ha ?ho ?hq; (case ha => wtm_at "d.ev"); (case ho => wtm_at "d.side"); (case hq => wtm_at "d.side"))
  | (refine' ev_listRg2 rfl (by assumption) rfl (by assumption) rfl ?ha ?hb ?ho ?hq; (case ha => wtm_at "d.ev"); (case hb => wtm_at "d.ev"); (case ho => wtm_at "d.side"); (case hq => wtm_at "d.side"))
  | (refine' ev_reverse ?ha ?hc ?hp; (case ha => wtm_at "d.ev"); (case hc => exact rfl); (case hp => wtm_at "d.putC"))
  | (refine' ev_sortedP (by assumption) rfl ?ha ?hl; (case ha => wtm_at "d.ev"); (case hl => wtm_at "d.isL"))
  | wtm_at "d.call")
/-- what makes a new cell -/
local macro_rules | `(tactic| wtm_at "d.evC") => `(tactic| first
  | (refine' ev_lstC ?ha ?hac ?hz; (case ha => wtm_at "d.args"); (case hac => wtm_at "d.appC"); (case hz => exact rfl))
  | (refine' ev_dict0 ?hac; (case hac => wtm_at "d.appC"))
  | (refine' ev_listC (by assumption) rfl ?ha ?hl ?hac; (case ha => wtm_at "d.ev"); (case hl => wtm_at "d.isQ"); (case hac => wtm_at "d.appC"))
  | (refine' ev_dictP rfl (by assumption) rfl ?ha ?hl ?hac; (case ha => wtm_at "d.ev"); (case hl => wtm_at "d.isL"); (case hac => wtm_at "d.appC"))
  | wtm_at "d.callC")
local macro_rules | `(tactic| wtm_at "d.setC") => `(tactic| (refine' s1_set (by assumption) rfl ?h ?p ?q ?hi; (case h => wtm_at "d.evC"); (case p => wtm_at "d.put"); (case hi => exact rfl); show SX _ _ _ _ _ _))
local macro_rules | `(tactic| wtm_at "d.returnC") => `(tactic| (refine' s1_ret ?h ?q; (case h => wtm_at "d.evC"); show RetOk _ _ _ _ _))
local macro_rules | `(tactic| wtm_at "d.stC") => `(tactic| (refine' sx_cons ?s; first | wtm_at "d.setC" | wtm_at "d.returnC"))
/-- statements without branches -/
local macro_rules | `(tactic| wtm_at "d.set") => `(tactic| (refine' s1_set (by assumption) rfl ?h ?p ?q ?hi; (case h => wtm_at "d.ev"); (case p => wtm_at "d.put"); (case hi => exact rfl); show SX _ _ _ _ _ _))
local macro_rules | `(tactic| wtm_at "d.return") => `(tactic| (refine' s1_ret ?h ?q; (case h => wtm_at "d.ev"); show RetOk _ _ _ _ _))
local macro_rules | `(tactic| wtm_at "d.expr") => `(tactic| (refine' s1_expr ?h ?q; (case h => wtm_at "d.ev"); show SX _ _ _ _ _ _))
local macro_rules | `(tactic| wtm_at "d.lput") => `(tactic| (refine' s1_lput ?hv ?ho ?hi ?hc ?hj ?p ?q; (case hv => wtm_at "d.ev"); (case ho => wtm_at "d.ev"); (case hi => wtm_at "d.ev"); (case hc => exact rfl); (case hj => exact rfl); (case p => wtm_at "d.putC"); show SX _ _ _ _ _ _))
local macro_rules | `(tactic| wtm_at "d.dput") => `(tactic| (refine' s1_dput (by assumption) ?hv ?ho ?hi ?hc ?hk ?hz ?nd ?p ?q; (case hv => wtm_at "d.ev"); (case ho => wtm_at "d.ev"); (case hi => wtm_at "d.ev"); (case hc => exact rfl); (case hk => constructor); (case hz => wtm_at "d.side"); (case nd => assumption); (case p => wtm_at "d.putC"); show SX _ _ _ _ _ _))
local macro_rules | `(tactic| wtm_at "d.st") => `(tactic| (refine' sx_cons ?s; first | wtm_at "d.set" | wtm_at "d.return" | wtm_at "d.expr" | wtm_at "d.lput" | wtm_at "d.dput"))
local macro_rules | `(tactic| wtm_at "d.if") => `(tactic| (refine' sx_cons ?s; refine' s1_if ?h ?y ?n; (case h => wtm_at "d.tv")))
local macro_rules | `(tactic| wtm_at "d.lv") => `(tactic| first | decide | omega)
/-- a, b = .. -/
local macro_rules | `(tactic| wtm_at "d.gxs") => `(tactic| first
  | (refine' gxs_cons (gx_name (by assumption) rfl ?p ?r ?i) ?hs; (case p => wtm_at "d.put"); (case i => exact rfl); (case hs => exact rfl); wtm_at "d.gxs")
  | refine' gxs_nil ?bd)
local macro_rules | `(tactic| wtm_at "d.unp") => `(tactic| (refine' sx_cons ?s; refine' s1_asg ?h ?g; (case h => wtm_at "d.ev"); (first | refine' gx_lst rfl IsL.val ?u rfl | refine' gx_tup rfl ?u rfl); wtm_at "d.gxs"; show SX _ _ _ _ _ _))
local macro_rules | `(tactic| wtm_at "g.len") => `(tactic| simp only [List.length_append, List.length_cons, List.length_nil, List.length_map, List.length_range, List.length_reverse, List.length_drop, List.length_take, List.length_set, List.length_replicate])
local macro_rules | `(tactic| wtm_at "g.lenA") => `(tactic| simp only [List.length_append, List.length_cons, List.length_nil, List.length_map, List.length_range, List.length_reverse, List.length_drop, List.length_take, List.length_set, List.length_replicate] at *)
local macro_rules | `(tactic| wtm_at "g.sd") => `(tactic| first | with_reducible assumption | omega | decide | (split <;> omega) | (wtm_at "g.len"; omega) | (wtm_at "g.lenA"; omega) | (subst_vars; first | with_reducible assumption | omega | (wtm_at "g.len"; omega) | (wtm_at "g.lenA"; omega)))
local macro_rules | `(tactic| wtm_at "g.pre") => `(tactic| wtm_at "g.sd")
local macro_rules | `(tactic| wtm_at "g.nd") => `(tactic| first | with_reducible assumption | exact List.Pairwise.nil | (refine putSt_nd _ _ _ ?_; wtm_at "g.nd") | (refine putI_nd _ _ _ ?_; wtm_at "g.nd") | (subst_vars; with_reducible assumption))
local macro_rules | `(tactic| wtm_at "g.str") => `(tactic| first | with_reducible assumption | omega | decide | (subst_vars; omega) | (subst_vars; decide))
local macro_rules | `(tactic| wtm_at "g.ixs") => `(tactic| first | with_reducible assumption | omega | (refine ⟨by omega, Int.lt_of_lt_of_le (b := 4) (by omega) (by decide)⟩))
local macro_rules | `(tactic| wtm_at "g.inv") => `(tactic| first | wtm_at "g.sd" | wtm_at "g.nd" | (refine ⟨?_, ?_⟩ <;> wtm_at "g.inv"))
local macro_rules | `(tactic| wtm_at "g.flat") => `(tactic| first | rfl | exact all_flat1 (flat_map _) | exact all_flat1 (flat_svK _) | (simp [CC.flat, SV.isVal]; done))
local macro_rules | `(tactic| wtm_at "g.data") => `(tactic| first | rfl | exact data_map _ | exact data_svK _ | (simp [CC.data, svData_map, kvData_map]; done))
local macro_rules | `(tactic| wtm_at "g.okS") => `(tactic| first | rfl | (simp [okS, SV.lt]; done))
local macro_rules | `(tactic| wtm_at "g.key") => `(tactic| first | with_reducible assumption | (subst_vars; with_reducible assumption))
local macro_rules | `(tactic| wtm_at "g.same") => `(tactic| first | rfl | (subst_vars; rfl))
local macro_rules | `(tactic| wtm_at "d.lt") => `(tactic| first | rfl | (simp only [List.all_cons, List.all_nil, lt_svK, lt_map, Bool.and_true, Bool.true_and]; first | done | rfl) | (simp [CC.lt, SV.lt]; done))
local macro_rules | `(tactic| wtm_at "g.some") => `(tactic| first | with_reducible assumption | exact some_of (by assumption) | (subst_vars; first | with_reducible assumption | exact some_of (by assumption)))
local macro_rules | `(tactic| wtm_at "g.wj") => `(tactic| (refine ⟨?_, ?_⟩ <;> wtm_at "g.inv"))
local macro_rules | `(tactic| wtm_at "g.shp") => `(tactic| first | exact dk_shaped (n := 0) rfl (by decide) | exact dk_shaped (n := 1) rfl (by decide) | exact dk_shaped (n := 0) (by assumption) (by decide) | exact dk_shaped (n := 1) (by decide) (by decide) | exact dk_shaped (n := 1) (by decide +kernel) (by decide))
local macro_rules | `(tactic| wtm_at "g.cj") => `(tactic| first | trivial | (intros; dsimp only at *; wtm_at "g.inv") | wtm_at "g.inv")
theorem dk_tie (q : Int × Int × Int) : dkD 1 (tieD q) = true := by simp [dkD, tieD]
inductive Ans
  | vals (xs : List Int)
  | ring (ts : List (Int × Int × Int))
def Ans.word : Ans → Str
  | .vals _ => "values"
  | .ring _ => "ring"
def Ans.items : Ans → List PyData
  | .vals xs => xs.map .int
  | .ring ts => ts.map tieD
abbrev e_tup_str_int (q : (Str × Int)) : PyData := .tuple [(.str q.1), (.int q.2)]
abbrev e_tupl_tup_int_int (q : (List (Int × Int))) : PyData := .tuple (q.map pD)
abbrev e_tup_int_tupl_tup_int_int (q : (Int × (List (Int × Int)))) : PyData := .tuple [(.int q.1), (.tuple (q.2.map pD))]
abbrev e_lst_int (q : (List Int)) : PyData := .list (q.map PyData.int)
abbrev e_tup_int_int_int (q : (Int × Int × Int)) : PyData := .tuple [(.int q.1), (.int q.2.1), (.int q.2.2)]
abbrev e_lst_tup_int_int_int (q : (List (Int × Int × Int))) : PyData := .list (q.map e_tup_int_int_int)
abbrev e_lst_pyd (q : (List PyData)) : PyData := .list (q.map id)
abbrev e_lst_opt_tup_int_int_int (q : (List (Option (Int × Int × Int)))) : PyData := .list (q.map (optD e_tup_int_int_int))
def m_law_cell (script_0 : Scr) (k_0 : Int) : Int := if (decide (k_0 < (script_0.ns.length : Int))) then (Scr.at script_0 (k_0 : Int).toNat) else letF ((k_0 * 7919) + 5) fun number_1 => joinF (fun (q_3 : (Int)) => letF (((q_3 * q_3) + 48271) % 2147483629) fun number_5 => ((number_5 * number_5) % 2147483647)) fun j_1 => if (decide (0 < (script_0.ns.length : Int))) then letF ((((Scr.at script_0 (((k_0 * 7) % (script_0.ns.length : Int)) : Int).toNat) * 48271) + (k_0 * 7919)) % 2147483647) fun number_4 => j_1 (number_4) else j_1 (number_1)
section
variable {P : Program} {w : World} {K : PySem.W.Frag} {mg : Str → Option Value} {base : Heap}
inductive Sp_law_cell : Spec
  | mk {script_0 : Scr} {k_0 : Int} (hk : 0 ≤ k_0 ∧ k_0 < 200) : Sp_law_cell [.val (Scr.D script_0), .val (.int k_0)] [] (.val (.int (m_law_cell script_0 k_0))) []
theorem cal_law_cell (D : DefAt K mg "_law_cell" s__law_cell P__law_cell) (z_len : mg "len" = none) : Cal P w K mg base 1 "_law_cell" 2 Sp_law_cell := by
  refine cal_def D sc__law_cell tb__law_cell (fun f cdv A outer s0 H E hr T TL svs cs sv cs1 hsp hl => ?_)
  cases hsp with
  | @mk script_0 k_0 hk =>
  obtain ⟨R0, h⟩ : ∃ R0, (m_law_cell script_0 k_0) = R0 := ⟨_, rfl⟩
  rw [h]
  unfold m_law_cell at h
  have hSl := script_0.len
  show SX _ _ _ [some (.val (Scr.D script_0)), some (.val (.int k_0)), none] [] _
  refine' sx_cons (s1_if (tv_lt (ev_name T rfl (Lk.there Lk.here) rfl) (ev_is (t := .val (.int (script_0.ns.length : Int))) (ev_len z_len rfl (ev_name T rfl Lk.here rfl) (rc_lenLv)) (by simp only [List.length_map]))) ?y2 ?n2)
  case y2 =>
    intro hb1
    have hb1x := hb1
    try simp only [Bool.and_eq_true, Bool.or_eq_true, Bool.and_eq_false_iff, Bool.or_eq_false_iff, decide_eq_true_eq, decide_eq_false_iff_not, Bool.not_eq_true', Bool.not_eq_false', Bool.not_eq_eq_eq_not, Bool.not_true, Bool.not_false] at hb1x
    rw [if_pos hb1] at h
    have sa3 := Scr.atI script_0 (i := k_0) (by wtm_at "g.sd") (by wtm_at "g.sd")
    have sb3 := (Scr.bdAt script_0 (k_0 : Int).toNat).bd
    refine sx_cons (s1_ret (ev_ixLv (ev_name T rfl Lk.here rfl) (ev_name T rfl (Lk.there Lk.here) rfl) sa3) ?_)
    show RetOk _ _ _ _ _
    subst h
    exact ret_val rfl rfl rfl (by wtm_at "d.lt")
  case n2 =>
    intro hb1
    have hb1x := hb1
    try simp only [Bool.and_eq_true, Bool.or_eq_true, Bool.and_eq_false_iff, Bool.or_eq_false_iff, decide_eq_true_eq, decide_eq_false_iff_not, Bool.not_eq_true', Bool.not_eq_false', Bool.not_eq_eq_eq_not, Bool.not_true, Bool.not_false] at hb1x
    rw [if_neg (by rw [hb1]; decide)] at h
    refine sx_nil ?_
    show SX _ _ _ _ _ _
    replace h := letF_elim h
    obtain ⟨number_1, enumber_1, h⟩ := h
    refine sx_cons (s1_set TL rfl (ev_is (t := .val (.int number_1)) (ev_add (ev_mul (ev_name T rfl (Lk.there Lk.here) rfl) ev_int (by wtm_at "d.mul")) ev_int) (by subst enumber_1; rfl)) (Put.there (Put.there Put.here)) ?_ rfl)
    show SX _ _ _ _ _ _
    replace h := joinF_elim h
    obtain ⟨j_1, hj_1, h⟩ := h
    refine' sx_cutA (fun sl1 cs1 => ∃ q_3 : (Int), j_1 q_3 = R0 ∧ (0 ≤ q_3 ∧ q_3 < 2147483647) ∧ sl1 = [some (.val (Scr.D script_0)), some (.val (.int k_0)), some (.val (.int q_3))] ∧ cs1 = []) ?st5 ?rest5
    case st5 =>
      refine' s1_if (tv_gt (ev_is (t := .val (.int (script_0.ns.length : Int))) (ev_len z_len rfl (ev_name T rfl Lk.here rfl) (rc_lenLv)) (by simp only [List.length_map])) ev_int) ?y5 ?n5
      case y5 =>
        intro hb4
        have hb4x := hb4
        try simp only [Bool.and_eq_true, Bool.or_eq_true, Bool.and_eq_false_iff, Bool.or_eq_false_iff, decide_eq_true_eq, decide_eq_false_iff_not, Bool.not_eq_true', Bool.not_eq_false', Bool.not_eq_eq_eq_not, Bool.not_true, Bool.not_false] at hb4x
        rw [if_pos hb4] at h
        replace h := letF_elim h
        obtain ⟨number_4, enumber_4, h⟩ := h
        have md6 := emod_bd ((k_0 * 7)) (m := (script_0.ns.length : Int)) (by wtm_at "g.sd")
        have sa7 := Scr.atI script_0 (i := ((k_0 * 7) % (script_0.ns.length : Int))) (by wtm_at "g.sd") (by wtm_at "g.sd")
        have sb7 := (Scr.bdAt script_0 (((k_0 * 7) % (script_0.ns.length : Int)) : Int).toNat).bd
        refine sx_cons (s1_set TL rfl (ev_is (t := .val (.int number_4)) (ev_mod (ev_add (ev_mul (ev_ixLv (ev_name T rfl Lk.here rfl) (ev_mod (ev_mul (ev_name T rfl (Lk.there Lk.here) rfl) ev_int (by wtm_at "d.mul")) (ev_is (t := .val (.int (script_0.ns.length : Int))) (ev_len z_len rfl (ev_name T rfl Lk.here rfl) (rc_lenLv)) (by simp only [List.length_map])) (by wtm_at "d.side")) sa7) ev_int (by wtm_at "d.mul")) (ev_mul (ev_name T rfl (Lk.there Lk.here) rfl) ev_int (by wtm_at "d.mul"))) ev_int (by wtm_at "d.side")) (by subst enumber_4; rfl)) (Put.there (Put.there Put.here)) ?_ rfl)
        show SX _ _ _ _ _ _
        refine sx_nil ?_
        exact ⟨_, _, ⟨(number_4), h, (by wtm_at "g.inv"), rfl, rfl⟩, (At.same (Le.same (Le.same (Le.same Le.nil))))⟩
      case n5 =>
        intro hb4
        have hb4x := hb4
        try simp only [Bool.and_eq_true, Bool.or_eq_true, Bool.and_eq_false_iff, Bool.or_eq_false_iff, decide_eq_true_eq, decide_eq_false_iff_not, Bool.not_eq_true', Bool.not_eq_false', Bool.not_eq_eq_eq_not, Bool.not_true, Bool.not_false] at hb4x
        rw [if_neg (by rw [hb4]; decide)] at h
        refine sx_nil ?_
        exact ⟨_, _, ⟨(number_1), h, (by wtm_at "g.inv"), rfl, rfl⟩, (At.same (Le.same (Le.same (Le.same Le.nil))))⟩
    clear h
    rintro _ _ ⟨number_2, h, hi1, rfl, rfl⟩
    replace h := hj_1 _ h
    try dsimp only at h hi1
    show SX _ _ _ [some (.val (Scr.D script_0)), some (.val (.int k_0)), some (.val (.int number_2))] [] _
    replace h := letF_elim h
    obtain ⟨number_5, enumber_5, h⟩ := h
    refine sx_cons (s1_set TL rfl (ev_is (t := .val (.int number_5)) (ev_mod (ev_add (ev_mul (ev_name T rfl (Lk.there (Lk.there Lk.here)) rfl) (ev_name T rfl (Lk.there (Lk.there Lk.here)) rfl) (by wtm_at "d.mul")) ev_int) ev_int (by wtm_at "d.side")) (by subst enumber_5; rfl)) (Put.there (Put.there Put.here)) ?_ rfl)
    show SX _ _ _ _ _ _
    refine sx_cons (s1_ret (ev_mod (ev_mul (ev_name T rfl (Lk.there (Lk.there Lk.here)) rfl) (ev_name T rfl (Lk.there (Lk.there Lk.here)) rfl) (by wtm_at "d.mul")) ev_int (by wtm_at "d.side")) ?_)
    show RetOk _ _ _ _ _
    subst h
    exact ret_val rfl rfl rfl (by wtm_at "d.lt")
end
theorem forL_inv {α σ ρ : Type} {body : α → σ → (σ → ρ) → ρ} {k : σ → ρ} {Q : ρ → Prop} (J : List α → σ → Prop) (hk : ∀ s, J [] s → Q (k s)) : ∀ (es : List α) (s : σ), (∀ x ∈ es, ∀ xs s n, J (x :: xs) s → (∀ s', J xs s' → Q (n s')) → Q (body x s n)) → J es s → Q (forL body k es s)
  | [], s, _, h => hk s h
  | x :: xs, s, hb, h => hb x List.mem_cons_self xs s _ h fun s' h' => forL_inv J hk xs s' (fun y hy => hb y (List.mem_cons_of_mem _ hy)) h'
theorem cell_bd (S : Scr) (k : Int) : Bd (m_law_cell S k) := by
  unfold m_law_cell
  simp only [letF, joinF]
  split
  · exact (Scr.bdAt _ _).bd
  · split
    · exact bd_lt (by omega)
    · exact bd_lt (by omega)
def Wb (k : Nat) (w : Int) : Prop := k ≤ 9 ∧ w.natAbs < 2 ^ (400 - 40 * k)
theorem Wb.bd {k : Nat} {w : Int} (h : Wb k w) : Bd w := ⟨400 - 40 * k, by omega, h.2⟩
theorem Wb.step {k : Nat} {w n : Int} (h : Wb (k + 1) w) (h0 : 0 ≤ n) (h1 : n < 2147483647) : Wb k (w * 2147483647 + n) := by
  obtain ⟨hk, h⟩ := h
  refine ⟨by omega, ?_⟩
  have e : 2 ^ (400 - 40 * k) = 2 ^ (400 - 40 * (k + 1)) * 1099511627776 := by
    have : 400 - 40 * k = 400 - 40 * (k + 1) + 40 := by omega
    rw [this, Nat.pow_add]
  have h2 : 1 ≤ 2 ^ (400 - 40 * (k + 1)) := Nat.one_le_two_pow
  rw [e]
  generalize 2 ^ (400 - 40 * (k + 1)) = p at h h2
  omega
theorem Wb.start : Wb (List.range (9 : Int).toNat).length 0 := by
  refine ⟨by decide, ?_⟩
  exact Nat.two_pow_pos _
local macro_rules | `(tactic| wtm_at "d.mul") => `(tactic| first | exact bd_mul_small (Wb.bd (And.right (And.right ‹(0 : Int) ≤ _ ∧ _ ∧ Wb _ _›))) (by omega) | (subst_vars; exact bd_mul_small (by assumption) (by omega)) | (subst_vars; exact small_mul (by omega) (by omega)))
local macro_rules | `(tactic| wtm_at "g.inv") => `(tactic| first | exact ⟨by omega, by omega, Wb.start⟩ | (refine ⟨by omega, by omega, ?_⟩; subst_vars; exact Wb.step (And.right (And.right ‹(0 : Int) ≤ _ ∧ _ ∧ Wb _ _›)) (by omega) (by omega)))
def m_law_feed (script_0 : Scr) (k_0 : Int) : (List Int) := letF (m_law_cell script_0 k_0) fun r_1 => letF (((r_1 * 48271) + (7919 * k_0)) % 2147483629) fun number_2 => forL (fun (x_5 : Nat) (s_6 : (Int × Int)) n_1 => letF ((((s_6.1 * s_6.1) + (48271 * s_6.1)) + (x_5 : Int)) % 2147483647) fun number_7 => letF ((s_6.2 * 2147483647) + number_7) fun whole_8 => n_1 (number_7, whole_8)) (fun s_6 : (Int × Int) => if (decide (r_1 < 1000000000000000000)) then ([s_6.2] : (List Int)) else ([r_1, s_6.2] : (List Int))) (List.range (9 : Int).toNat) (number_2, 0)
section
variable {P : Program} {w : World} {K : PySem.W.Frag} {mg : Str → Option Value} {base : Heap}
inductive Sp_law_feed : Spec
  | mk {script_0 : Scr} {k_0 : Int} (hk : 0 ≤ k_0 ∧ k_0 < 200) : Sp_law_feed [.val (Scr.D script_0), .val (.int k_0)] [] (.cell 0) [(.lst (((m_law_feed script_0 k_0).map PyData.int).map SV.val))]
theorem cal_law_feed (D : DefAt K mg "_law_feed" s__law_feed P__law_feed) (C_law_cell : Cal P w K mg base 1 "_law_cell" 2 Sp_law_cell) (z_range : mg "range" = none) : Cal P w K mg base 2 "_law_feed" 2 Sp_law_feed := by
  refine cal_def D sc__law_feed tb__law_feed (fun f cdv A outer s0 H E hr T TL svs cs sv cs1 hsp hl => ?_)
  cases hsp with
  | @mk script_0 k_0 hk =>
  obtain ⟨R0, h⟩ : ∃ R0, (m_law_feed script_0 k_0) = R0 := ⟨_, rfl⟩
  rw [h]
  unfold m_law_feed at h
  show SX _ _ _ [some (.val (Scr.D script_0)), some (.val (.int k_0)), none, none, none, none] [] _
  replace h := letF_elim h
  obtain ⟨r_1, er_1, h⟩ := h
  have p1 := cell_bd script_0 k_0
  refine sx_cons (s1_set TL rfl (ev_as (t := .val (.int r_1)) (cs2 := []) (ev_callM (κ := []) C_law_cell hr (by decide) rfl (av_cons (ev_name T rfl Lk.here rfl) (av_cons (ev_name T rfl (Lk.there Lk.here) rfl) av_nil)) Sel.nil (RenA.val (RenA.val RenA.nil)) (Sp_law_cell.mk (script_0 := script_0) (k_0 := k_0) (by wtm_at "g.pre")) SetA.nil (List.prefix_refl _) rfl (by decide) rfl) (by subst er_1; rfl) (by subst er_1; rfl)) (Put.there (Put.there Put.here)) ?_ rfl)
  show SX _ _ _ _ _ _
  replace h := letF_elim h
  obtain ⟨number_2, enumber_2, h⟩ := h
  refine sx_cons (s1_set TL rfl (ev_is (t := .val (.int number_2)) (ev_mod (ev_add (ev_mul (ev_name T rfl (Lk.there (Lk.there Lk.here)) rfl) ev_int (by wtm_at "d.mul")) (ev_mul ev_int (ev_name T rfl (Lk.there Lk.here) rfl) (by wtm_at "d.mul"))) ev_int (by wtm_at "d.side")) (by subst enumber_2; rfl)) (Put.there (Put.there (Put.there Put.here))) ?_ rfl)
  show SX _ _ _ _ _ _
  refine sx_cons (s1_set TL rfl ev_int (Put.there (Put.there (Put.there (Put.there Put.here)))) ?_ rfl)
  show SX _ _ _ _ _ _
  refine' sx_cons ?lp3
  refine' s1_forK (List.range (9 : Int).toNat) (fun i : Nat => SV.val (.int (i : Int))) _ _ R0 (number_2, 0) (fun l_1 (s_6 : (Int × Int)) => (0 ≤ s_6.1 ∧ s_6.1 < 2147483647 ∧ Wb l_1.length s_6.2)) h PassesOwn.never rfl (iv_range1 z_range rfl ev_int (by wtm_at "g.sd") (by wtm_at "g.sd")) ?j03 (fun s_6 : (Int × Int) => [some (.val (Scr.D script_0)), some (.val (.int k_0)), some (.val (.int r_1)), some (.val (.int s_6.1)), some (.val (.int s_6.2)), none]) (fun s_6 : (Int × Int) => []) (Le.same (Le.same (Le.same (Le.same (Le.same (Le.lose Le.nil)))))) rfl (fun _ => trivial) ?tu3 ?dn3
  case j03 => wtm_at "g.inv"
  case tu3 =>
    clear h
    rintro x_5 l_1 ⟨number_3, whole_4⟩ n_1 hm2 hJ1 h
    have hm2 := mem_mid hm2
    have hm2r := List.mem_range.mp hm2
    try dsimp only at h hJ1
    refine gx_name TL rfl (Put.there (Put.there (Put.there (Put.there (Put.there Put.here))))) ?_ rfl
    show SX _ _ _ [some (.val (Scr.D script_0)), some (.val (.int k_0)), some (.val (.int r_1)), some (.val (.int number_3)), some (.val (.int whole_4)), some (.val (.int (x_5 : Int)))] [] _
    replace h := letF_elim h
    obtain ⟨number_7, enumber_7, h⟩ := h
    refine sx_cons (s1_set TL rfl (ev_is (t := .val (.int number_7)) (ev_mod (ev_add (ev_add (ev_mul (ev_name T rfl (Lk.there (Lk.there (Lk.there Lk.here))) rfl) (ev_name T rfl (Lk.there (Lk.there (Lk.there Lk.here))) rfl) (by wtm_at "d.mul")) (ev_mul ev_int (ev_name T rfl (Lk.there (Lk.there (Lk.there Lk.here))) rfl) (by wtm_at "d.mul"))) (ev_name T rfl (Lk.there (Lk.there (Lk.there (Lk.there (Lk.there Lk.here))))) rfl)) ev_int (by wtm_at "d.side")) (by subst enumber_7; rfl)) (Put.there (Put.there (Put.there Put.here))) ?_ rfl)
    show SX _ _ _ _ _ _
    replace h := letF_elim h
    obtain ⟨whole_8, ewhole_8, h⟩ := h
    refine sx_cons (s1_set TL rfl (ev_is (t := .val (.int whole_8)) (ev_add (ev_mul (ev_name T rfl (Lk.there (Lk.there (Lk.there (Lk.there Lk.here)))) rfl) ev_int (by wtm_at "d.mul")) (ev_name T rfl (Lk.there (Lk.there (Lk.there Lk.here))) rfl)) (by subst ewhole_8; rfl)) (Put.there (Put.there (Put.there (Put.there Put.here)))) ?_ rfl)
    show SX _ _ _ _ _ _
    refine sx_nil ?_
    exact ⟨(number_7, whole_8), h, (by wtm_at "g.inv"), (At.same (Le.same (Le.same (Le.same (Le.same (Le.same (Le.lose Le.nil)))))))⟩
  case dn3 =>
    clear h
    rintro ⟨number_3, whole_4⟩ hJ1 h slx hlx
    try dsimp only at h hJ1
    refine sx_weak hlx ?_
    show SX _ _ _ [some (.val (Scr.D script_0)), some (.val (.int k_0)), some (.val (.int r_1)), some (.val (.int number_3)), some (.val (.int whole_4)), none] [] _
    refine' sx_cons (s1_if (tv_lt (ev_name T rfl (Lk.there (Lk.there Lk.here)) rfl) (ev_is (t := .val (.int 1000000000000000000)) (ev_pow ev_int ev_int ⟨by decide, by decide, by decide⟩) rfl)) ?y5 ?n5)
    case y5 =>
      intro hb4
      have hb4x := hb4
      try simp only [Bool.and_eq_true, Bool.or_eq_true, Bool.and_eq_false_iff, Bool.or_eq_false_iff, decide_eq_true_eq, decide_eq_false_iff_not, Bool.not_eq_true', Bool.not_eq_false', Bool.not_eq_eq_eq_not, Bool.not_true, Bool.not_false] at hb4x
      rw [if_pos hb4] at h
      refine sx_cons (s1_ret (ev_lstC (ss := [.val (PyData.int whole_4)]) (av_cons (ev_name T rfl (Lk.there (Lk.there (Lk.there (Lk.there Lk.here)))) rfl) av_nil) AppC.nil rfl) ?_)
      show RetOk _ _ _ _ _
      subst h
      exact ret_new (c := []) (Nat.le_of_ble_eq_true rfl) rfl rfl (by wtm_at "d.flat") (by intro z; cases z) rfl rfl (by wtm_at "d.lt")
    case n5 =>
      intro hb4
      have hb4x := hb4
      try simp only [Bool.and_eq_true, Bool.or_eq_true, Bool.and_eq_false_iff, Bool.or_eq_false_iff, decide_eq_true_eq, decide_eq_false_iff_not, Bool.not_eq_true', Bool.not_eq_false', Bool.not_eq_eq_eq_not, Bool.not_true, Bool.not_false] at hb4x
      rw [if_neg (by rw [hb4]; decide)] at h
      refine sx_nil ?_
      show SX _ _ _ _ _ _
      refine sx_cons (s1_ret (ev_lstC (ss := [.val (PyData.int r_1), .val (PyData.int whole_4)]) (av_cons (ev_name T rfl (Lk.there (Lk.there Lk.here)) rfl) (av_cons (ev_name T rfl (Lk.there (Lk.there (Lk.there (Lk.there Lk.here)))) rfl) av_nil)) AppC.nil rfl) ?_)
      show RetOk _ _ _ _ _
      subst h
      exact ret_new (c := []) (Nat.le_of_ble_eq_true rfl) rfl rfl (by wtm_at "d.flat") (by intro z; cases z) rfl rfl (by wtm_at "d.lt")
end
theorem feed_len (S : Scr) (k : Int) : 0 < (m_law_feed S k).length ∧ (m_law_feed S k).length ≤ 2 := by
  unfold m_law_feed
  simp only [letF]
  refine forL_inv (Q := fun (r : List Int) => 0 < r.length ∧ r.length ≤ 2) (fun _ _ => True) (fun s _ => ?_) _ _ (fun x _ xs s n _ h => h _ trivial) trivial
  split <;> simp
def m_law_take (feed_here_0 : (List Int)) (many_0 : Int) : Int × (List Int) := joinF (fun (q_2 : ((List Int))) => letF ((ixD q_2 0) % many_0) fun digit_3 => (digit_3, (q_2.set (0 : Int).toNat ((ixD q_2 0) / many_0)))) fun j_1 => if ((decide (1 < (feed_here_0.length : Int))) && (decide ((ixD feed_here_0 0) = 0))) then j_1 ((feed_here_0.eraseIdx (0 : Int).toNat)) else j_1 (feed_here_0)
section
variable {P : Program} {w : World} {K : PySem.W.Frag} {mg : Str → Option Value} {base : Heap}
inductive Sp_law_take : Spec
  | mk {feed_here_0 : (List Int)} {many_0 : Int} (h1 : 0 < feed_here_0.length ∧ feed_here_0.length ≤ 2) (h2 : 0 < many_0 ∧ many_0 < 18446744073709551616) : Sp_law_take [.cell 0, .val (.int many_0)] [(.lst ((feed_here_0.map PyData.int).map SV.val))] (.val (.int (m_law_take feed_here_0 many_0).1)) [(.lst (((m_law_take feed_here_0 many_0).2.map PyData.int).map SV.val))]
theorem cal_law_take (D : DefAt K mg "_law_take" s__law_take P__law_take) (z_len : mg "len" = none) : Cal P w K mg base 1 "_law_take" 2 Sp_law_take := by
  refine cal_def D sc__law_take tb__law_take (fun f cdv A outer s0 H E hr T TL svs cs sv cs1 hsp hl => ?_)
  cases hsp with
  | @mk feed_here_0 many_0 h1 h2 =>
  obtain ⟨R0, h⟩ : ∃ R0, (m_law_take feed_here_0 many_0) = R0 := ⟨_, rfl⟩
  rw [h]
  unfold m_law_take at h
  show SX _ _ _ [some (.cell 0), some (.val (.int many_0)), none] [(.lst ((feed_here_0.map PyData.int).map SV.val))] _
  replace h := joinF_elim h
  obtain ⟨j_1, hj_1, h⟩ := h
  refine' sx_cutA (fun sl1 cs1 => ∃ q_2 : ((List Int)), j_1 q_2 = R0 ∧ (0 < q_2.length ∧ q_2.length ≤ 2) ∧ sl1 = [some (.cell 0), some (.val (.int many_0)), none] ∧ cs1 = [(.lst ((q_2.map PyData.int).map SV.val))]) ?st4 ?rest4
  case st4 =>
    refine' s1_if (tv_w (wv_and (tv_gt (ev_is (t := .val (.int (feed_here_0.length : Int))) (ev_len z_len rfl (ev_name T rfl Lk.here rfl) (rc_lenL (IsL.cell rfl))) (by simp only [List.length_map])) ev_int) (fun hk1 => (by
    have hk1x := hk1
    try simp only [Bool.and_eq_true, Bool.or_eq_true, Bool.and_eq_false_iff, Bool.or_eq_false_iff, decide_eq_true_eq, decide_eq_false_iff_not, Bool.not_eq_true', Bool.not_eq_false', Bool.not_eq_eq_eq_not, Bool.not_true, Bool.not_false] at hk1x
    have at2 : L2.atI (feed_here_0.map PyData.int) 0 = some (PyData.int (ixD feed_here_0 0)) := at_ixD (f := PyData.int) (by wtm_at "g.sd") (by wtm_at "g.sd")
    exact (wv_and1 (tv_eqI (ev_ixL (ev_name T rfl Lk.here rfl) ev_int (IsL.cell rfl) (atI_map at2)) ev_int)))))) ?y4 ?n4
    case y4 =>
      intro hb3
      have hb3x := hb3
      try simp only [Bool.and_eq_true, Bool.or_eq_true, Bool.and_eq_false_iff, Bool.or_eq_false_iff, decide_eq_true_eq, decide_eq_false_iff_not, Bool.not_eq_true', Bool.not_eq_false', Bool.not_eq_eq_eq_not, Bool.not_true, Bool.not_false] at hb3x
      rw [if_pos hb3] at h
      have pe5 := erase_len (l := feed_here_0) (i := (0 : Int).toNat) (by wtm_at "g.sd")
      refine sx_cons (s1_expr (ev_popT (f := PyData.int) (l := feed_here_0) (z := 0) (ev_name T rfl Lk.here rfl) ev_int rfl rfl (by wtm_at "g.sd") (by wtm_at "g.sd") (by wtm_at "g.sd") PutC.here) ?_)
      show SX _ _ _ _ _ _
      refine sx_nil ?_
      exact ⟨_, _, ⟨((feed_here_0.eraseIdx (0 : Int).toNat)), h, (by wtm_at "g.inv"), rfl, rfl⟩, (At.same (Le.same (Le.same (Le.lose Le.nil))))⟩
    case n4 =>
      intro hb3
      have hb3x := hb3
      try simp only [Bool.and_eq_true, Bool.or_eq_true, Bool.and_eq_false_iff, Bool.or_eq_false_iff, decide_eq_true_eq, decide_eq_false_iff_not, Bool.not_eq_true', Bool.not_eq_false', Bool.not_eq_eq_eq_not, Bool.not_true, Bool.not_false] at hb3x
      rw [if_neg (by rw [hb3]; decide)] at h
      refine sx_nil ?_
      exact ⟨_, _, ⟨(feed_here_0), h, (by wtm_at "g.inv"), rfl, rfl⟩, (At.same (Le.same (Le.same (Le.lose Le.nil))))⟩
  clear h
  rintro _ _ ⟨c_1, h, hi1, rfl, rfl⟩
  replace h := hj_1 _ h
  try dsimp only at h hi1
  show SX _ _ _ [some (.cell 0), some (.val (.int many_0)), none] [(.lst ((c_1.map PyData.int).map SV.val))] _
  replace h := letF_elim h
  obtain ⟨digit_3, edigit_3, h⟩ := h
  have at6 : L2.atI (c_1.map PyData.int) 0 = some (PyData.int (ixD c_1 0)) := at_ixD (f := PyData.int) (by wtm_at "g.sd") (by wtm_at "g.sd")
  have md7 := emod_bd ((ixD c_1 0)) (m := many_0) (by wtm_at "g.sd")
  refine sx_cons (s1_set TL rfl (ev_is (t := .val (.int digit_3)) (ev_mod (ev_ixL (ev_name T rfl Lk.here rfl) ev_int (IsL.cell rfl) (atI_map at6)) (ev_name T rfl (Lk.there Lk.here) rfl) (by wtm_at "d.side")) (by subst edigit_3; rfl)) (Put.there (Put.there Put.here)) ?_ rfl)
  show SX _ _ _ _ _ _
  have at8 : L2.atI (c_1.map PyData.int) 0 = some (PyData.int (ixD c_1 0)) := at_ixD (f := PyData.int) (by wtm_at "g.sd") (by wtm_at "g.sd")
  refine sx_cons (s1_lputT (f := PyData.int) (l := c_1) (y := ((ixD c_1 0) / many_0)) (z := 0) (ev_div (ev_ixL (ev_name T rfl Lk.here rfl) ev_int (IsL.cell rfl) (atI_map at8)) (ev_name T rfl (Lk.there Lk.here) rfl) (by wtm_at "d.div")) (ev_name T rfl Lk.here rfl) ev_int rfl (by wtm_at "g.sd") (by wtm_at "g.sd") PutC.here ?_)
  show SX _ _ _ _ _ _
  refine sx_cons (s1_ret (ev_name T rfl (Lk.there (Lk.there Lk.here)) rfl) ?_)
  show RetOk _ _ _ _ _
  subst h
  exact ret_val rfl rfl rfl (by wtm_at "d.lt")
end
theorem take_ok (f : List Int) (m : Int) (h1 : 0 < f.length ∧ f.length ≤ 2) (h2 : 0 < m) : 0 ≤ (m_law_take f m).1 ∧ (m_law_take f m).1 < m ∧ 0 < (m_law_take f m).2.length ∧ (m_law_take f m).2.length ≤ 2 := by
  unfold m_law_take
  simp only [letF, joinF]
  split
  · rename_i h
    simp only [Bool.and_eq_true, decide_eq_true_eq] at h
    refine ⟨Int.emod_nonneg _ (by omega), Int.emod_lt_of_pos _ h2, ?_⟩
    rw [List.length_set]
    have := erase_len (l := f) (i := (0 : Int).toNat) (by show 0 < f.length; omega)
    omega
  · refine ⟨Int.emod_nonneg _ (by omega), Int.emod_lt_of_pos _ h2, ?_⟩
    rw [List.length_set]
    omega
def AnsOk : Ans → Prop
  | .vals _ => True
  | .ring ts => ts.length < 64
local macro_rules | `(tactic| wtm_at "g.pre") => `(tactic| exact ‹AnsOk (Ans.ring _)›)
def m_law_tie (answer_0 : (Int × Int × Int)) : Bool := (decide ((((([answer_0.1, answer_0.2.1, answer_0.2.2] : List Int).filter fun y_1 => (true && (!false))).map fun y_1 => y_1).length : Int) = 3))
section
variable {P : Program} {w : World} {K : PySem.W.Frag} {mg : Str → Option Value} {base : Heap}
inductive Sp_law_tie : Spec
  | mk {answer_0 : (Int × Int × Int)}  : Sp_law_tie [.val (.tuple [(.int answer_0.1), (.int answer_0.2.1), (.int answer_0.2.2)])] [] (.val (.bool (m_law_tie answer_0))) []
theorem cal_law_tie (D : DefAt K mg "_law_tie" s__law_tie P__law_tie) (z_bool : mg "bool" = none) (z_int : mg "int" = none) (z_isinstance : mg "isinstance" = none) (z_len : mg "len" = none) (z_tuple : mg "tuple" = none) : Cal P w K mg base 1 "_law_tie" 1 Sp_law_tie := by
  refine cal_def D sc__law_tie tb__law_tie (fun f cdv A outer s0 H E hr T TL svs cs sv cs1 hsp hl => ?_)
  cases hsp with
  | @mk answer_0  =>
  obtain ⟨R0, h⟩ : ∃ R0, (m_law_tie answer_0) = R0 := ⟨_, rfl⟩
  rw [h]
  unfold m_law_tie at h
  show SX _ _ _ [some (.val (.tuple [(.int answer_0.1), (.int answer_0.2.1), (.int answer_0.2.2)])), none] [] _
  refine sx_cons (s1_if (tv_w (wv_or (tv_not (tv_val (ev_is (t := .val (.bool true)) (ev_isTup z_isinstance rfl (ev_name T rfl Lk.here rfl) z_tuple rfl) rfl))) (fun hk1 => (by
    have hk1x := hk1
    try simp only [Bool.and_eq_true, Bool.or_eq_true, Bool.and_eq_false_iff, Bool.or_eq_false_iff, decide_eq_true_eq, decide_eq_false_iff_not, Bool.not_eq_true', Bool.not_eq_false', Bool.not_eq_eq_eq_not, Bool.not_true, Bool.not_false] at hk1x
    exact (wv_or1 (tv_neI (ev_is (t := .val (.int 3)) (ev_len z_len rfl (ev_name T rfl Lk.here rfl) (rc_lenT)) rfl) ev_int)))))) (fun z => absurd z (by decide)) (fun _ => ?_))
  refine sx_nil ?_
  show SX _ _ _ _ _ _
  have fl6 := List.length_filter_le (fun y_1 => (true && (!false))) ([answer_0.1, answer_0.2.1, answer_0.2.2] : List Int)
  refine sx_cons (s1_ret (ev_eqI (ev_is (t := .val (.int (((([answer_0.1, answer_0.2.1, answer_0.2.2] : List Int).filter fun y_1 => (true && (!false))).map fun y_1 => y_1).length : Int))) (ev_len z_len rfl (ev_LC rfl T.nd (blkOk_by (N := N__law_tie) (sc := defScope s__law_tie) (by decide +kernel)) (lc_as (es := ((([answer_0.1, answer_0.2.1, answer_0.2.2] : List Int).filter fun y_1 => (true && (!false))).map fun y_1 => y_1).map PyData.int) (lc_F (own := [("_law_part", 1)]) ([answer_0.1, answer_0.2.1, answer_0.2.2] : List Int) (fun x => SV.val (PyData.int x)) (by exact (iv_mapC (iv_tup (ds := ([answer_0.1, answer_0.2.1, answer_0.2.2] : List Int).map PyData.int) (ev_name T rfl Lk.here rfl)))) (fun y_1 => (true && (!false))) (fun y_1 => (.int y_1)) (fun y_1 => [some (.val (.tuple [(.int answer_0.1), (.int answer_0.2.1), (.int answer_0.2.2)])), some (.val (.int y_1))]) (fun _ => []) (by wtm_at "g.sd") (by first | exact trivial | rfl) (fun y_1 hm4 st H0 C0 cl fp => gw_name T.nd rfl (Put.there Put.here) (by decide) ⟨rfl, rfl⟩) (fun y_1 hm4 st H0 C0 cl fp => (by

      exact (tv_w (wv_and (tv_val (ev_is (t := .val (.bool true)) (ev_isInt z_isinstance rfl (ev_nameV T.nd rfl (Lk.there Lk.here)) z_int rfl) rfl)) (fun hk3 => (by
      have hk3x := hk3
      try simp only [Bool.and_eq_true, Bool.or_eq_true, Bool.and_eq_false_iff, Bool.or_eq_false_iff, decide_eq_true_eq, decide_eq_false_iff_not, Bool.not_eq_true', Bool.not_eq_false', Bool.not_eq_eq_eq_not, Bool.not_true, Bool.not_false] at hk3x
      exact (wv_and1 (tv_not (tv_val (ev_is (t := .val (.bool false)) (ev_isBool z_isinstance rfl (ev_nameV T.nd rfl (Lk.there Lk.here)) z_bool rfl) rfl)))))))))) (fun y_1 hm4 hq5 => ⟨fun st H0 C0 cl fp => (by
      have hq5x := hq5
      try simp only [Bool.and_eq_true, Bool.or_eq_true, Bool.and_eq_false_iff, Bool.or_eq_false_iff, decide_eq_true_eq, decide_eq_false_iff_not, Bool.not_eq_true', Bool.not_eq_false', Bool.not_eq_eq_eq_not, Bool.not_true, Bool.not_false] at hq5x
      exact (ev_nameV T.nd rfl (Lk.there Lk.here))), AtC.same⟩)) (by rw [List.map_map]; rfl) rfl)) (rc_lenLv)) (by simp only [List.length_map])) ev_int) ?_)
  show RetOk _ _ _ _ _
  subst h
  exact ret_val rfl rfl rfl (by wtm_at "d.lt")
end
def m_law_values (answer_0 : (List Int)) (count_0 : Int) (ties_here_0 : (List (Int × Int × Int))) : Bool := if ((!true) || ((!decide ((answer_0.length : Int) = count_0)) || (!decide ((ixD answer_0 0) = 0)))) then false else forL (fun (x_3 : Int) (s_5 : (Unit)) n_1 => n_1 (())) (fun s_5 : (Unit) => forL (fun (x_8 : (Int × Int × Int)) (s_10 : (Unit)) n_2 => if (decide (x_8.2.2 < ((ixD answer_0 x_8.1) - (ixD answer_0 x_8.2.1)))) then false else n_2 (())) (fun s_10 : (Unit) => true) ties_here_0 (())) answer_0 (())
section
variable {P : Program} {w : World} {K : PySem.W.Frag} {mg : Str → Option Value} {base : Heap}
inductive Sp_law_values : Spec
  | mk {answer_0 : (List Int)} {count_0 : Int} {ties_here_0 : (List (Int × Int × Int))} (hc : 0 < count_0) (ht : ∀ t ∈ ties_here_0, 0 ≤ t.1 ∧ t.1 < (count_0 : Int) ∧ 0 ≤ t.2.1 ∧ t.2.1 < (count_0 : Int)) : Sp_law_values [.cell 0, .val (.int count_0), .cell 1] [(.lst ((answer_0.map PyData.int).map SV.val)), (.lst ((ties_here_0.map e_tup_int_int_int).map SV.val))] (.val (.bool (m_law_values answer_0 count_0 ties_here_0))) [(.lst ((answer_0.map PyData.int).map SV.val)), (.lst ((ties_here_0.map e_tup_int_int_int).map SV.val))]
theorem cal_law_values (D : DefAt K mg "_law_values" s__law_values P__law_values) (z_bool : mg "bool" = none) (z_int : mg "int" = none) (z_isinstance : mg "isinstance" = none) (z_len : mg "len" = none) (z_list : mg "list" = none) : Cal P w K mg base 1 "_law_values" 3 Sp_law_values := by
  refine cal_def D sc__law_values tb__law_values (fun f cdv A outer s0 H E hr T TL svs cs sv cs1 hsp hl => ?_)
  cases hsp with
  | @mk answer_0 count_0 ties_here_0 hc ht =>
  obtain ⟨R0, h⟩ : ∃ R0, (m_law_values answer_0 count_0 ties_here_0) = R0 := ⟨_, rfl⟩
  rw [h]
  unfold m_law_values at h
  show SX _ _ _ [some (.cell 0), some (.val (.int count_0)), some (.cell 1), none, none, none, none] [(.lst ((answer_0.map PyData.int).map SV.val)), (.lst ((ties_here_0.map e_tup_int_int_int).map SV.val))] _
  refine' sx_cons (s1_if (tv_w (wv_or (tv_not (tv_val (ev_isiC (T' := "list") (ty := "list") (k := true) z_isinstance rfl (ev_name T rfl Lk.here rfl) (Kind.cell rfl rfl) z_list rfl (by decide +kernel) (kit_ty (by decide +kernel))))) (fun hk1 => (by
    have hk1x := hk1
    try simp only [Bool.and_eq_true, Bool.or_eq_true, Bool.and_eq_false_iff, Bool.or_eq_false_iff, decide_eq_true_eq, decide_eq_false_iff_not, Bool.not_eq_true', Bool.not_eq_false', Bool.not_eq_eq_eq_not, Bool.not_true, Bool.not_false] at hk1x
    exact (wv_or (tv_neI (ev_is (t := .val (.int (answer_0.length : Int))) (ev_len z_len rfl (ev_name T rfl Lk.here rfl) (rc_lenL (IsL.cell rfl))) (by simp only [List.length_map])) (ev_name T rfl (Lk.there Lk.here) rfl)) (fun hk2 => (by
      have hk2x := hk2
      try simp only [Bool.and_eq_true, Bool.or_eq_true, Bool.and_eq_false_iff, Bool.or_eq_false_iff, decide_eq_true_eq, decide_eq_false_iff_not, Bool.not_eq_true', Bool.not_eq_false', Bool.not_eq_eq_eq_not, Bool.not_true, Bool.not_false] at hk2x
      have at3 : L2.atI (answer_0.map PyData.int) 0 = some (PyData.int (ixD answer_0 0)) := at_ixD (f := PyData.int) (by wtm_at "g.sd") (by wtm_at "g.sd")
      exact (wv_or1 (tv_neI (ev_ixL (ev_name T rfl Lk.here rfl) ev_int (IsL.cell rfl) (atI_map at3)) ev_int))))))))) ?y5 ?n5)
  case y5 =>
    intro hb4
    have hb4x := hb4
    try simp only [Bool.and_eq_true, Bool.or_eq_true, Bool.and_eq_false_iff, Bool.or_eq_false_iff, decide_eq_true_eq, decide_eq_false_iff_not, Bool.not_eq_true', Bool.not_eq_false', Bool.not_eq_eq_eq_not, Bool.not_true, Bool.not_false] at hb4x
    rw [if_pos hb4] at h
    refine sx_cons (s1_ret ev_bool ?_)
    show RetOk _ _ _ _ _
    subst h
    exact ret_val rfl rfl rfl (by wtm_at "d.lt")
  case n5 =>
    intro hb4
    have hb4x := hb4
    try simp only [Bool.and_eq_true, Bool.or_eq_true, Bool.and_eq_false_iff, Bool.or_eq_false_iff, decide_eq_true_eq, decide_eq_false_iff_not, Bool.not_eq_true', Bool.not_eq_false', Bool.not_eq_eq_eq_not, Bool.not_true, Bool.not_false] at hb4x
    rw [if_neg (by rw [hb4]; decide)] at h
    refine sx_nil ?_
    show SX _ _ _ _ _ _
    refine' sx_cons ?lp7
    refine' s1_forK answer_0 (fun x => SV.val (PyData.int x)) _ _ R0 (()) (fun l_1 (s_5 : (Unit)) => True) h PassesOwn.never rfl (iv_mapC (iv_cell (ev_name T rfl Lk.here rfl) rfl)) ?j07 (fun s_5 : (Unit) => [some (.cell 0), some (.val (.int count_0)), some (.cell 1), none, none, none, none]) (fun s_5 : (Unit) => [(.lst ((answer_0.map PyData.int).map SV.val)), (.lst ((ties_here_0.map e_tup_int_int_int).map SV.val))]) (Le.same (Le.same (Le.same (Le.lose (Le.lose (Le.lose (Le.lose Le.nil))))))) rfl (by intro _; rfl) ?tu7 ?dn7
    case j07 => trivial
    case tu7 =>
      clear h
      rintro x_3 l_1 u_4 n_1 hm6 hJ1 h
      have hm6 := mem_mid hm6
      try dsimp only at h hJ1
      refine gx_name TL rfl (Put.there (Put.there (Put.there Put.here))) ?_ rfl
      show SX _ _ _ [some (.cell 0), some (.val (.int count_0)), some (.cell 1), some (.val (.int x_3)), none, none, none] [(.lst ((answer_0.map PyData.int).map SV.val)), (.lst ((ties_here_0.map e_tup_int_int_int).map SV.val))] _
      refine sx_cons (s1_if (tv_w (wv_or (tv_not (tv_val (ev_is (t := .val (.bool true)) (ev_isInt z_isinstance rfl (ev_name T rfl (Lk.there (Lk.there (Lk.there Lk.here))) rfl) z_int rfl) rfl))) (fun hk8 => (by
        have hk8x := hk8
        try simp only [Bool.and_eq_true, Bool.or_eq_true, Bool.and_eq_false_iff, Bool.or_eq_false_iff, decide_eq_true_eq, decide_eq_false_iff_not, Bool.not_eq_true', Bool.not_eq_false', Bool.not_eq_eq_eq_not, Bool.not_true, Bool.not_false] at hk8x
        exact (wv_or1 (tv_val (ev_is (t := .val (.bool false)) (ev_isBool z_isinstance rfl (ev_name T rfl (Lk.there (Lk.there (Lk.there Lk.here))) rfl) z_bool rfl) rfl))))))) (fun z => absurd z (by decide)) (fun _ => ?_))
      refine sx_nil ?_
      show SX _ _ _ _ _ _
      refine sx_nil ?_
      exact ⟨(()), h, trivial, (At.same (Le.same (Le.same (Le.same (Le.lose (Le.lose (Le.lose (Le.lose Le.nil))))))))⟩
    case dn7 =>
      clear h
      rintro u_4 hJ1 h slx hlx
      try dsimp only at h hJ1
      refine sx_weak hlx ?_
      show SX _ _ _ [some (.cell 0), some (.val (.int count_0)), some (.cell 1), none, none, none, none] [(.lst ((answer_0.map PyData.int).map SV.val)), (.lst ((ties_here_0.map e_tup_int_int_int).map SV.val))] _
      refine' sx_cons ?lp11
      refine' s1_forK ties_here_0 (fun x => SV.val (e_tup_int_int_int x)) _ _ R0 (()) (fun l_2 (s_10 : (Unit)) => True) h PassesOwn.never rfl (iv_mapC (iv_cell (ev_name T rfl (Lk.there (Lk.there Lk.here)) rfl) rfl)) ?j011 (fun s_10 : (Unit) => [some (.cell 0), some (.val (.int count_0)), some (.cell 1), none, none, none, none]) (fun s_10 : (Unit) => [(.lst ((answer_0.map PyData.int).map SV.val)), (.lst ((ties_here_0.map e_tup_int_int_int).map SV.val))]) (Le.same (Le.same (Le.same (Le.lose (Le.lose (Le.lose (Le.lose Le.nil))))))) rfl (by intro _; rfl) ?tu11 ?dn11
      case j011 => trivial
      case tu11 =>
        clear h
        rintro x_8 l_2 u_9 n_2 hm10 hJ2 h
        have hm10 := mem_mid hm10
        have hm10r := ht x_8 hm10
        try dsimp only at h hJ2
        refine gx_tup rfl (gxs_cons (gx_name TL rfl (Put.there (Put.there (Put.there (Put.there Put.here)))) (gxs_cons (gx_name TL rfl (Put.there (Put.there (Put.there (Put.there (Put.there Put.here))))) (gxs_cons (gx_name TL rfl (Put.there (Put.there (Put.there (Put.there (Put.there (Put.there Put.here)))))) (gxs_nil ?_) rfl)) rfl)) rfl)) rfl
        show SX _ _ _ [some (.cell 0), some (.val (.int count_0)), some (.cell 1), none, some (.val (.int x_8.1)), some (.val (.int x_8.2.1)), some (.val (.int x_8.2.2))] [(.lst ((answer_0.map PyData.int).map SV.val)), (.lst ((ties_here_0.map e_tup_int_int_int).map SV.val))] _
        have at12 : L2.atI (answer_0.map PyData.int) x_8.1 = some (PyData.int (ixD answer_0 x_8.1)) := at_ixD (f := PyData.int) (by wtm_at "g.sd") (by wtm_at "g.sd")
        have at13 : L2.atI (answer_0.map PyData.int) x_8.2.1 = some (PyData.int (ixD answer_0 x_8.2.1)) := at_ixD (f := PyData.int) (by wtm_at "g.sd") (by wtm_at "g.sd")
        refine' sx_cons (s1_if (tv_gt (ev_sub (ev_ixL (ev_name T rfl Lk.here rfl) (ev_name T rfl (Lk.there (Lk.there (Lk.there (Lk.there Lk.here)))) rfl) (IsL.cell rfl) (atI_map at12)) (ev_ixL (ev_name T rfl Lk.here rfl) (ev_name T rfl (Lk.there (Lk.there (Lk.there (Lk.there (Lk.there Lk.here))))) rfl) (IsL.cell rfl) (atI_map at13))) (ev_name T rfl (Lk.there (Lk.there (Lk.there (Lk.there (Lk.there (Lk.there Lk.here)))))) rfl)) ?y15 ?n15)
        case y15 =>
          intro hb14
          have hb14x := hb14
          try simp only [Bool.and_eq_true, Bool.or_eq_true, Bool.and_eq_false_iff, Bool.or_eq_false_iff, decide_eq_true_eq, decide_eq_false_iff_not, Bool.not_eq_true', Bool.not_eq_false', Bool.not_eq_eq_eq_not, Bool.not_true, Bool.not_false] at hb14x
          rw [if_pos hb14] at h
          refine sx_cons (s1_ret ev_bool ?_)
          show RetOk _ _ _ _ _
          subst h
          exact ret_val rfl rfl rfl (by wtm_at "d.lt")
        case n15 =>
          intro hb14
          have hb14x := hb14
          try simp only [Bool.and_eq_true, Bool.or_eq_true, Bool.and_eq_false_iff, Bool.or_eq_false_iff, decide_eq_true_eq, decide_eq_false_iff_not, Bool.not_eq_true', Bool.not_eq_false', Bool.not_eq_eq_eq_not, Bool.not_true, Bool.not_false] at hb14x
          rw [if_neg (by rw [hb14]; decide)] at h
          refine sx_nil ?_
          show SX _ _ _ _ _ _
          refine sx_nil ?_
          exact ⟨(()), h, trivial, (At.same (Le.same (Le.same (Le.same (Le.lose (Le.lose (Le.lose (Le.lose Le.nil))))))))⟩
      case dn11 =>
        clear h
        rintro u_9 hJ2 h slx hlx
        try dsimp only at h hJ2
        refine sx_weak hlx ?_
        show SX _ _ _ [some (.cell 0), some (.val (.int count_0)), some (.cell 1), none, none, none, none] [(.lst ((answer_0.map PyData.int).map SV.val)), (.lst ((ties_here_0.map e_tup_int_int_int).map SV.val))] _
        refine sx_cons (s1_ret ev_bool ?_)
        show RetOk _ _ _ _ _
        subst h
        exact ret_val rfl rfl rfl (by wtm_at "d.lt")
end
def m_law_ring (answer_0 : (List (Int × Int × Int))) (ties_here_0 : (List (Int × Int × Int))) : Bool := if ((!true) || ((decide ((answer_0.length : Int) = 0)) || (!decide (((nubL answer_0).length : Int) = (answer_0.length : Int))))) then false else forL (fun (x_4 : Nat) (s_5 : (Int)) n_1 => letF (ixD answer_0 (x_4 : Int)) fun tie_here_6 => if ((!(m_law_tie tie_here_6)) || ((!memB tie_here_6 ties_here_0) || (!decide (tie_here_6.2.1 = (ixD answer_0 (((x_4 : Int) + 1) % (answer_0.length : Int))).1)))) then false else letF (s_5 + tie_here_6.2.2) fun total_7 => n_1 (total_7)) (fun s_5 : (Int) => (decide (s_5 < 0))) (List.range ((answer_0.length : Int) : Int).toNat) (0)
section
variable {P : Program} {w : World} {K : PySem.W.Frag} {mg : Str → Option Value} {base : Heap}
inductive Sp_law_ring : Spec
  | mk {answer_0 : (List (Int × Int × Int))} {ties_here_0 : (List (Int × Int × Int))} (hz : answer_0.length < 64) : Sp_law_ring [.cell 0, .cell 1] [(.lst ((answer_0.map e_tup_int_int_int).map SV.val)), (.lst ((ties_here_0.map e_tup_int_int_int).map SV.val))] (.val (.bool (m_law_ring answer_0 ties_here_0))) [(.lst ((answer_0.map e_tup_int_int_int).map SV.val)), (.lst ((ties_here_0.map e_tup_int_int_int).map SV.val))]
theorem cal_law_ring (D : DefAt K mg "_law_ring" s__law_ring P__law_ring) (C_law_tie : Cal P w K mg base 1 "_law_tie" 1 Sp_law_tie) (z_isinstance : mg "isinstance" = none) (z_len : mg "len" = none) (z_list : mg "list" = none) (z_range : mg "range" = none) (z_set : mg "set" = none) : Cal P w K mg base 2 "_law_ring" 2 Sp_law_ring := by
  refine cal_def D sc__law_ring tb__law_ring (fun f cdv A outer s0 H E hr T TL svs cs sv cs1 hsp hl => ?_)
  cases hsp with
  | @mk answer_0 ties_here_0 hz =>
  obtain ⟨R0, h⟩ : ∃ R0, (m_law_ring answer_0 ties_here_0) = R0 := ⟨_, rfl⟩
  rw [h]
  unfold m_law_ring at h
  show SX _ _ _ [some (.cell 0), some (.cell 1), none, none, none] [(.lst ((answer_0.map e_tup_int_int_int).map SV.val)), (.lst ((ties_here_0.map e_tup_int_int_int).map SV.val))] _
  refine' sx_cons (s1_if (tv_w (wv_or (tv_not (tv_val (ev_isiC (T' := "list") (ty := "list") (k := true) z_isinstance rfl (ev_name T rfl Lk.here rfl) (Kind.cell rfl rfl) z_list rfl (by decide +kernel) (kit_ty (by decide +kernel))))) (fun hk1 => (by
    have hk1x := hk1
    try simp only [Bool.and_eq_true, Bool.or_eq_true, Bool.and_eq_false_iff, Bool.or_eq_false_iff, decide_eq_true_eq, decide_eq_false_iff_not, Bool.not_eq_true', Bool.not_eq_false', Bool.not_eq_eq_eq_not, Bool.not_true, Bool.not_false] at hk1x
    exact (wv_or (tv_eqI (ev_is (t := .val (.int (answer_0.length : Int))) (ev_len z_len rfl (ev_name T rfl Lk.here rfl) (rc_lenL (IsL.cell rfl))) (by simp only [List.length_map])) ev_int) (fun hk2 => (by
      have hk2x := hk2
      try simp only [Bool.and_eq_true, Bool.or_eq_true, Bool.and_eq_false_iff, Bool.or_eq_false_iff, decide_eq_true_eq, decide_eq_false_iff_not, Bool.not_eq_true', Bool.not_eq_false', Bool.not_eq_eq_eq_not, Bool.not_true, Bool.not_false] at hk2x
      exact (wv_or1 (tv_neI (ev_lenSet (l := answer_0) hr z_len z_set (ev_name T rfl Lk.here rfl) (IsL.cell rfl) (by wtm_at "g.sd")) (ev_is (t := .val (.int (answer_0.length : Int))) (ev_len z_len rfl (ev_name T rfl Lk.here rfl) (rc_lenL (IsL.cell rfl))) (by simp only [List.length_map]))))))))))) ?y4 ?n4)
  case y4 =>
    intro hb3
    have hb3x := hb3
    try simp only [Bool.and_eq_true, Bool.or_eq_true, Bool.and_eq_false_iff, Bool.or_eq_false_iff, decide_eq_true_eq, decide_eq_false_iff_not, Bool.not_eq_true', Bool.not_eq_false', Bool.not_eq_eq_eq_not, Bool.not_true, Bool.not_false] at hb3x
    rw [if_pos hb3] at h
    refine sx_cons (s1_ret ev_bool ?_)
    show RetOk _ _ _ _ _
    subst h
    exact ret_val rfl rfl rfl (by wtm_at "d.lt")
  case n4 =>
    intro hb3
    have hb3x := hb3
    try simp only [Bool.and_eq_true, Bool.or_eq_true, Bool.and_eq_false_iff, Bool.or_eq_false_iff, decide_eq_true_eq, decide_eq_false_iff_not, Bool.not_eq_true', Bool.not_eq_false', Bool.not_eq_eq_eq_not, Bool.not_true, Bool.not_false] at hb3x
    rw [if_neg (by rw [hb3]; decide)] at h
    refine sx_nil ?_
    show SX _ _ _ _ _ _
    refine sx_cons (s1_set TL rfl ev_int (Put.there (Put.there Put.here)) ?_ rfl)
    show SX _ _ _ _ _ _
    refine' sx_cons ?lp6
    refine' s1_forK (List.range ((answer_0.length : Int) : Int).toNat) (fun i : Nat => SV.val (.int (i : Int))) _ _ R0 (0) (fun l_1 (s_5 : (Int)) => True) h PassesOwn.never rfl (iv_range1 z_range rfl (ev_is (t := .val (.int (answer_0.length : Int))) (ev_len z_len rfl (ev_name T rfl Lk.here rfl) (rc_lenL (IsL.cell rfl))) (by simp only [List.length_map])) (by wtm_at "g.sd") (by wtm_at "g.sd")) ?j06 (fun s_5 : (Int) => [some (.cell 0), some (.cell 1), some (.val (.int s_5)), none, none]) (fun s_5 : (Int) => [(.lst ((answer_0.map e_tup_int_int_int).map SV.val)), (.lst ((ties_here_0.map e_tup_int_int_int).map SV.val))]) (Le.same (Le.same (Le.same (Le.lose (Le.lose Le.nil))))) rfl (fun _ => trivial) ?tu6 ?dn6
    case j06 => trivial
    case tu6 =>
      clear h
      rintro x_4 l_1 total_1 n_1 hm5 hJ1 h
      have hm5 := mem_mid hm5
      have hm5r := List.mem_range.mp hm5
      try dsimp only at h hJ1
      refine gx_name TL rfl (Put.there (Put.there (Put.there Put.here))) ?_ rfl
      show SX _ _ _ [some (.cell 0), some (.cell 1), some (.val (.int total_1)), some (.val (.int (x_4 : Int))), none] [(.lst ((answer_0.map e_tup_int_int_int).map SV.val)), (.lst ((ties_here_0.map e_tup_int_int_int).map SV.val))] _
      replace h := letF_elim h
      obtain ⟨tie_here_6, etie_here_6, h⟩ := h
      have at7 : L2.atI (answer_0.map e_tup_int_int_int) (x_4 : Int) = some (e_tup_int_int_int (ixD answer_0 (x_4 : Int))) := at_ixD (f := e_tup_int_int_int) (by wtm_at "g.sd") (by wtm_at "g.sd")
      refine sx_cons (s1_set TL rfl (ev_is (t := .val (.tuple [(.int tie_here_6.1), (.int tie_here_6.2.1), (.int tie_here_6.2.2)])) (ev_ixL (ev_name T rfl Lk.here rfl) (ev_name T rfl (Lk.there (Lk.there (Lk.there Lk.here))) rfl) (IsL.cell rfl) (atI_map at7)) (by subst etie_here_6; rfl)) (Put.there (Put.there (Put.there (Put.there Put.here)))) ?_ rfl)
      show SX _ _ _ _ _ _
      refine' sx_cons (s1_if (tv_w (wv_or (tv_not (tv_val (ev_callM (κ := []) C_law_tie hr (by decide) rfl (av_cons (ev_name T rfl (Lk.there (Lk.there (Lk.there (Lk.there Lk.here)))) rfl) av_nil) Sel.nil (RenA.val RenA.nil) (Sp_law_tie.mk (answer_0 := tie_here_6) ) SetA.nil (List.prefix_refl _) rfl (by decide) rfl))) (fun hk8 => (by
        have hk8x := hk8
        try simp only [Bool.and_eq_true, Bool.or_eq_true, Bool.and_eq_false_iff, Bool.or_eq_false_iff, decide_eq_true_eq, decide_eq_false_iff_not, Bool.not_eq_true', Bool.not_eq_false', Bool.not_eq_eq_eq_not, Bool.not_true, Bool.not_false] at hk8x
        exact (wv_or (tv_is (l := (!memB tie_here_6 ties_here_0)) (tv_ninMC (f := e_tup_int_int_int) (y := tie_here_6) (l := ties_here_0) hr (ev_name T rfl (Lk.there (Lk.there (Lk.there (Lk.there Lk.here)))) rfl) (ev_name T rfl (Lk.there Lk.here) rfl) rfl eqv_tie (dk_shaped (n := 1) (dk_tie _) (by decide)) (dk_list (n := 1) (by decide) dk_tie _)) (by first | rfl | (unfold memB; congr))) (fun hk9 => (by
          have hk9x := hk9
          try simp only [Bool.and_eq_true, Bool.or_eq_true, Bool.and_eq_false_iff, Bool.or_eq_false_iff, decide_eq_true_eq, decide_eq_false_iff_not, Bool.not_eq_true', Bool.not_eq_false', Bool.not_eq_eq_eq_not, Bool.not_true, Bool.not_false] at hk9x
          have md10 := emod_bd (((x_4 : Int) + 1)) (m := (answer_0.length : Int)) (by wtm_at "g.sd")
          have at11 : L2.atI (answer_0.map e_tup_int_int_int) (((x_4 : Int) + 1) % (answer_0.length : Int)) = some (e_tup_int_int_int (ixD answer_0 (((x_4 : Int) + 1) % (answer_0.length : Int)))) := at_ixD (f := e_tup_int_int_int) (by wtm_at "g.sd") (by wtm_at "g.sd")
          exact (wv_or1 (tv_neI (ev_ixT (ev_name T rfl (Lk.there (Lk.there (Lk.there (Lk.there Lk.here)))) rfl) ev_int rfl) (ev_ixT (ev_ixL (ev_name T rfl Lk.here rfl) (ev_mod (ev_add (ev_name T rfl (Lk.there (Lk.there (Lk.there Lk.here))) rfl) ev_int) (ev_is (t := .val (.int (answer_0.length : Int))) (ev_len z_len rfl (ev_name T rfl Lk.here rfl) (rc_lenL (IsL.cell rfl))) (by simp only [List.length_map])) (by wtm_at "d.side")) (IsL.cell rfl) (atI_map at11)) ev_int rfl)))))))))) ?y13 ?n13)
      case y13 =>
        intro hb12
        have hb12x := hb12
        try simp only [Bool.and_eq_true, Bool.or_eq_true, Bool.and_eq_false_iff, Bool.or_eq_false_iff, decide_eq_true_eq, decide_eq_false_iff_not, Bool.not_eq_true', Bool.not_eq_false', Bool.not_eq_eq_eq_not, Bool.not_true, Bool.not_false] at hb12x
        rw [if_pos hb12] at h
        refine sx_cons (s1_ret ev_bool ?_)
        show RetOk _ _ _ _ _
        subst h
        exact ret_val rfl rfl rfl (by wtm_at "d.lt")
      case n13 =>
        intro hb12
        have hb12x := hb12
        try simp only [Bool.and_eq_true, Bool.or_eq_true, Bool.and_eq_false_iff, Bool.or_eq_false_iff, decide_eq_true_eq, decide_eq_false_iff_not, Bool.not_eq_true', Bool.not_eq_false', Bool.not_eq_eq_eq_not, Bool.not_true, Bool.not_false] at hb12x
        rw [if_neg (by rw [hb12]; decide)] at h
        refine sx_nil ?_
        show SX _ _ _ _ _ _
        replace h := letF_elim h
        obtain ⟨total_7, etotal_7, h⟩ := h
        refine sx_cons (s1_set TL rfl (ev_is (t := .val (.int total_7)) (ev_add (ev_name T rfl (Lk.there (Lk.there Lk.here)) rfl) (ev_ixT (ev_name T rfl (Lk.there (Lk.there (Lk.there (Lk.there Lk.here)))) rfl) ev_int rfl)) (by subst etotal_7; rfl)) (Put.there (Put.there Put.here)) ?_ rfl)
        show SX _ _ _ _ _ _
        refine sx_nil ?_
        exact ⟨(total_7), h, trivial, (At.same (Le.same (Le.same (Le.same (Le.lose (Le.lose Le.nil))))))⟩
    case dn6 =>
      clear h
      rintro total_1 hJ1 h slx hlx
      try dsimp only at h hJ1
      refine sx_weak hlx ?_
      show SX _ _ _ [some (.cell 0), some (.cell 1), some (.val (.int total_1)), none, none] [(.lst ((answer_0.map e_tup_int_int_int).map SV.val)), (.lst ((ties_here_0.map e_tup_int_int_int).map SV.val))] _
      refine sx_cons (s1_ret (ev_lt (ev_name T rfl (Lk.there (Lk.there Lk.here)) rfl) ev_int) ?_)
      show RetOk _ _ _ _ _
      subst h
      exact ret_val rfl rfl rfl (by wtm_at "d.lt")
end
def m_law_good (answer_0 : Ans) (count_0 : Int) (ties_here_0 : (List (Int × Int × Int))) (due_0 : Str) : Bool := match answer_0 with
  | .vals xs => if ((!true) || ((!decide ((2 : Int) = 2)) || (!memB due_0 ([("" : Str), ("values" : Str)] : (List Str))))) then false else letF (m_law_values xs count_0 ties_here_0) fun r_1 => r_1
  | .ring ts => if ((!true) || ((!decide ((2 : Int) = 2)) || (!memB due_0 ([("" : Str), ("ring" : Str)] : (List Str))))) then false else ((decide ((("ring" : Str) : Str) = ("ring" : Str))) && (m_law_ring ts ties_here_0))
section
variable {P : Program} {w : World} {K : PySem.W.Frag} {mg : Str → Option Value} {base : Heap}
inductive Sp_law_good : Spec
  | mk {answer_0 : Ans} {count_0 : Int} {ties_here_0 : (List (Int × Int × Int))} {due_0 : Str} (hc : 0 < count_0) (ht : ∀ t ∈ ties_here_0, 0 ≤ t.1 ∧ t.1 < (count_0 : Int) ∧ 0 ≤ t.2.1 ∧ t.2.1 < (count_0 : Int)) (hz : AnsOk answer_0) (hd : PyData.strOk due_0 = true) : Sp_law_good [.cell 0, .val (.int count_0), .cell 2, .val (.str due_0)] [(.tup [.val (.str (Ans.word answer_0)), .cell 1]), (.lst ((Ans.items answer_0).map SV.val)), (.lst ((ties_here_0.map e_tup_int_int_int).map SV.val))] (.val (.bool (m_law_good answer_0 count_0 ties_here_0 due_0))) [(.tup [.val (.str (Ans.word answer_0)), .cell 1]), (.lst ((Ans.items answer_0).map SV.val)), (.lst ((ties_here_0.map e_tup_int_int_int).map SV.val))]
theorem cal_law_good (D : DefAt K mg "_law_good" s__law_good P__law_good) (C_law_values : Cal P w K mg base 1 "_law_values" 3 Sp_law_values) (C_law_ring : Cal P w K mg base 2 "_law_ring" 2 Sp_law_ring) (z_isinstance : mg "isinstance" = none) (z_len : mg "len" = none) (z_tuple : mg "tuple" = none) : Cal P w K mg base 3 "_law_good" 4 Sp_law_good := by
  refine cal_def D sc__law_good tb__law_good (fun f cdv A outer s0 H E hr T TL svs cs sv cs1 hsp hl => ?_)
  cases hsp with
  | @mk answer_0 count_0 ties_here_0 due_0 hc ht hz hd =>
  obtain ⟨R0, h⟩ : ∃ R0, (m_law_good answer_0 count_0 ties_here_0 due_0) = R0 := ⟨_, rfl⟩
  rw [h]
  unfold m_law_good at h
  cases answer_0
  case vals xs =>
    dsimp only at h
    show SX _ _ _ [some (.cell 0), some (.val (.int count_0)), some (.cell 2), some (.val (.str due_0))] [(.tup [.val (.str ("values" : Str)), .cell 1]), (.lst ((xs.map PyData.int).map SV.val)), (.lst ((ties_here_0.map e_tup_int_int_int).map SV.val))] _
    refine' sx_cons (s1_if (tv_w (wv_or (tv_not (tv_val (ev_isiC (T' := "tuple") (ty := "tuple") (k := true) z_isinstance rfl (ev_name T rfl Lk.here rfl) (Kind.cell rfl rfl) z_tuple rfl (by decide +kernel) (kit_ty (by decide +kernel))))) (fun hk1 => (by
      have hk1x := hk1
      try simp only [Bool.and_eq_true, Bool.or_eq_true, Bool.and_eq_false_iff, Bool.or_eq_false_iff, decide_eq_true_eq, decide_eq_false_iff_not, Bool.not_eq_true', Bool.not_eq_false', Bool.not_eq_eq_eq_not, Bool.not_true, Bool.not_false] at hk1x
      exact (wv_or (tv_neI (ev_is (t := .val (.int 2)) (ev_len z_len rfl (ev_name T rfl Lk.here rfl) (rc_lenC rfl)) rfl) ev_int) (fun hk2 => (by
        have hk2x := hk2
        try simp only [Bool.and_eq_true, Bool.or_eq_true, Bool.and_eq_false_iff, Bool.or_eq_false_iff, decide_eq_true_eq, decide_eq_false_iff_not, Bool.not_eq_true', Bool.not_eq_false', Bool.not_eq_eq_eq_not, Bool.not_true, Bool.not_false] at hk2x
        exact (wv_or1 (tv_is (l := (!memB due_0 ([("" : Str), ("values" : Str)] : (List Str)))) (tv_ninM (f := PyData.str) (y := due_0) (l := ([("" : Str), ("values" : Str)] : (List Str))) hr (ev_name T rfl (Lk.there (Lk.there (Lk.there Lk.here))) rfl) (ev_lstV (ad_cons ev_str (ad_cons (ev_ixC (ev_name T rfl Lk.here rfl) ev_int rfl rfl) ad_nil)) rfl) eqv_str (by wtm_at "g.shp") (by wtm_at "g.shp")) (by first | rfl | (unfold memB; congr))))))))))) ?y4 ?n4)
    case y4 =>
      intro hb3
      have hb3x := hb3
      try simp only [Bool.and_eq_true, Bool.or_eq_true, Bool.and_eq_false_iff, Bool.or_eq_false_iff, decide_eq_true_eq, decide_eq_false_iff_not, Bool.not_eq_true', Bool.not_eq_false', Bool.not_eq_eq_eq_not, Bool.not_true, Bool.not_false] at hb3x
      rw [if_pos hb3] at h
      refine sx_cons (s1_ret ev_bool ?_)
      show RetOk _ _ _ _ _
      subst h
      exact ret_val rfl rfl rfl (by wtm_at "d.lt")
    case n4 =>
      intro hb3
      have hb3x := hb3
      try simp only [Bool.and_eq_true, Bool.or_eq_true, Bool.and_eq_false_iff, Bool.or_eq_false_iff, decide_eq_true_eq, decide_eq_false_iff_not, Bool.not_eq_true', Bool.not_eq_false', Bool.not_eq_eq_eq_not, Bool.not_true, Bool.not_false] at hb3x
      rw [if_neg (by rw [hb3]; decide)] at h
      refine sx_nil ?_
      show SX _ _ _ _ _ _
      refine sx_cons (s1_if (tv_eqS (ev_ixC (ev_name T rfl Lk.here rfl) ev_int rfl rfl) ev_str) (fun _ => ?_) (fun z => absurd z (by decide)))
      replace h := letF_elim h
      obtain ⟨r_1, er_1, h⟩ := h
      refine sx_cons (s1_ret (ev_as (t := .val (.bool r_1)) (cs2 := [(.tup [.val (.str ("values" : Str)), .cell 1]), (.lst ((xs.map PyData.int).map SV.val)), (.lst ((ties_here_0.map e_tup_int_int_int).map SV.val))]) (ev_callM (κ := [1, 2]) C_law_values hr (by decide) rfl (av_cons (ev_ixC (ev_name T rfl Lk.here rfl) ev_int rfl rfl) (av_cons (ev_name T rfl (Lk.there Lk.here) rfl) (av_cons (ev_name T rfl (Lk.there (Lk.there Lk.here)) rfl) av_nil))) (Sel.cons rfl (by wtm_at "d.flat") (by intro z; cases z) (Sel.cons rfl (by wtm_at "d.flat") (by intro z; cases z) Sel.nil)) (RenA.cell rfl (RenA.val (RenA.cell rfl RenA.nil))) (Sp_law_values.mk (answer_0 := xs) (count_0 := count_0) (ties_here_0 := ties_here_0) (by wtm_at "g.pre") (by wtm_at "g.pre")) (SetA.cons (PutC.there PutC.here) (SetA.cons (PutC.there (PutC.there PutC.here)) SetA.nil)) (List.prefix_refl _) (by wtm_at "g.flat") (by decide) rfl) (by subst er_1; rfl) (by subst er_1; rfl)) ?_)
      show RetOk _ _ _ _ _
      subst h
      exact ret_val rfl rfl rfl (by wtm_at "d.lt")
  case ring ts =>
    dsimp only at h
    show SX _ _ _ [some (.cell 0), some (.val (.int count_0)), some (.cell 2), some (.val (.str due_0))] [(.tup [.val (.str ("ring" : Str)), .cell 1]), (.lst ((ts.map e_tup_int_int_int).map SV.val)), (.lst ((ties_here_0.map e_tup_int_int_int).map SV.val))] _
    refine' sx_cons (s1_if (tv_w (wv_or (tv_not (tv_val (ev_isiC (T' := "tuple") (ty := "tuple") (k := true) z_isinstance rfl (ev_name T rfl Lk.here rfl) (Kind.cell rfl rfl) z_tuple rfl (by decide +kernel) (kit_ty (by decide +kernel))))) (fun hk6 => (by
      have hk6x := hk6
      try simp only [Bool.and_eq_true, Bool.or_eq_true, Bool.and_eq_false_iff, Bool.or_eq_false_iff, decide_eq_true_eq, decide_eq_false_iff_not, Bool.not_eq_true', Bool.not_eq_false', Bool.not_eq_eq_eq_not, Bool.not_true, Bool.not_false] at hk6x
      exact (wv_or (tv_neI (ev_is (t := .val (.int 2)) (ev_len z_len rfl (ev_name T rfl Lk.here rfl) (rc_lenC rfl)) rfl) ev_int) (fun hk7 => (by
        have hk7x := hk7
        try simp only [Bool.and_eq_true, Bool.or_eq_true, Bool.and_eq_false_iff, Bool.or_eq_false_iff, decide_eq_true_eq, decide_eq_false_iff_not, Bool.not_eq_true', Bool.not_eq_false', Bool.not_eq_eq_eq_not, Bool.not_true, Bool.not_false] at hk7x
        exact (wv_or1 (tv_is (l := (!memB due_0 ([("" : Str), ("ring" : Str)] : (List Str)))) (tv_ninM (f := PyData.str) (y := due_0) (l := ([("" : Str), ("ring" : Str)] : (List Str))) hr (ev_name T rfl (Lk.there (Lk.there (Lk.there Lk.here))) rfl) (ev_lstV (ad_cons ev_str (ad_cons (ev_ixC (ev_name T rfl Lk.here rfl) ev_int rfl rfl) ad_nil)) rfl) eqv_str (by wtm_at "g.shp") (by wtm_at "g.shp")) (by first | rfl | (unfold memB; congr))))))))))) ?y9 ?n9)
    case y9 =>
      intro hb8
      have hb8x := hb8
      try simp only [Bool.and_eq_true, Bool.or_eq_true, Bool.and_eq_false_iff, Bool.or_eq_false_iff, decide_eq_true_eq, decide_eq_false_iff_not, Bool.not_eq_true', Bool.not_eq_false', Bool.not_eq_eq_eq_not, Bool.not_true, Bool.not_false] at hb8x
      rw [if_pos hb8] at h
      refine sx_cons (s1_ret ev_bool ?_)
      show RetOk _ _ _ _ _
      subst h
      exact ret_val rfl rfl rfl (by wtm_at "d.lt")
    case n9 =>
      intro hb8
      have hb8x := hb8
      try simp only [Bool.and_eq_true, Bool.or_eq_true, Bool.and_eq_false_iff, Bool.or_eq_false_iff, decide_eq_true_eq, decide_eq_false_iff_not, Bool.not_eq_true', Bool.not_eq_false', Bool.not_eq_eq_eq_not, Bool.not_true, Bool.not_false] at hb8x
      rw [if_neg (by rw [hb8]; decide)] at h
      refine sx_nil ?_
      show SX _ _ _ _ _ _
      refine sx_cons (s1_if (tv_eqS (ev_ixC (ev_name T rfl Lk.here rfl) ev_int rfl rfl) ev_str) (fun z => absurd z (by decide)) (fun _ => ?_))
      refine sx_nil ?_
      show SX _ _ _ _ _ _
      refine sx_cons (s1_ret (ev_and (ev_eqS (ev_ixC (ev_name T rfl Lk.here rfl) ev_int rfl rfl) ev_str) (fun hk11 => (by
        have hk11x := hk11
        try simp only [Bool.and_eq_true, Bool.or_eq_true, Bool.and_eq_false_iff, Bool.or_eq_false_iff, decide_eq_true_eq, decide_eq_false_iff_not, Bool.not_eq_true', Bool.not_eq_false', Bool.not_eq_eq_eq_not, Bool.not_true, Bool.not_false] at hk11x
        exact (ev_and1 (ev_callM (κ := [1, 2]) C_law_ring hr (by decide) rfl (av_cons (ev_ixC (ev_name T rfl Lk.here rfl) ev_int rfl rfl) (av_cons (ev_name T rfl (Lk.there (Lk.there Lk.here)) rfl) av_nil)) (Sel.cons rfl (by wtm_at "d.flat") (by intro z; cases z) (Sel.cons rfl (by wtm_at "d.flat") (by intro z; cases z) Sel.nil)) (RenA.cell rfl (RenA.cell rfl RenA.nil)) (Sp_law_ring.mk (answer_0 := ts) (ties_here_0 := ties_here_0) (by wtm_at "g.pre")) (SetA.cons (PutC.there PutC.here) (SetA.cons (PutC.there (PutC.there PutC.here)) SetA.nil)) (List.prefix_refl _) (by wtm_at "g.flat") (by decide) rfl))))) ?_)
      show RetOk _ _ _ _ _
      subst h
      exact ret_val rfl rfl rfl (by wtm_at "d.lt")
end
local macro_rules | `(tactic| wtm_at "d.mul") => `(tactic| first | exact bd_mul_small (Wb.bd (And.right (And.right ‹(0 : Int) ≤ _ ∧ _ ∧ Wb _ _›))) (by omega) | (subst_vars; exact bd_mul_small (by assumption) (by omega)) | (subst_vars; exact small_mul (by omega) (by omega)))
local macro_rules | `(tactic| wtm_at "g.inv") => `(tactic| first | exact ⟨by omega, by omega, Wb.start⟩ | (refine ⟨by omega, by omega, ?_⟩; subst_vars; exact Wb.step (And.right (And.right ‹(0 : Int) ≤ _ ∧ _ ∧ Wb _ _›)) (by omega) (by omega)))
def FeedOk : Option (List Int) → Nat → Nat → Prop
  | none, a, b => a = b
  | some f, _, _ => 0 < f.length ∧ f.length ≤ 2
theorem first_zero {n x : Nat} {l : List Nat} (h : ∃ pre, List.range n = pre ++ x :: l) (e : FeedOk none (x :: l).length (List.range n).length) : x = 0 := by
  obtain ⟨pre, h⟩ := h
  have e : (x :: l).length = (List.range n).length := e
  have hl : pre.length = 0 := by
    rw [h, List.length_append] at e
    omega
  have hp : pre = [] := List.eq_nil_of_length_eq_zero hl
  rw [hp, List.nil_append] at h
  have := congrArg (fun z : List Nat => z[0]?) h
  cases n with
  | zero => cases h
  | succ n =>
    rw [List.range_succ_eq_map] at h
    cases h
    rfl
theorem FeedOk.some {f : List Int} {a b : Nat} (h : FeedOk (some f) a b) : 0 < f.length ∧ f.length ≤ 2 := h
theorem many_or (c : Bool) : ixD ([1, 3] : List Int) (if c then 1 else 0 : Int) = 1 ∨ ixD ([1, 3] : List Int) (if c then 1 else 0 : Int) = 3 := by
  cases c
  · exact .inl rfl
  · exact .inr rfl
local macro_rules | `(tactic| wtm_at "g.sd") => `(tactic| first | with_reducible assumption | omega | (simp only [List.length_cons, List.length_nil]; split <;> omega) | (obtain hz | hz := ‹(_ : Int) = 1 ∨ _ = 3› <;> omega) | (subst_vars; omega))
local macro_rules | `(tactic| wtm_at "d.mul") => `(tactic| (obtain hz | hz := ‹(_ : Int) = 1 ∨ _ = 3› <;> (rw [hz]; omega)))
local macro_rules | `(tactic| wtm_at "d.side") => `(tactic| (obtain hz | hz := ‹(_ : Int) = 1 ∨ _ = 3› <;> (rw [hz]; decide)))
local macro_rules | `(tactic| wtm_at "d.div") => `(tactic| (obtain hz | hz := ‹(_ : Int) = 1 ∨ _ = 3› <;> (rw [hz]; decide)))
local macro_rules | `(tactic| wtm_at "g.sure") => `(tactic| (subst_vars; simp))
local macro_rules | `(tactic| wtm_at "g.inv") => `(tactic| first | exact (show FeedOk none _ _ from rfl) | exact (show FeedOk (Option.some _) _ _ from ⟨by omega, by omega⟩) | (subst_vars; exact (show FeedOk (Option.some _) _ _ from ⟨by omega, by omega⟩)))
def m_law_ties (script_0 : Scr) (count_0 : Int) : (List (Int × Int × Int)) := letF (m_law_cell script_0 1) fun r_1 => letF (ixD ([1, 3] : (List Int)) (if (decide (((r_1 / 9) % 8) = 1)) then 1 else 0 : Int)) fun many_2 => forL (fun (x_6 : Nat) (s_8 : ((Option (List Int)) × (List (Int × Int × Int)))) n_1 => match s_8.1 with | none => if (decide (((x_6 : Int) % many_2) = 0)) then letF (m_law_feed script_0 (2 + ((x_6 : Int) / many_2))) fun c_9 => letF (m_law_take c_9 count_0).1 fun r_10 => letF (m_law_take c_9 count_0).2 fun c_11 => letF (m_law_take c_11 count_0).1 fun r_12 => letF (m_law_take c_11 count_0).2 fun c_13 => letF (m_law_take c_13 12).1 fun r_14 => letF (m_law_take c_13 12).2 fun c_15 => letF (r_14 - 4) fun c_16 => letF (m_law_take c_15 4).1 fun r_17 => letF (m_law_take c_15 4).2 fun c_18 => joinF (fun (q_21 : (Int × (List Int))) => n_1 ((some q_21.2), (s_8.2 ++ [(r_10, r_12, q_21.1)]))) fun j_1 => if (decide (r_17 = 1)) then letF (m_law_take c_18 2000000000000000001).1 fun r_22 => letF (m_law_take c_18 2000000000000000001).2 fun c_23 => letF (r_22 - 1000000000000000000) fun c_24 => j_1 (c_24, c_23) else j_1 (c_16, c_18) else n_1 (none, s_8.2) | some f_5 => if (decide (((x_6 : Int) % many_2) = 0)) then letF (m_law_feed script_0 (2 + ((x_6 : Int) / many_2))) fun c_25 => letF (m_law_take c_25 count_0).1 fun r_26 => letF (m_law_take c_25 count_0).2 fun c_27 => letF (m_law_take c_27 count_0).1 fun r_28 => letF (m_law_take c_27 count_0).2 fun c_29 => letF (m_law_take c_29 12).1 fun r_30 => letF (m_law_take c_29 12).2 fun c_31 => letF (r_30 - 4) fun c_32 => letF (m_law_take c_31 4).1 fun r_33 => letF (m_law_take c_31 4).2 fun c_34 => joinF (fun (q_37 : (Int × (List Int))) => n_1 ((some q_37.2), (s_8.2 ++ [(r_26, r_28, q_37.1)]))) fun j_2 => if (decide (r_33 = 1)) then letF (m_law_take c_34 2000000000000000001).1 fun r_38 => letF (m_law_take c_34 2000000000000000001).2 fun c_39 => letF (r_38 - 1000000000000000000) fun c_40 => j_2 (c_40, c_39) else j_2 (c_32, c_34) else letF (m_law_take f_5 count_0).1 fun r_41 => letF (m_law_take f_5 count_0).2 fun c_42 => letF (m_law_take c_42 count_0).1 fun r_43 => letF (m_law_take c_42 count_0).2 fun c_44 => letF (m_law_take c_44 12).1 fun r_45 => letF (m_law_take c_44 12).2 fun c_46 => letF (r_45 - 4) fun c_47 => letF (m_law_take c_46 4).1 fun r_48 => letF (m_law_take c_46 4).2 fun c_49 => joinF (fun (q_52 : (Int × (List Int))) => n_1 ((some q_52.2), (s_8.2 ++ [(r_41, r_43, q_52.1)]))) fun j_3 => if (decide (r_48 = 1)) then letF (m_law_take c_49 2000000000000000001).1 fun r_53 => letF (m_law_take c_49 2000000000000000001).2 fun c_54 => letF (r_53 - 1000000000000000000) fun c_55 => j_3 (c_55, c_54) else j_3 (c_47, c_49)) (fun s_8 : ((Option (List Int)) × (List (Int × Int × Int))) => s_8.2) (List.range ((many_2 * (min 60 (max 0 ((script_0.ns.length : Int) - 2)))) : Int).toNat) ((none : Option (List Int)), ([] : (List (Int × Int × Int))))
section
variable {P : Program} {w : World} {K : PySem.W.Frag} {mg : Str → Option Value} {base : Heap}
inductive Sp_law_ties : Spec
  | mk {script_0 : Scr} {count_0 : Int} (hc : 0 < count_0 ∧ count_0 ≤ 100) : Sp_law_ties [.val (Scr.D script_0), .val (.int count_0)] [] (.cell 0) [(.lst (((m_law_ties script_0 count_0).map e_tup_int_int_int).map SV.val))]
theorem cal_law_ties (D : DefAt K mg "_law_ties" s__law_ties P__law_ties) (C_law_cell : Cal P w K mg base 1 "_law_cell" 2 Sp_law_cell) (C_law_feed : Cal P w K mg base 2 "_law_feed" 2 Sp_law_feed) (C_law_take : Cal P w K mg base 1 "_law_take" 2 Sp_law_take) (z_int : mg "int" = none) (z_len : mg "len" = none) (z_max : mg "max" = none) (z_min : mg "min" = none) (z_range : mg "range" = none) : Cal P w K mg base 3 "_law_ties" 2 Sp_law_ties := by
  refine cal_def D sc__law_ties tb__law_ties (fun f cdv A outer s0 H E hr T TL svs cs sv cs1 hsp hl => ?_)
  cases hsp with
  | @mk script_0 count_0 hc =>
  obtain ⟨R0, h⟩ : ∃ R0, (m_law_ties script_0 count_0) = R0 := ⟨_, rfl⟩
  rw [h]
  unfold m_law_ties at h
  have hSl := script_0.len
  show SX _ _ _ [some (.val (Scr.D script_0)), some (.val (.int count_0)), none, none, none, none, none, none, none] [] _
  refine sx_cons (s1_set TL rfl (ev_lstC (ss := []) av_nil AppC.nil rfl) (Put.there (Put.there Put.here)) ?_ rfl)
  show SX _ _ _ _ _ _
  refine sx_cons (s1_set TL rfl (ev_lstC (ss := []) av_nil (AppC.cons AppC.nil) rfl) (Put.there (Put.there (Put.there Put.here))) ?_ rfl)
  show SX _ _ _ _ _ _
  replace h := letF_elim h
  obtain ⟨r_1, er_1, h⟩ := h
  replace h := letF_elim h
  obtain ⟨many_2, emany_2, h⟩ := h
  have p1 := cell_bd script_0 1
  have at2 : L2.atI (([1, 3] : (List Int)).map PyData.int) (if (decide (((r_1 / 9) % 8) = 1)) then 1 else 0 : Int) = some (PyData.int (ixD ([1, 3] : (List Int)) (if (decide (((r_1 / 9) % 8) = 1)) then 1 else 0 : Int))) := at_ixD (f := PyData.int) (by wtm_at "g.sd") (by wtm_at "g.sd")
  have ib2 := ixD_bd (xs := ([1, 3] : (List Int))) (lo := 1) (hi := 3) (i := (if (decide (((r_1 / 9) % 8) = 1)) then 1 else 0 : Int)) (by decide) (by wtm_at "g.sd") (by wtm_at "g.sd")
  have hmany : many_2 = 1 ∨ many_2 = 3 := by subst emany_2; exact many_or _
  have hmr : 0 ≤ (many_2 * (min 60 (max 0 ((script_0.ns.length : Int) - 2)))) ∧ (many_2 * (min 60 (max 0 ((script_0.ns.length : Int) - 2)))) ≤ 180 := by rcases hmany with z | z <;> rw [z] <;> omega
  refine sx_cons (s1_set TL rfl (ev_is (t := .val (.int many_2)) (ev_ixLv (ev_lstV (ad_cons ev_int (ad_cons ev_int ad_nil)) rfl) (ev_intB z_int rfl (ev_eqI (ev_mod (ev_div (ev_as (t := .val (.int r_1)) (cs2 := [(.lst ((([] : (List (Int × Int × Int))).map e_tup_int_int_int).map SV.val)), (.lst ((([] : (List Int)).map PyData.int).map SV.val))]) (ev_callM (κ := []) C_law_cell hr (by decide) rfl (av_cons (ev_name T rfl Lk.here rfl) (av_cons ev_int av_nil)) Sel.nil (RenA.val (RenA.val RenA.nil)) (Sp_law_cell.mk (script_0 := script_0) (k_0 := 1) (by wtm_at "g.pre")) SetA.nil (List.prefix_refl _) rfl (by decide) rfl) (by subst er_1; rfl) (by subst er_1; rfl)) ev_int (by wtm_at "d.div")) ev_int (by wtm_at "d.side")) ev_int)) at2) (by subst emany_2; rfl)) (Put.there (Put.there (Put.there (Put.there Put.here)))) ?_ rfl)
  show SX _ _ _ _ _ _
  refine' sx_cons ?lp3
  refine' s1_forK (List.range ((many_2 * (min 60 (max 0 ((script_0.ns.length : Int) - 2)))) : Int).toNat) (fun i : Nat => SV.val (.int (i : Int))) _ _ R0 ((none : Option (List Int)), ([] : (List (Int × Int × Int)))) (fun l_1 (s_8 : ((Option (List Int)) × (List (Int × Int × Int)))) => (s_8.2.length + 1 * l_1.length ≤ (([] : (List (Int × Int × Int)))).length + 1 * (List.range ((many_2 * (min 60 (max 0 ((script_0.ns.length : Int) - 2)))) : Int).toNat).length) ∧ (FeedOk s_8.1 l_1.length (List.range ((many_2 * (min 60 (max 0 ((script_0.ns.length : Int) - 2)))) : Int).toNat).length)) h PassesOwn.never rfl (iv_range1 z_range rfl (ev_mul (ev_name T rfl (Lk.there (Lk.there (Lk.there (Lk.there Lk.here)))) rfl) (ev_minM z_min ev_int (ev_maxM z_max ev_int (ev_sub (ev_is (t := .val (.int (script_0.ns.length : Int))) (ev_len z_len rfl (ev_name T rfl Lk.here rfl) (rc_lenLv)) (by simp only [List.length_map])) ev_int))) (by wtm_at "d.mul")) (by wtm_at "g.sd") (by wtm_at "g.sd")) ?j03 (fun s_8 : ((Option (List Int)) × (List (Int × Int × Int))) => (match s_8.1 with | none => [some (.val (Scr.D script_0)), some (.val (.int count_0)), some (.cell 0), none, some (.val (.int many_2)), none, none, none, none] | some f_5 => [some (.val (Scr.D script_0)), some (.val (.int count_0)), some (.cell 0), some (.cell 2), some (.val (.int many_2)), none, none, none, none])) (fun s_8 : ((Option (List Int)) × (List (Int × Int × Int))) => (match s_8.1 with | none => [(.lst ((s_8.2.map e_tup_int_int_int).map SV.val)), (.lst ((([] : (List Int)).map PyData.int).map SV.val))] | some f_5 => [(.lst ((s_8.2.map e_tup_int_int_int).map SV.val)), (.lst ((([] : (List Int)).map PyData.int).map SV.val)), (.lst ((f_5.map PyData.int).map SV.val))])) (Le.same (Le.same (Le.same (Le.lose (Le.same (Le.lose (Le.lose (Le.lose (Le.lose Le.nil))))))))) rfl (fun _ => trivial) ?tu3 ?dn3
  case j03 => wtm_at "g.inv"
  case tu3 =>
    clear h
    rintro x_6 l_1 ⟨o_7, c_3⟩ n_1 hm4 hJ1 h
    have hpre1 := hm4
    have hm4 := mem_mid hm4
    have hm4r := List.mem_range.mp hm4
    cases o_7 with
    | none =>
      try dsimp only at h hJ1
      obtain ⟨hJ1_0, hJ1_1⟩ := hJ1
      show GX _ _ _ _ [some (.val (Scr.D script_0)), some (.val (.int count_0)), some (.cell 0), none, some (.val (.int many_2)), none, none, none, none] [(.lst ((c_3.map e_tup_int_int_int).map SV.val)), (.lst ((([] : (List Int)).map PyData.int).map SV.val))] _
      refine gx_name TL rfl (Put.there (Put.there (Put.there (Put.there (Put.there Put.here))))) ?_ rfl
      show SX _ _ _ [some (.val (Scr.D script_0)), some (.val (.int count_0)), some (.cell 0), none, some (.val (.int many_2)), some (.val (.int (x_6 : Int))), none, none, none] [(.lst ((c_3.map e_tup_int_int_int).map SV.val)), (.lst ((([] : (List Int)).map PyData.int).map SV.val))] _
      have hxq : 0 ≤ (x_6 : Int) / many_2 ∧ (x_6 : Int) / many_2 ≤ 180 := by rcases hmany with z | z <;> rw [z] <;> omega
      have qz := first_zero hpre1 hJ1_1
      have md5 := emod_bd ((x_6 : Int)) (m := many_2) (by wtm_at "g.sd")
      refine sx_cons (s1_if (tv_eqI (ev_mod (ev_name T rfl (Lk.there (Lk.there (Lk.there (Lk.there (Lk.there Lk.here))))) rfl) (ev_name T rfl (Lk.there (Lk.there (Lk.there (Lk.there Lk.here)))) rfl) (by wtm_at "d.side")) ev_int) (fun hb6 => ?_) (fun z => absurd z (by wtm_at "g.sure")))
      have hb6x := hb6
      try simp only [Bool.and_eq_true, Bool.or_eq_true, Bool.and_eq_false_iff, Bool.or_eq_false_iff, decide_eq_true_eq, decide_eq_false_iff_not, Bool.not_eq_true', Bool.not_eq_false', Bool.not_eq_eq_eq_not, Bool.not_true, Bool.not_false] at hb6x
      rw [if_pos hb6] at h
      replace h := letF_elim h
      obtain ⟨c_9, ec_9, h⟩ := h
      have p7 := feed_len script_0 (2 + ((x_6 : Int) / many_2))
      refine sx_cons (s1_set TL rfl (ev_as (t := .cell 2) (cs2 := [(.lst ((c_3.map e_tup_int_int_int).map SV.val)), (.lst ((([] : (List Int)).map PyData.int).map SV.val)), (.lst ((c_9.map PyData.int).map SV.val))]) (ev_callN (κ := []) C_law_feed hr (by decide) rfl (av_cons (ev_name T rfl Lk.here rfl) (av_cons (ev_add ev_int (ev_div (ev_name T rfl (Lk.there (Lk.there (Lk.there (Lk.there (Lk.there Lk.here))))) rfl) (ev_name T rfl (Lk.there (Lk.there (Lk.there (Lk.there Lk.here)))) rfl) (by wtm_at "d.div"))) av_nil)) Sel.nil (RenA.val (RenA.val RenA.nil)) (Sp_law_feed.mk (script_0 := script_0) (k_0 := (2 + ((x_6 : Int) / many_2))) (by wtm_at "g.pre")) (i := 0) rfl SetA.nil (AppC.cons (AppC.cons AppC.nil)) rfl (by wtm_at "d.flat") (by intro z; cases z) (by decide) rfl) rfl (by subst ec_9; rfl)) (Put.there (Put.there (Put.there Put.here))) ?_ rfl)
      show SX _ _ _ _ _ _
      refine sx_nil ?_
      show SX _ _ _ _ _ _
      replace h := letF_elim h
      obtain ⟨r_10, er_10, h⟩ := h
      replace h := letF_elim h
      obtain ⟨c_11, ec_11, h⟩ := h
      have p8 := take_ok c_9 count_0 (by wtm_at "g.sd") (by wtm_at "g.sd")
      refine sx_cons (s1_set TL rfl (ev_as (t := .val (.int r_10)) (cs2 := [(.lst ((c_3.map e_tup_int_int_int).map SV.val)), (.lst ((([] : (List Int)).map PyData.int).map SV.val)), (.lst ((c_11.map PyData.int).map SV.val))]) (ev_callM (κ := [2]) C_law_take hr (by decide) rfl (av_cons (ev_name T rfl (Lk.there (Lk.there (Lk.there Lk.here))) rfl) (av_cons (ev_name T rfl (Lk.there Lk.here) rfl) av_nil)) (Sel.cons rfl (by wtm_at "d.flat") (by intro z; cases z) Sel.nil) (RenA.cell rfl (RenA.val RenA.nil)) (Sp_law_take.mk (feed_here_0 := c_9) (many_0 := count_0) (by wtm_at "g.pre") (by wtm_at "g.pre")) (SetA.cons (PutC.there (PutC.there PutC.here)) SetA.nil) (List.prefix_refl _) (by wtm_at "g.flat") (by decide) rfl) (by subst er_10; subst ec_11; rfl) (by subst er_10; subst ec_11; rfl)) (Put.there (Put.there (Put.there (Put.there (Put.there (Put.there Put.here)))))) ?_ rfl)
      show SX _ _ _ _ _ _
      replace h := letF_elim h
      obtain ⟨r_12, er_12, h⟩ := h
      replace h := letF_elim h
      obtain ⟨c_13, ec_13, h⟩ := h
      have p9 := take_ok c_11 count_0 (by wtm_at "g.sd") (by wtm_at "g.sd")
      refine sx_cons (s1_set TL rfl (ev_as (t := .val (.int r_12)) (cs2 := [(.lst ((c_3.map e_tup_int_int_int).map SV.val)), (.lst ((([] : (List Int)).map PyData.int).map SV.val)), (.lst ((c_13.map PyData.int).map SV.val))]) (ev_callM (κ := [2]) C_law_take hr (by decide) rfl (av_cons (ev_name T rfl (Lk.there (Lk.there (Lk.there Lk.here))) rfl) (av_cons (ev_name T rfl (Lk.there Lk.here) rfl) av_nil)) (Sel.cons rfl (by wtm_at "d.flat") (by intro z; cases z) Sel.nil) (RenA.cell rfl (RenA.val RenA.nil)) (Sp_law_take.mk (feed_here_0 := c_11) (many_0 := count_0) (by wtm_at "g.pre") (by wtm_at "g.pre")) (SetA.cons (PutC.there (PutC.there PutC.here)) SetA.nil) (List.prefix_refl _) (by wtm_at "g.flat") (by decide) rfl) (by subst er_12; subst ec_13; rfl) (by subst er_12; subst ec_13; rfl)) (Put.there (Put.there (Put.there (Put.there (Put.there (Put.there (Put.there Put.here))))))) ?_ rfl)
      show SX _ _ _ _ _ _
      replace h := letF_elim h
      obtain ⟨r_14, er_14, h⟩ := h
      replace h := letF_elim h
      obtain ⟨c_15, ec_15, h⟩ := h
      replace h := letF_elim h
      obtain ⟨c_16, ec_16, h⟩ := h
      have p10 := take_ok c_13 12 (by wtm_at "g.sd") (by wtm_at "g.sd")
      refine sx_cons (s1_set TL rfl (ev_is (t := .val (.int c_16)) (ev_sub (ev_as (t := .val (.int r_14)) (cs2 := [(.lst ((c_3.map e_tup_int_int_int).map SV.val)), (.lst ((([] : (List Int)).map PyData.int).map SV.val)), (.lst ((c_15.map PyData.int).map SV.val))]) (ev_callM (κ := [2]) C_law_take hr (by decide) rfl (av_cons (ev_name T rfl (Lk.there (Lk.there (Lk.there Lk.here))) rfl) (av_cons ev_int av_nil)) (Sel.cons rfl (by wtm_at "d.flat") (by intro z; cases z) Sel.nil) (RenA.cell rfl (RenA.val RenA.nil)) (Sp_law_take.mk (feed_here_0 := c_13) (many_0 := 12) (by wtm_at "g.pre") (by wtm_at "g.pre")) (SetA.cons (PutC.there (PutC.there PutC.here)) SetA.nil) (List.prefix_refl _) (by wtm_at "g.flat") (by decide) rfl) (by subst er_14; subst ec_15; rfl) (by subst er_14; subst ec_15; rfl)) ev_int) (by subst ec_16; rfl)) (Put.there (Put.there (Put.there (Put.there (Put.there (Put.there (Put.there (Put.there Put.here)))))))) ?_ rfl)
      show SX _ _ _ _ _ _
      replace h := letF_elim h
      obtain ⟨r_17, er_17, h⟩ := h
      replace h := letF_elim h
      obtain ⟨c_18, ec_18, h⟩ := h
      have p11 := take_ok c_15 4 (by wtm_at "g.sd") (by wtm_at "g.sd")
      replace h := joinF_elim h
      obtain ⟨j_1, hj_1, h⟩ := h
      refine' sx_cutA (fun sl1 cs1 => ∃ q_21 : (Int × (List Int)), j_1 q_21 = R0 ∧ (0 < q_21.2.length ∧ q_21.2.length ≤ 2) ∧ sl1 = [some (.val (Scr.D script_0)), some (.val (.int count_0)), some (.cell 0), some (.cell 2), some (.val (.int many_2)), some (.val (.int (x_6 : Int))), some (.val (.int r_10)), some (.val (.int r_12)), some (.val (.int q_21.1))] ∧ cs1 = [(.lst ((c_3.map e_tup_int_int_int).map SV.val)), (.lst ((([] : (List Int)).map PyData.int).map SV.val)), (.lst ((q_21.2.map PyData.int).map SV.val))]) ?st13 ?rest13
      case st13 =>
        refine' s1_if (tv_eqI (ev_as (t := .val (.int r_17)) (cs2 := [(.lst ((c_3.map e_tup_int_int_int).map SV.val)), (.lst ((([] : (List Int)).map PyData.int).map SV.val)), (.lst ((c_18.map PyData.int).map SV.val))]) (ev_callM (κ := [2]) C_law_take hr (by decide) rfl (av_cons (ev_name T rfl (Lk.there (Lk.there (Lk.there Lk.here))) rfl) (av_cons ev_int av_nil)) (Sel.cons rfl (by wtm_at "d.flat") (by intro z; cases z) Sel.nil) (RenA.cell rfl (RenA.val RenA.nil)) (Sp_law_take.mk (feed_here_0 := c_15) (many_0 := 4) (by wtm_at "g.pre") (by wtm_at "g.pre")) (SetA.cons (PutC.there (PutC.there PutC.here)) SetA.nil) (List.prefix_refl _) (by wtm_at "g.flat") (by decide) rfl) (by subst er_17; subst ec_18; rfl) (by subst er_17; subst ec_18; rfl)) ev_int) ?y13 ?n13
        case y13 =>
          intro hb12
          have hb12x := hb12
          try simp only [Bool.and_eq_true, Bool.or_eq_true, Bool.and_eq_false_iff, Bool.or_eq_false_iff, decide_eq_true_eq, decide_eq_false_iff_not, Bool.not_eq_true', Bool.not_eq_false', Bool.not_eq_eq_eq_not, Bool.not_true, Bool.not_false] at hb12x
          rw [if_pos hb12] at h
          replace h := letF_elim h
          obtain ⟨r_22, er_22, h⟩ := h
          replace h := letF_elim h
          obtain ⟨c_23, ec_23, h⟩ := h
          replace h := letF_elim h
          obtain ⟨c_24, ec_24, h⟩ := h
          have p14 := take_ok c_18 2000000000000000001 (by wtm_at "g.sd") (by wtm_at "g.sd")
          refine sx_cons (s1_set TL rfl (ev_is (t := .val (.int c_24)) (ev_sub (ev_as (t := .val (.int r_22)) (cs2 := [(.lst ((c_3.map e_tup_int_int_int).map SV.val)), (.lst ((([] : (List Int)).map PyData.int).map SV.val)), (.lst ((c_23.map PyData.int).map SV.val))]) (ev_callM (κ := [2]) C_law_take hr (by decide) rfl (av_cons (ev_name T rfl (Lk.there (Lk.there (Lk.there Lk.here))) rfl) (av_cons (ev_is (t := .val (.int 2000000000000000001)) (ev_add (ev_is (t := .val (.int 2000000000000000000)) (ev_mul ev_int (ev_is (t := .val (.int 1000000000000000000)) (ev_pow ev_int ev_int ⟨by decide, by decide, by decide⟩) rfl) (by wtm_at "d.mul")) rfl) ev_int) rfl) av_nil)) (Sel.cons rfl (by wtm_at "d.flat") (by intro z; cases z) Sel.nil) (RenA.cell rfl (RenA.val RenA.nil)) (Sp_law_take.mk (feed_here_0 := c_18) (many_0 := 2000000000000000001) (by wtm_at "g.pre") (by wtm_at "g.pre")) (SetA.cons (PutC.there (PutC.there PutC.here)) SetA.nil) (List.prefix_refl _) (by wtm_at "g.flat") (by decide) rfl) (by subst er_22; subst ec_23; rfl) (by subst er_22; subst ec_23; rfl)) (ev_is (t := .val (.int 1000000000000000000)) (ev_pow ev_int ev_int ⟨by decide, by decide, by decide⟩) rfl)) (by subst ec_24; rfl)) (Put.there (Put.there (Put.there (Put.there (Put.there (Put.there (Put.there (Put.there Put.here)))))))) ?_ rfl)
          show SX _ _ _ _ _ _
          refine sx_nil ?_
          exact ⟨_, _, ⟨(c_24, c_23), h, (by wtm_at "g.inv"), rfl, rfl⟩, (At.same (Le.same (Le.same (Le.same (Le.same (Le.same (Le.same (Le.same (Le.same (Le.same Le.nil))))))))))⟩
        case n13 =>
          intro hb12
          have hb12x := hb12
          try simp only [Bool.and_eq_true, Bool.or_eq_true, Bool.and_eq_false_iff, Bool.or_eq_false_iff, decide_eq_true_eq, decide_eq_false_iff_not, Bool.not_eq_true', Bool.not_eq_false', Bool.not_eq_eq_eq_not, Bool.not_true, Bool.not_false] at hb12x
          rw [if_neg (by rw [hb12]; decide)] at h
          refine sx_nil ?_
          exact ⟨_, _, ⟨(c_16, c_18), h, (by wtm_at "g.inv"), rfl, rfl⟩, (At.same (Le.same (Le.same (Le.same (Le.same (Le.same (Le.same (Le.same (Le.same (Le.same Le.nil))))))))))⟩
      clear h
      rintro _ _ ⟨⟨c_19, c_20⟩, h, hi1, rfl, rfl⟩
      replace h := hj_1 _ h
      try dsimp only at h hi1
      show SX _ _ _ [some (.val (Scr.D script_0)), some (.val (.int count_0)), some (.cell 0), some (.cell 2), some (.val (.int many_2)), some (.val (.int (x_6 : Int))), some (.val (.int r_10)), some (.val (.int r_12)), some (.val (.int c_19))] [(.lst ((c_3.map e_tup_int_int_int).map SV.val)), (.lst ((([] : (List Int)).map PyData.int).map SV.val)), (.lst ((c_20.map PyData.int).map SV.val))] _
      refine sx_cons (s1_expr (ev_appT (f := e_tup_int_int_int) (l := c_3) (y := (r_10, r_12, c_19)) (ev_name T rfl (Lk.there (Lk.there Lk.here)) rfl) (ev_tup (ad_cons (ev_name T rfl (Lk.there (Lk.there (Lk.there (Lk.there (Lk.there (Lk.there Lk.here)))))) rfl) (ad_cons (ev_name T rfl (Lk.there (Lk.there (Lk.there (Lk.there (Lk.there (Lk.there (Lk.there Lk.here))))))) rfl) (ad_cons (ev_name T rfl (Lk.there (Lk.there (Lk.there (Lk.there (Lk.there (Lk.there (Lk.there (Lk.there Lk.here)))))))) rfl) ad_nil))) rfl) rfl rfl PutC.here (by wtm_at "g.sd")) ?_)
      show SX _ _ _ _ _ _
      refine sx_nil ?_
      exact ⟨((some c_20), (c_3 ++ [(r_10, r_12, c_19)])), h, (by wtm_at "g.inv"), At.gen [2] [0, 1, 2] (Le.same (Le.same (Le.same (Le.same (Le.same (Le.lose (Le.lose (Le.lose (Le.lose Le.nil))))))))) rfl (by decide) (SelR.cons rfl (RenC.flat (by wtm_at "d.flat")) (SelR.cons rfl (RenC.flat (by wtm_at "d.flat")) (SelR.cons rfl (RenC.flat (by wtm_at "d.flat")) SelR.nil))) rfl rfl⟩
    | some f_5 =>
      try dsimp only at h hJ1
      obtain ⟨hJ1_0, hJ1_1⟩ := hJ1
      show GX _ _ _ _ [some (.val (Scr.D script_0)), some (.val (.int count_0)), some (.cell 0), some (.cell 2), some (.val (.int many_2)), none, none, none, none] [(.lst ((c_3.map e_tup_int_int_int).map SV.val)), (.lst ((([] : (List Int)).map PyData.int).map SV.val)), (.lst ((f_5.map PyData.int).map SV.val))] _
      refine gx_name TL rfl (Put.there (Put.there (Put.there (Put.there (Put.there Put.here))))) ?_ rfl
      show SX _ _ _ [some (.val (Scr.D script_0)), some (.val (.int count_0)), some (.cell 0), some (.cell 2), some (.val (.int many_2)), some (.val (.int (x_6 : Int))), none, none, none] [(.lst ((c_3.map e_tup_int_int_int).map SV.val)), (.lst ((([] : (List Int)).map PyData.int).map SV.val)), (.lst ((f_5.map PyData.int).map SV.val))] _
      have hxq : 0 ≤ (x_6 : Int) / many_2 ∧ (x_6 : Int) / many_2 ≤ 180 := by rcases hmany with z | z <;> rw [z] <;> omega
      have qf := hJ1_1.some
      have md15 := emod_bd ((x_6 : Int)) (m := many_2) (by wtm_at "g.sd")
      refine' sx_cons (s1_if (tv_eqI (ev_mod (ev_name T rfl (Lk.there (Lk.there (Lk.there (Lk.there (Lk.there Lk.here))))) rfl) (ev_name T rfl (Lk.there (Lk.there (Lk.there (Lk.there Lk.here)))) rfl) (by wtm_at "d.side")) ev_int) ?y17 ?n17)
      case y17 =>
        intro hb16
        have hb16x := hb16
        try simp only [Bool.and_eq_true, Bool.or_eq_true, Bool.and_eq_false_iff, Bool.or_eq_false_iff, decide_eq_true_eq, decide_eq_false_iff_not, Bool.not_eq_true', Bool.not_eq_false', Bool.not_eq_eq_eq_not, Bool.not_true, Bool.not_false] at hb16x
        rw [if_pos hb16] at h
        replace h := letF_elim h
        obtain ⟨c_25, ec_25, h⟩ := h
        have p18 := feed_len script_0 (2 + ((x_6 : Int) / many_2))
        refine sx_cons (s1_set TL rfl (ev_as (t := .cell 3) (cs2 := [(.lst ((c_3.map e_tup_int_int_int).map SV.val)), (.lst ((([] : (List Int)).map PyData.int).map SV.val)), (.lst ((f_5.map PyData.int).map SV.val)), (.lst ((c_25.map PyData.int).map SV.val))]) (ev_callN (κ := []) C_law_feed hr (by decide) rfl (av_cons (ev_name T rfl Lk.here rfl) (av_cons (ev_add ev_int (ev_div (ev_name T rfl (Lk.there (Lk.there (Lk.there (Lk.there (Lk.there Lk.here))))) rfl) (ev_name T rfl (Lk.there (Lk.there (Lk.there (Lk.there Lk.here)))) rfl) (by wtm_at "d.div"))) av_nil)) Sel.nil (RenA.val (RenA.val RenA.nil)) (Sp_law_feed.mk (script_0 := script_0) (k_0 := (2 + ((x_6 : Int) / many_2))) (by wtm_at "g.pre")) (i := 0) rfl SetA.nil (AppC.cons (AppC.cons (AppC.cons AppC.nil))) rfl (by wtm_at "d.flat") (by intro z; cases z) (by decide) rfl) rfl (by subst ec_25; rfl)) (Put.there (Put.there (Put.there Put.here))) ?_ rfl)
        show SX _ _ _ _ _ _
        refine sx_nil ?_
        show SX _ _ _ _ _ _
        replace h := letF_elim h
        obtain ⟨r_26, er_26, h⟩ := h
        replace h := letF_elim h
        obtain ⟨c_27, ec_27, h⟩ := h
        have p19 := take_ok c_25 count_0 (by wtm_at "g.sd") (by wtm_at "g.sd")
        refine sx_cons (s1_set TL rfl (ev_as (t := .val (.int r_26)) (cs2 := [(.lst ((c_3.map e_tup_int_int_int).map SV.val)), (.lst ((([] : (List Int)).map PyData.int).map SV.val)), (.lst ((f_5.map PyData.int).map SV.val)), (.lst ((c_27.map PyData.int).map SV.val))]) (ev_callM (κ := [3]) C_law_take hr (by decide) rfl (av_cons (ev_name T rfl (Lk.there (Lk.there (Lk.there Lk.here))) rfl) (av_cons (ev_name T rfl (Lk.there Lk.here) rfl) av_nil)) (Sel.cons rfl (by wtm_at "d.flat") (by intro z; cases z) Sel.nil) (RenA.cell rfl (RenA.val RenA.nil)) (Sp_law_take.mk (feed_here_0 := c_25) (many_0 := count_0) (by wtm_at "g.pre") (by wtm_at "g.pre")) (SetA.cons (PutC.there (PutC.there (PutC.there PutC.here))) SetA.nil) (List.prefix_refl _) (by wtm_at "g.flat") (by decide) rfl) (by subst er_26; subst ec_27; rfl) (by subst er_26; subst ec_27; rfl)) (Put.there (Put.there (Put.there (Put.there (Put.there (Put.there Put.here)))))) ?_ rfl)
        show SX _ _ _ _ _ _
        replace h := letF_elim h
        obtain ⟨r_28, er_28, h⟩ := h
        replace h := letF_elim h
        obtain ⟨c_29, ec_29, h⟩ := h
        have p20 := take_ok c_27 count_0 (by wtm_at "g.sd") (by wtm_at "g.sd")
        refine sx_cons (s1_set TL rfl (ev_as (t := .val (.int r_28)) (cs2 := [(.lst ((c_3.map e_tup_int_int_int).map SV.val)), (.lst ((([] : (List Int)).map PyData.int).map SV.val)), (.lst ((f_5.map PyData.int).map SV.val)), (.lst ((c_29.map PyData.int).map SV.val))]) (ev_callM (κ := [3]) C_law_take hr (by decide) rfl (av_cons (ev_name T rfl (Lk.there (Lk.there (Lk.there Lk.here))) rfl) (av_cons (ev_name T rfl (Lk.there Lk.here) rfl) av_nil)) (Sel.cons rfl (by wtm_at "d.flat") (by intro z; cases z) Sel.nil) (RenA.cell rfl (RenA.val RenA.nil)) (Sp_law_take.mk (feed_here_0 := c_27) (many_0 := count_0) (by wtm_at "g.pre") (by wtm_at "g.pre")) (SetA.cons (PutC.there (PutC.there (PutC.there PutC.here))) SetA.nil) (List.prefix_refl _) (by wtm_at "g.flat") (by decide) rfl) (by subst er_28; subst ec_29; rfl) (by subst er_28; subst ec_29; rfl)) (Put.there (Put.there (Put.there (Put.there (Put.there (Put.there (Put.there Put.here))))))) ?_ rfl)
        show SX _ _ _ _ _ _
        replace h := letF_elim h
        obtain ⟨r_30, er_30, h⟩ := h
        replace h := letF_elim h
        obtain ⟨c_31, ec_31, h⟩ := h
        replace h := letF_elim h
        obtain ⟨c_32, ec_32, h⟩ := h
        have p21 := take_ok c_29 12 (by wtm_at "g.sd") (by wtm_at "g.sd")
        refine sx_cons (s1_set TL rfl (ev_is (t := .val (.int c_32)) (ev_sub (ev_as (t := .val (.int r_30)) (cs2 := [(.lst ((c_3.map e_tup_int_int_int).map SV.val)), (.lst ((([] : (List Int)).map PyData.int).map SV.val)), (.lst ((f_5.map PyData.int).map SV.val)), (.lst ((c_31.map PyData.int).map SV.val))]) (ev_callM (κ := [3]) C_law_take hr (by decide) rfl (av_cons (ev_name T rfl (Lk.there (Lk.there (Lk.there Lk.here))) rfl) (av_cons ev_int av_nil)) (Sel.cons rfl (by wtm_at "d.flat") (by intro z; cases z) Sel.nil) (RenA.cell rfl (RenA.val RenA.nil)) (Sp_law_take.mk (feed_here_0 := c_29) (many_0 := 12) (by wtm_at "g.pre") (by wtm_at "g.pre")) (SetA.cons (PutC.there (PutC.there (PutC.there PutC.here))) SetA.nil) (List.prefix_refl _) (by wtm_at "g.flat") (by decide) rfl) (by subst er_30; subst ec_31; rfl) (by subst er_30; subst ec_31; rfl)) ev_int) (by subst ec_32; rfl)) (Put.there (Put.there (Put.there (Put.there (Put.there (Put.there (Put.there (Put.there Put.here)))))))) ?_ rfl)
        show SX _ _ _ _ _ _
        replace h := letF_elim h
        obtain ⟨r_33, er_33, h⟩ := h
        replace h := letF_elim h
        obtain ⟨c_34, ec_34, h⟩ := h
        have p22 := take_ok c_31 4 (by wtm_at "g.sd") (by wtm_at "g.sd")
        replace h := joinF_elim h
        obtain ⟨j_2, hj_2, h⟩ := h
        refine' sx_cutA (fun sl1 cs1 => ∃ q_37 : (Int × (List Int)), j_2 q_37 = R0 ∧ (0 < q_37.2.length ∧ q_37.2.length ≤ 2) ∧ sl1 = [some (.val (Scr.D script_0)), some (.val (.int count_0)), some (.cell 0), some (.cell 3), some (.val (.int many_2)), some (.val (.int (x_6 : Int))), some (.val (.int r_26)), some (.val (.int r_28)), some (.val (.int q_37.1))] ∧ cs1 = [(.lst ((c_3.map e_tup_int_int_int).map SV.val)), (.lst ((([] : (List Int)).map PyData.int).map SV.val)), (.lst ((f_5.map PyData.int).map SV.val)), (.lst ((q_37.2.map PyData.int).map SV.val))]) ?st24 ?rest24
        case st24 =>
          refine' s1_if (tv_eqI (ev_as (t := .val (.int r_33)) (cs2 := [(.lst ((c_3.map e_tup_int_int_int).map SV.val)), (.lst ((([] : (List Int)).map PyData.int).map SV.val)), (.lst ((f_5.map PyData.int).map SV.val)), (.lst ((c_34.map PyData.int).map SV.val))]) (ev_callM (κ := [3]) C_law_take hr (by decide) rfl (av_cons (ev_name T rfl (Lk.there (Lk.there (Lk.there Lk.here))) rfl) (av_cons ev_int av_nil)) (Sel.cons rfl (by wtm_at "d.flat") (by intro z; cases z) Sel.nil) (RenA.cell rfl (RenA.val RenA.nil)) (Sp_law_take.mk (feed_here_0 := c_31) (many_0 := 4) (by wtm_at "g.pre") (by wtm_at "g.pre")) (SetA.cons (PutC.there (PutC.there (PutC.there PutC.here))) SetA.nil) (List.prefix_refl _) (by wtm_at "g.flat") (by decide) rfl) (by subst er_33; subst ec_34; rfl) (by subst er_33; subst ec_34; rfl)) ev_int) ?y24 ?n24
          case y24 =>
            intro hb23
            have hb23x := hb23
            try simp only [Bool.and_eq_true, Bool.or_eq_true, Bool.and_eq_false_iff, Bool.or_eq_false_iff, decide_eq_true_eq, decide_eq_false_iff_not, Bool.not_eq_true', Bool.not_eq_false', Bool.not_eq_eq_eq_not, Bool.not_true, Bool.not_false] at hb23x
            rw [if_pos hb23] at h
            replace h := letF_elim h
            obtain ⟨r_38, er_38, h⟩ := h
            replace h := letF_elim h
            obtain ⟨c_39, ec_39, h⟩ := h
            replace h := letF_elim h
            obtain ⟨c_40, ec_40, h⟩ := h
            have p25 := take_ok c_34 2000000000000000001 (by wtm_at "g.sd") (by wtm_at "g.sd")
            refine sx_cons (s1_set TL rfl (ev_is (t := .val (.int c_40)) (ev_sub (ev_as (t := .val (.int r_38)) (cs2 := [(.lst ((c_3.map e_tup_int_int_int).map SV.val)), (.lst ((([] : (List Int)).map PyData.int).map SV.val)), (.lst ((f_5.map PyData.int).map SV.val)), (.lst ((c_39.map PyData.int).map SV.val))]) (ev_callM (κ := [3]) C_law_take hr (by decide) rfl (av_cons (ev_name T rfl (Lk.there (Lk.there (Lk.there Lk.here))) rfl) (av_cons (ev_is (t := .val (.int 2000000000000000001)) (ev_add (ev_is (t := .val (.int 2000000000000000000)) (ev_mul ev_int (ev_is (t := .val (.int 1000000000000000000)) (ev_pow ev_int ev_int ⟨by decide, by decide, by decide⟩) rfl) (by wtm_at "d.mul")) rfl) ev_int) rfl) av_nil)) (Sel.cons rfl (by wtm_at "d.flat") (by intro z; cases z) Sel.nil) (RenA.cell rfl (RenA.val RenA.nil)) (Sp_law_take.mk (feed_here_0 := c_34) (many_0 := 2000000000000000001) (by wtm_at "g.pre") (by wtm_at "g.pre")) (SetA.cons (PutC.there (PutC.there (PutC.there PutC.here))) SetA.nil) (List.prefix_refl _) (by wtm_at "g.flat") (by decide) rfl) (by subst er_38; subst ec_39; rfl) (by subst er_38; subst ec_39; rfl)) (ev_is (t := .val (.int 1000000000000000000)) (ev_pow ev_int ev_int ⟨by decide, by decide, by decide⟩) rfl)) (by subst ec_40; rfl)) (Put.there (Put.there (Put.there (Put.there (Put.there (Put.there (Put.there (Put.there Put.here)))))))) ?_ rfl)
            show SX _ _ _ _ _ _
            refine sx_nil ?_
            exact ⟨_, _, ⟨(c_40, c_39), h, (by wtm_at "g.inv"), rfl, rfl⟩, (At.same (Le.same (Le.same (Le.same (Le.same (Le.same (Le.same (Le.same (Le.same (Le.same Le.nil))))))))))⟩
          case n24 =>
            intro hb23
            have hb23x := hb23
            try simp only [Bool.and_eq_true, Bool.or_eq_true, Bool.and_eq_false_iff, Bool.or_eq_false_iff, decide_eq_true_eq, decide_eq_false_iff_not, Bool.not_eq_true', Bool.not_eq_false', Bool.not_eq_eq_eq_not, Bool.not_true, Bool.not_false] at hb23x
            rw [if_neg (by rw [hb23]; decide)] at h
            refine sx_nil ?_
            exact ⟨_, _, ⟨(c_32, c_34), h, (by wtm_at "g.inv"), rfl, rfl⟩, (At.same (Le.same (Le.same (Le.same (Le.same (Le.same (Le.same (Le.same (Le.same (Le.same Le.nil))))))))))⟩
        clear h
        rintro _ _ ⟨⟨c_35, c_36⟩, h, hi2, rfl, rfl⟩
        replace h := hj_2 _ h
        try dsimp only at h hi2
        show SX _ _ _ [some (.val (Scr.D script_0)), some (.val (.int count_0)), some (.cell 0), some (.cell 3), some (.val (.int many_2)), some (.val (.int (x_6 : Int))), some (.val (.int r_26)), some (.val (.int r_28)), some (.val (.int c_35))] [(.lst ((c_3.map e_tup_int_int_int).map SV.val)), (.lst ((([] : (List Int)).map PyData.int).map SV.val)), (.lst ((f_5.map PyData.int).map SV.val)), (.lst ((c_36.map PyData.int).map SV.val))] _
        refine sx_cons (s1_expr (ev_appT (f := e_tup_int_int_int) (l := c_3) (y := (r_26, r_28, c_35)) (ev_name T rfl (Lk.there (Lk.there Lk.here)) rfl) (ev_tup (ad_cons (ev_name T rfl (Lk.there (Lk.there (Lk.there (Lk.there (Lk.there (Lk.there Lk.here)))))) rfl) (ad_cons (ev_name T rfl (Lk.there (Lk.there (Lk.there (Lk.there (Lk.there (Lk.there (Lk.there Lk.here))))))) rfl) (ad_cons (ev_name T rfl (Lk.there (Lk.there (Lk.there (Lk.there (Lk.there (Lk.there (Lk.there (Lk.there Lk.here)))))))) rfl) ad_nil))) rfl) rfl rfl PutC.here (by wtm_at "g.sd")) ?_)
        show SX _ _ _ _ _ _
        refine sx_nil ?_
        exact ⟨((some c_36), (c_3 ++ [(r_26, r_28, c_35)])), h, (by wtm_at "g.inv"), At.gen [3] [0, 1, 3] (Le.same (Le.same (Le.same (Le.same (Le.same (Le.lose (Le.lose (Le.lose (Le.lose Le.nil))))))))) rfl (by decide) (SelR.cons rfl (RenC.flat (by wtm_at "d.flat")) (SelR.cons rfl (RenC.flat (by wtm_at "d.flat")) (SelR.cons rfl (RenC.flat (by wtm_at "d.flat")) SelR.nil))) rfl rfl⟩
      case n17 =>
        intro hb16
        have hb16x := hb16
        try simp only [Bool.and_eq_true, Bool.or_eq_true, Bool.and_eq_false_iff, Bool.or_eq_false_iff, decide_eq_true_eq, decide_eq_false_iff_not, Bool.not_eq_true', Bool.not_eq_false', Bool.not_eq_eq_eq_not, Bool.not_true, Bool.not_false] at hb16x
        rw [if_neg (by rw [hb16]; decide)] at h
        refine sx_nil ?_
        show SX _ _ _ _ _ _
        replace h := letF_elim h
        obtain ⟨r_41, er_41, h⟩ := h
        replace h := letF_elim h
        obtain ⟨c_42, ec_42, h⟩ := h
        have p26 := take_ok f_5 count_0 (by wtm_at "g.sd") (by wtm_at "g.sd")
        refine sx_cons (s1_set TL rfl (ev_as (t := .val (.int r_41)) (cs2 := [(.lst ((c_3.map e_tup_int_int_int).map SV.val)), (.lst ((([] : (List Int)).map PyData.int).map SV.val)), (.lst ((c_42.map PyData.int).map SV.val))]) (ev_callM (κ := [2]) C_law_take hr (by decide) rfl (av_cons (ev_name T rfl (Lk.there (Lk.there (Lk.there Lk.here))) rfl) (av_cons (ev_name T rfl (Lk.there Lk.here) rfl) av_nil)) (Sel.cons rfl (by wtm_at "d.flat") (by intro z; cases z) Sel.nil) (RenA.cell rfl (RenA.val RenA.nil)) (Sp_law_take.mk (feed_here_0 := f_5) (many_0 := count_0) (by wtm_at "g.pre") (by wtm_at "g.pre")) (SetA.cons (PutC.there (PutC.there PutC.here)) SetA.nil) (List.prefix_refl _) (by wtm_at "g.flat") (by decide) rfl) (by subst er_41; subst ec_42; rfl) (by subst er_41; subst ec_42; rfl)) (Put.there (Put.there (Put.there (Put.there (Put.there (Put.there Put.here)))))) ?_ rfl)
        show SX _ _ _ _ _ _
        replace h := letF_elim h
        obtain ⟨r_43, er_43, h⟩ := h
        replace h := letF_elim h
        obtain ⟨c_44, ec_44, h⟩ := h
        have p27 := take_ok c_42 count_0 (by wtm_at "g.sd") (by wtm_at "g.sd")
        refine sx_cons (s1_set TL rfl (ev_as (t := .val (.int r_43)) (cs2 := [(.lst ((c_3.map e_tup_int_int_int).map SV.val)), (.lst ((([] : (List Int)).map PyData.int).map SV.val)), (.lst ((c_44.map PyData.int).map SV.val))]) (ev_callM (κ := [2]) C_law_take hr (by decide) rfl (av_cons (ev_name T rfl (Lk.there (Lk.there (Lk.there Lk.here))) rfl) (av_cons (ev_name T rfl (Lk.there Lk.here) rfl) av_nil)) (Sel.cons rfl (by wtm_at "d.flat") (by intro z; cases z) Sel.nil) (RenA.cell rfl (RenA.val RenA.nil)) (Sp_law_take.mk (feed_here_0 := c_42) (many_0 := count_0) (by wtm_at "g.pre") (by wtm_at "g.pre")) (SetA.cons (PutC.there (PutC.there PutC.here)) SetA.nil) (List.prefix_refl _) (by wtm_at "g.flat") (by decide) rfl) (by subst er_43; subst ec_44; rfl) (by subst er_43; subst ec_44; rfl)) (Put.there (Put.there (Put.there (Put.there (Put.there (Put.there (Put.there Put.here))))))) ?_ rfl)
        show SX _ _ _ _ _ _
        replace h := letF_elim h
        obtain ⟨r_45, er_45, h⟩ := h
        replace h := letF_elim h
        obtain ⟨c_46, ec_46, h⟩ := h
        replace h := letF_elim h
        obtain ⟨c_47, ec_47, h⟩ := h
        have p28 := take_ok c_44 12 (by wtm_at "g.sd") (by wtm_at "g.sd")
        refine sx_cons (s1_set TL rfl (ev_is (t := .val (.int c_47)) (ev_sub (ev_as (t := .val (.int r_45)) (cs2 := [(.lst ((c_3.map e_tup_int_int_int).map SV.val)), (.lst ((([] : (List Int)).map PyData.int).map SV.val)), (.lst ((c_46.map PyData.int).map SV.val))]) (ev_callM (κ := [2]) C_law_take hr (by decide) rfl (av_cons (ev_name T rfl (Lk.there (Lk.there (Lk.there Lk.here))) rfl) (av_cons ev_int av_nil)) (Sel.cons rfl (by wtm_at "d.flat") (by intro z; cases z) Sel.nil) (RenA.cell rfl (RenA.val RenA.nil)) (Sp_law_take.mk (feed_here_0 := c_44) (many_0 := 12) (by wtm_at "g.pre") (by wtm_at "g.pre")) (SetA.cons (PutC.there (PutC.there PutC.here)) SetA.nil) (List.prefix_refl _) (by wtm_at "g.flat") (by decide) rfl) (by subst er_45; subst ec_46; rfl) (by subst er_45; subst ec_46; rfl)) ev_int) (by subst ec_47; rfl)) (Put.there (Put.there (Put.there (Put.there (Put.there (Put.there (Put.there (Put.there Put.here)))))))) ?_ rfl)
        show SX _ _ _ _ _ _
        replace h := letF_elim h
        obtain ⟨r_48, er_48, h⟩ := h
        replace h := letF_elim h
        obtain ⟨c_49, ec_49, h⟩ := h
        have p29 := take_ok c_46 4 (by wtm_at "g.sd") (by wtm_at "g.sd")
        replace h := joinF_elim h
        obtain ⟨j_3, hj_3, h⟩ := h
        refine' sx_cutA (fun sl1 cs1 => ∃ q_52 : (Int × (List Int)), j_3 q_52 = R0 ∧ (0 < q_52.2.length ∧ q_52.2.length ≤ 2) ∧ sl1 = [some (.val (Scr.D script_0)), some (.val (.int count_0)), some (.cell 0), some (.cell 2), some (.val (.int many_2)), some (.val (.int (x_6 : Int))), some (.val (.int r_41)), some (.val (.int r_43)), some (.val (.int q_52.1))] ∧ cs1 = [(.lst ((c_3.map e_tup_int_int_int).map SV.val)), (.lst ((([] : (List Int)).map PyData.int).map SV.val)), (.lst ((q_52.2.map PyData.int).map SV.val))]) ?st31 ?rest31
        case st31 =>
          refine' s1_if (tv_eqI (ev_as (t := .val (.int r_48)) (cs2 := [(.lst ((c_3.map e_tup_int_int_int).map SV.val)), (.lst ((([] : (List Int)).map PyData.int).map SV.val)), (.lst ((c_49.map PyData.int).map SV.val))]) (ev_callM (κ := [2]) C_law_take hr (by decide) rfl (av_cons (ev_name T rfl (Lk.there (Lk.there (Lk.there Lk.here))) rfl) (av_cons ev_int av_nil)) (Sel.cons rfl (by wtm_at "d.flat") (by intro z; cases z) Sel.nil) (RenA.cell rfl (RenA.val RenA.nil)) (Sp_law_take.mk (feed_here_0 := c_46) (many_0 := 4) (by wtm_at "g.pre") (by wtm_at "g.pre")) (SetA.cons (PutC.there (PutC.there PutC.here)) SetA.nil) (List.prefix_refl _) (by wtm_at "g.flat") (by decide) rfl) (by subst er_48; subst ec_49; rfl) (by subst er_48; subst ec_49; rfl)) ev_int) ?y31 ?n31
          case y31 =>
            intro hb30
            have hb30x := hb30
            try simp only [Bool.and_eq_true, Bool.or_eq_true, Bool.and_eq_false_iff, Bool.or_eq_false_iff, decide_eq_true_eq, decide_eq_false_iff_not, Bool.not_eq_true', Bool.not_eq_false', Bool.not_eq_eq_eq_not, Bool.not_true, Bool.not_false] at hb30x
            rw [if_pos hb30] at h
            replace h := letF_elim h
            obtain ⟨r_53, er_53, h⟩ := h
            replace h := letF_elim h
            obtain ⟨c_54, ec_54, h⟩ := h
            replace h := letF_elim h
            obtain ⟨c_55, ec_55, h⟩ := h
            have p32 := take_ok c_49 2000000000000000001 (by wtm_at "g.sd") (by wtm_at "g.sd")
            refine sx_cons (s1_set TL rfl (ev_is (t := .val (.int c_55)) (ev_sub (ev_as (t := .val (.int r_53)) (cs2 := [(.lst ((c_3.map e_tup_int_int_int).map SV.val)), (.lst ((([] : (List Int)).map PyData.int).map SV.val)), (.lst ((c_54.map PyData.int).map SV.val))]) (ev_callM (κ := [2]) C_law_take hr (by decide) rfl (av_cons (ev_name T rfl (Lk.there (Lk.there (Lk.there Lk.here))) rfl) (av_cons (ev_is (t := .val (.int 2000000000000000001)) (ev_add (ev_is (t := .val (.int 2000000000000000000)) (ev_mul ev_int (ev_is (t := .val (.int 1000000000000000000)) (ev_pow ev_int ev_int ⟨by decide, by decide, by decide⟩) rfl) (by wtm_at "d.mul")) rfl) ev_int) rfl) av_nil)) (Sel.cons rfl (by wtm_at "d.flat") (by intro z; cases z) Sel.nil) (RenA.cell rfl (RenA.val RenA.nil)) (Sp_law_take.mk (feed_here_0 := c_49) (many_0 := 2000000000000000001) (by wtm_at "g.pre") (by wtm_at "g.pre")) (SetA.cons (PutC.there (PutC.there PutC.here)) SetA.nil) (List.prefix_refl _) (by wtm_at "g.flat") (by decide) rfl) (by subst er_53; subst ec_54; rfl) (by subst er_53; subst ec_54; rfl)) (ev_is (t := .val (.int 1000000000000000000)) (ev_pow ev_int ev_int ⟨by decide, by decide, by decide⟩) rfl)) (by subst ec_55; rfl)) (Put.there (Put.there (Put.there (Put.there (Put.there (Put.there (Put.there (Put.there Put.here)))))))) ?_ rfl)
            show SX _ _ _ _ _ _
            refine sx_nil ?_
            exact ⟨_, _, ⟨(c_55, c_54), h, (by wtm_at "g.inv"), rfl, rfl⟩, (At.same (Le.same (Le.same (Le.same (Le.same (Le.same (Le.same (Le.same (Le.same (Le.same Le.nil))))))))))⟩
          case n31 =>
            intro hb30
            have hb30x := hb30
            try simp only [Bool.and_eq_true, Bool.or_eq_true, Bool.and_eq_false_iff, Bool.or_eq_false_iff, decide_eq_true_eq, decide_eq_false_iff_not, Bool.not_eq_true', Bool.not_eq_false', Bool.not_eq_eq_eq_not, Bool.not_true, Bool.not_false] at hb30x
            rw [if_neg (by rw [hb30]; decide)] at h
            refine sx_nil ?_
            exact ⟨_, _, ⟨(c_47, c_49), h, (by wtm_at "g.inv"), rfl, rfl⟩, (At.same (Le.same (Le.same (Le.same (Le.same (Le.same (Le.same (Le.same (Le.same (Le.same Le.nil))))))))))⟩
        clear h
        rintro _ _ ⟨⟨c_50, c_51⟩, h, hi3, rfl, rfl⟩
        replace h := hj_3 _ h
        try dsimp only at h hi3
        show SX _ _ _ [some (.val (Scr.D script_0)), some (.val (.int count_0)), some (.cell 0), some (.cell 2), some (.val (.int many_2)), some (.val (.int (x_6 : Int))), some (.val (.int r_41)), some (.val (.int r_43)), some (.val (.int c_50))] [(.lst ((c_3.map e_tup_int_int_int).map SV.val)), (.lst ((([] : (List Int)).map PyData.int).map SV.val)), (.lst ((c_51.map PyData.int).map SV.val))] _
        refine sx_cons (s1_expr (ev_appT (f := e_tup_int_int_int) (l := c_3) (y := (r_41, r_43, c_50)) (ev_name T rfl (Lk.there (Lk.there Lk.here)) rfl) (ev_tup (ad_cons (ev_name T rfl (Lk.there (Lk.there (Lk.there (Lk.there (Lk.there (Lk.there Lk.here)))))) rfl) (ad_cons (ev_name T rfl (Lk.there (Lk.there (Lk.there (Lk.there (Lk.there (Lk.there (Lk.there Lk.here))))))) rfl) (ad_cons (ev_name T rfl (Lk.there (Lk.there (Lk.there (Lk.there (Lk.there (Lk.there (Lk.there (Lk.there Lk.here)))))))) rfl) ad_nil))) rfl) rfl rfl PutC.here (by wtm_at "g.sd")) ?_)
        show SX _ _ _ _ _ _
        refine sx_nil ?_
        exact ⟨((some c_51), (c_3 ++ [(r_41, r_43, c_50)])), h, (by wtm_at "g.inv"), At.gen [2] [0, 1, 2] (Le.same (Le.same (Le.same (Le.same (Le.same (Le.lose (Le.lose (Le.lose (Le.lose Le.nil))))))))) rfl (by decide) (SelR.cons rfl (RenC.flat (by wtm_at "d.flat")) (SelR.cons rfl (RenC.flat (by wtm_at "d.flat")) (SelR.cons rfl (RenC.flat (by wtm_at "d.flat")) SelR.nil))) rfl rfl⟩
  case dn3 =>
    clear h
    rintro ⟨o_7, c_3⟩ hJ1 h slx hlx
    obtain ⟨hJ1_0, hJ1_1⟩ := hJ1
    cases o_7 with
    | none =>
      try dsimp only at h
      refine sx_weak hlx ?_
      show SX _ _ _ [some (.val (Scr.D script_0)), some (.val (.int count_0)), some (.cell 0), none, some (.val (.int many_2)), none, none, none, none] [(.lst ((c_3.map e_tup_int_int_int).map SV.val)), (.lst ((([] : (List Int)).map PyData.int).map SV.val))] _
      refine sx_cons (s1_ret (ev_name T rfl (Lk.there (Lk.there Lk.here)) rfl) ?_)
      show RetOk _ _ _ _ _
      subst h
      exact ret_new (c := []) (Nat.le_of_ble_eq_true rfl) rfl rfl (by wtm_at "d.flat") (by intro z; cases z) rfl rfl (by wtm_at "d.lt")
    | some f_5 =>
      try dsimp only at h
      refine sx_weak hlx ?_
      show SX _ _ _ [some (.val (Scr.D script_0)), some (.val (.int count_0)), some (.cell 0), some (.cell 2), some (.val (.int many_2)), none, none, none, none] [(.lst ((c_3.map e_tup_int_int_int).map SV.val)), (.lst ((([] : (List Int)).map PyData.int).map SV.val)), (.lst ((f_5.map PyData.int).map SV.val))] _
      refine sx_cons (s1_ret (ev_name T rfl (Lk.there (Lk.there Lk.here)) rfl) ?_)
      show RetOk _ _ _ _ _
      subst h
      exact ret_new (c := []) (Nat.le_of_ble_eq_true rfl) rfl rfl (by wtm_at "d.flat") (by intro z; cases z) rfl rfl (by wtm_at "d.lt")
end
local macro_rules | `(tactic| wtm_at "d.mul") => `(tactic| first | exact bd_mul_small (Wb.bd (And.right (And.right ‹(0 : Int) ≤ _ ∧ _ ∧ Wb _ _›))) (by omega) | (subst_vars; exact bd_mul_small (by assumption) (by omega)) | (subst_vars; exact small_mul (by omega) (by omega)))
local macro_rules | `(tactic| wtm_at "g.inv") => `(tactic| first | exact ⟨by omega, by omega, Wb.start⟩ | (refine ⟨by omega, by omega, ?_⟩; subst_vars; exact Wb.step (And.right (And.right ‹(0 : Int) ≤ _ ∧ _ ∧ Wb _ _›)) (by omega) (by omega)))
local macro_rules | `(tactic| wtm_at "g.pre") => `(tactic| (simp only [List.length_replicate]; done))
local macro_rules | `(tactic| wtm_at "g.inv") => `(tactic| first | exact ⟨rfl, rfl⟩ | (dsimp only; wtm_at "g.sd"))
def m_eased (values_0 : (List Int)) (last_0 : (List (Option (Int × Int × Int)))) (ties_0 : (List (Int × Int × Int))) : (Option Int) × (List Int) × (List (Option (Int × Int × Int))) := forL (fun (x_5 : (Int × Int × Int)) (s_6 : ((Option Int) × (List Int) × (List (Option (Int × Int × Int))))) n_1 => if (decide (((ixD s_6.2.1 x_5.2.1) + x_5.2.2) < (ixD s_6.2.1 x_5.1))) then n_1 ((some x_5.1), (s_6.2.1.set (x_5.1 : Int).toNat ((ixD s_6.2.1 x_5.2.1) + x_5.2.2)), (s_6.2.2.set (x_5.1 : Int).toNat (some x_5))) else n_1 (s_6.1, s_6.2.1, s_6.2.2)) (fun s_6 : ((Option Int) × (List Int) × (List (Option (Int × Int × Int)))) => (s_6.1, s_6.2.1, s_6.2.2)) ties_0 ((none : (Option Int)), values_0, last_0)
section
variable {P : Program} {w : World} {K : PySem.W.Frag} {mg : Str → Option Value} {base : Heap}
inductive Sp_eased : Spec
  | mk {values_0 : (List Int)} {last_0 : (List (Option (Int × Int × Int)))} {ties_0 : (List (Int × Int × Int))} (hl : last_0.length = values_0.length) (ht : ∀ t ∈ ties_0, 0 ≤ t.1 ∧ t.1 < (values_0.length : Int) ∧ 0 ≤ t.2.1 ∧ t.2.1 < (values_0.length : Int)) : Sp_eased [.cell 0, .cell 1, .cell 2] [(.lst ((values_0.map PyData.int).map SV.val)), (.lst ((last_0.map (optD e_tup_int_int_int)).map SV.val)), (.lst ((ties_0.map e_tup_int_int_int).map SV.val))] (.val ((optD PyData.int) (m_eased values_0 last_0 ties_0).1)) [(.lst (((m_eased values_0 last_0 ties_0).2.1.map PyData.int).map SV.val)), (.lst (((m_eased values_0 last_0 ties_0).2.2.map (optD e_tup_int_int_int)).map SV.val)), (.lst ((ties_0.map e_tup_int_int_int).map SV.val))]
theorem cal_eased (D : DefAt K mg "eased" s_eased P_eased) : Cal P w K mg base 1 "eased" 3 Sp_eased := by
  refine cal_def D sc_eased tb_eased (fun f cdv A outer s0 H E hr T TL svs cs sv cs1 hsp hl => ?_)
  cases hsp with
  | @mk values_0 last_0 ties_0 hl ht =>
  obtain ⟨R0, h⟩ : ∃ R0, (m_eased values_0 last_0 ties_0) = R0 := ⟨_, rfl⟩
  rw [h]
  unfold m_eased at h
  show SX _ _ _ [some (.cell 0), some (.cell 1), some (.cell 2), none, none, none, none, none] [(.lst ((values_0.map PyData.int).map SV.val)), (.lst ((last_0.map (optD e_tup_int_int_int)).map SV.val)), (.lst ((ties_0.map e_tup_int_int_int).map SV.val))] _
  refine sx_cons (s1_set TL rfl ev_none (Put.there (Put.there (Put.there Put.here))) ?_ rfl)
  show SX _ _ _ _ _ _
  refine' sx_cons ?lp2
  refine' s1_forK ties_0 (fun x => SV.val (e_tup_int_int_int x)) _ _ R0 ((none : (Option Int)), values_0, last_0) (fun l_1 (s_6 : ((Option Int) × (List Int) × (List (Option (Int × Int × Int))))) => (s_6.2.1.length = values_0.length ∧ s_6.2.2.length = last_0.length)) h PassesOwn.never rfl (iv_mapC (iv_cell (ev_name T rfl (Lk.there (Lk.there Lk.here)) rfl) rfl)) ?j02 (fun s_6 : ((Option Int) × (List Int) × (List (Option (Int × Int × Int)))) => [some (.cell 0), some (.cell 1), some (.cell 2), some (.val ((optD PyData.int) s_6.1)), none, none, none, none]) (fun s_6 : ((Option Int) × (List Int) × (List (Option (Int × Int × Int)))) => [(.lst ((s_6.2.1.map PyData.int).map SV.val)), (.lst ((s_6.2.2.map (optD e_tup_int_int_int)).map SV.val)), (.lst ((ties_0.map e_tup_int_int_int).map SV.val))]) (Le.same (Le.same (Le.same (Le.same (Le.lose (Le.lose (Le.lose (Le.lose Le.nil)))))))) rfl (by intro _; rfl) ?tu2 ?dn2
  case j02 => wtm_at "g.inv"
  case tu2 =>
    clear h
    rintro x_5 l_1 ⟨moved_1, c_2, c_3⟩ n_1 hm1 hJ1 h
    have hm1 := mem_mid hm1
    have hm1r := ht x_5 hm1
    try dsimp only at h hJ1
    refine gx_name TL rfl (Put.there (Put.there (Put.there (Put.there Put.here)))) ?_ rfl
    show SX _ _ _ [some (.cell 0), some (.cell 1), some (.cell 2), some (.val ((optD PyData.int) moved_1)), some (.val (.tuple [(.int x_5.1), (.int x_5.2.1), (.int x_5.2.2)])), none, none, none] [(.lst ((c_2.map PyData.int).map SV.val)), (.lst ((c_3.map (optD e_tup_int_int_int)).map SV.val)), (.lst ((ties_0.map e_tup_int_int_int).map SV.val))] _
    refine sx_cons (s1_asg (ev_name T rfl (Lk.there (Lk.there (Lk.there (Lk.there Lk.here)))) rfl) ?_)
    refine gx_tup rfl (gxs_cons (gx_name TL rfl (Put.there (Put.there (Put.there (Put.there (Put.there Put.here))))) (gxs_cons (gx_name TL rfl (Put.there (Put.there (Put.there (Put.there (Put.there (Put.there Put.here)))))) (gxs_cons (gx_name TL rfl (Put.there (Put.there (Put.there (Put.there (Put.there (Put.there (Put.there Put.here))))))) (gxs_nil ?_) rfl)) rfl)) rfl)) rfl
    show SX _ _ _ _ _ _
    have at3 : L2.atI (c_2.map PyData.int) x_5.1 = some (PyData.int (ixD c_2 x_5.1)) := at_ixD (f := PyData.int) (by wtm_at "g.sd") (by wtm_at "g.sd")
    have at4 : L2.atI (c_2.map PyData.int) x_5.2.1 = some (PyData.int (ixD c_2 x_5.2.1)) := at_ixD (f := PyData.int) (by wtm_at "g.sd") (by wtm_at "g.sd")
    refine' sx_cons (s1_if (tv_gt (ev_ixL (ev_name T rfl Lk.here rfl) (ev_name T rfl (Lk.there (Lk.there (Lk.there (Lk.there (Lk.there Lk.here))))) rfl) (IsL.cell rfl) (atI_map at3)) (ev_add (ev_ixL (ev_name T rfl Lk.here rfl) (ev_name T rfl (Lk.there (Lk.there (Lk.there (Lk.there (Lk.there (Lk.there Lk.here)))))) rfl) (IsL.cell rfl) (atI_map at4)) (ev_name T rfl (Lk.there (Lk.there (Lk.there (Lk.there (Lk.there (Lk.there (Lk.there Lk.here))))))) rfl))) ?y6 ?n6)
    case y6 =>
      intro hb5
      have hb5x := hb5
      try simp only [Bool.and_eq_true, Bool.or_eq_true, Bool.and_eq_false_iff, Bool.or_eq_false_iff, decide_eq_true_eq, decide_eq_false_iff_not, Bool.not_eq_true', Bool.not_eq_false', Bool.not_eq_eq_eq_not, Bool.not_true, Bool.not_false] at hb5x
      rw [if_pos hb5] at h
      have at7 : L2.atI (c_2.map PyData.int) x_5.2.1 = some (PyData.int (ixD c_2 x_5.2.1)) := at_ixD (f := PyData.int) (by wtm_at "g.sd") (by wtm_at "g.sd")
      refine sx_cons (s1_lputT (f := PyData.int) (l := c_2) (y := ((ixD c_2 x_5.2.1) + x_5.2.2)) (z := x_5.1) (ev_add (ev_ixL (ev_name T rfl Lk.here rfl) (ev_name T rfl (Lk.there (Lk.there (Lk.there (Lk.there (Lk.there (Lk.there Lk.here)))))) rfl) (IsL.cell rfl) (atI_map at7)) (ev_name T rfl (Lk.there (Lk.there (Lk.there (Lk.there (Lk.there (Lk.there (Lk.there Lk.here))))))) rfl)) (ev_name T rfl Lk.here rfl) (ev_name T rfl (Lk.there (Lk.there (Lk.there (Lk.there (Lk.there Lk.here))))) rfl) rfl (by wtm_at "g.sd") (by wtm_at "g.sd") PutC.here ?_)
      show SX _ _ _ _ _ _
      refine sx_cons (s1_lputT (f := (optD e_tup_int_int_int)) (l := c_3) (y := (some x_5)) (z := x_5.1) (ev_name T rfl (Lk.there (Lk.there (Lk.there (Lk.there Lk.here)))) rfl) (ev_name T rfl (Lk.there Lk.here) rfl) (ev_name T rfl (Lk.there (Lk.there (Lk.there (Lk.there (Lk.there Lk.here))))) rfl) rfl (by wtm_at "g.sd") (by wtm_at "g.sd") (PutC.there PutC.here) ?_)
      show SX _ _ _ _ _ _
      refine sx_cons (s1_set TL rfl (ev_name T rfl (Lk.there (Lk.there (Lk.there (Lk.there (Lk.there Lk.here))))) rfl) (Put.there (Put.there (Put.there Put.here))) ?_ rfl)
      show SX _ _ _ _ _ _
      refine sx_nil ?_
      show SX _ _ _ _ _ _
      refine sx_nil ?_
      exact ⟨((some x_5.1), (c_2.set (x_5.1 : Int).toNat ((ixD c_2 x_5.2.1) + x_5.2.2)), (c_3.set (x_5.1 : Int).toNat (some x_5))), h, (by wtm_at "g.inv"), (At.same (Le.same (Le.same (Le.same (Le.same (Le.lose (Le.lose (Le.lose (Le.lose Le.nil)))))))))⟩
    case n6 =>
      intro hb5
      have hb5x := hb5
      try simp only [Bool.and_eq_true, Bool.or_eq_true, Bool.and_eq_false_iff, Bool.or_eq_false_iff, decide_eq_true_eq, decide_eq_false_iff_not, Bool.not_eq_true', Bool.not_eq_false', Bool.not_eq_eq_eq_not, Bool.not_true, Bool.not_false] at hb5x
      rw [if_neg (by rw [hb5]; decide)] at h
      refine sx_nil ?_
      show SX _ _ _ _ _ _
      refine sx_nil ?_
      exact ⟨(moved_1, c_2, c_3), h, (by wtm_at "g.inv"), (At.same (Le.same (Le.same (Le.same (Le.same (Le.lose (Le.lose (Le.lose (Le.lose Le.nil)))))))))⟩
  case dn2 =>
    clear h
    rintro ⟨moved_1, c_2, c_3⟩ hJ1 h slx hlx
    try dsimp only at h hJ1
    refine sx_weak hlx ?_
    show SX _ _ _ [some (.cell 0), some (.cell 1), some (.cell 2), some (.val ((optD PyData.int) moved_1)), none, none, none, none] [(.lst ((c_2.map PyData.int).map SV.val)), (.lst ((c_3.map (optD e_tup_int_int_int)).map SV.val)), (.lst ((ties_0.map e_tup_int_int_int).map SV.val))] _
    refine sx_cons (s1_ret (ev_name T rfl (Lk.there (Lk.there (Lk.there Lk.here))) rfl) ?_)
    show RetOk _ _ _ _ _
    subst h
    exact ret_val rfl rfl rfl (by wtm_at "d.lt")
end
abbrev Tie := Int × Int × Int
abbrev Last := List (Option Tie)
theorem eased_len (vs : List Int) (la : Last) (ts : List Tie) : (m_eased vs la ts).2.1.length = vs.length ∧ (m_eased vs la ts).2.2.length = la.length := by
  unfold m_eased
  refine forL_inv (Q := fun (r : Option Int × List Int × Last) => r.2.1.length = vs.length ∧ r.2.2.length = la.length) (fun (_ : List Tie) (s : Option Int × List Int × Last) => s.2.1.length = vs.length ∧ s.2.2.length = la.length) (fun s h => h) _ _ (fun x _ xs s n h k => ?_) ⟨rfl, rfl⟩
  try dsimp only
  split
  · exact k _ ⟨by rw [List.length_set]; exact h.1, by rw [List.length_set]; exact h.2⟩
  · exact k _ h
abbrev stepL (la : Last) (a : Int) : Int := ((ixD la a).getD default).2.1
def itN (la : Last) (a : Int) : Nat → Int
  | 0 => a
  | k + 1 => stepL la (itN la a k)
def OkAt (la : Last) (a : Int) : Prop := 0 ≤ a ∧ a < la.length ∧ (ixD la a).isSome = true
structure RingOk (la : Last) (a : Int) : Prop where
  ok : ∀ k, OkAt la (itN la a k)
  cyc : ∃ p, 0 < p ∧ p ≤ la.length ∧ itN la a (la.length + p) = itN la a la.length
theorem itN_add (la : Last) (a : Int) (m : Nat) : ∀ k, itN la a (m + k) = itN la (itN la a m) k
  | 0 => rfl
  | k + 1 => by
    show stepL la (itN la a (m + k)) = stepL la (itN la (itN la a m) k)
    rw [itN_add la a m k]
def AtK (la : Last) (a : Int) (r : Nat) (x : Int) : Prop := r ≤ la.length ∧ x = itN la a (la.length - r)
theorem AtK.start {la : Last} {a : Int} : AtK la a (List.range ((la.length : Int) : Int).toNat).length a := by
  rw [List.length_range]
  refine ⟨by omega, ?_⟩
  have : la.length - ((la.length : Int)).toNat = 0 := by omega
  rw [this]
  rfl
theorem AtK.step {la : Last} {a x : Int} {r : Nat} (h : AtK la a (r + 1) x) : AtK la a r (stepL la x) := by
  obtain ⟨h1, rfl⟩ := h
  refine ⟨by omega, ?_⟩
  have : la.length - r = (la.length - (r + 1)) + 1 := by omega
  rw [this]
  rfl
theorem RingOk.at {la : Last} {a x : Int} {r : Nat} (h : RingOk la a) (hk : AtK la a r x) : OkAt la x := by
  obtain ⟨_, rfl⟩ := hk
  exact h.ok _
structure Cyc (la : Last) (x : Int) : Prop where
  ok : ∀ k, OkAt la (itN la x k)
  cyc : ∃ p, 0 < p ∧ p ≤ la.length ∧ itN la x p = x
theorem RingOk.fin {la : Last} {a x : Int} (h : RingOk la a) (hk : AtK la a 0 x) : Cyc la x := by
  obtain ⟨_, rfl⟩ := hk
  rw [Nat.sub_zero]
  refine ⟨fun k => by rw [← itN_add]; exact h.ok _, ?_⟩
  obtain ⟨p, h1, h2, e⟩ := h.cyc
  exact ⟨p, h1, h2, by rw [← itN_add]; exact e⟩
def RingW (la : Last) (x here : Int) (left : Nat) : Prop := ∃ p j, 0 < p ∧ p ≤ la.length ∧ itN la x p = x ∧ 0 < j ∧ j ≤ p ∧ here = itN la x j ∧ p + 1 ≤ j + left ∧ ∀ k, OkAt la (itN la x k)
theorem RingW.start {la : Last} {x : Int} (h : Cyc la x) : RingW la x (stepL la x) (la.length + 1) := by
  obtain ⟨p, h1, h2, e⟩ := h.cyc
  exact ⟨p, 1, h1, h2, e, by omega, by omega, rfl, by omega, h.ok⟩
theorem RingW.ok {la : Last} {x here : Int} {n : Nat} (h : RingW la x here n) : OkAt la here := by
  obtain ⟨p, j, _, _, _, _, _, rfl, _, h⟩ := h
  exact h j
theorem RingW.step {la : Last} {x here : Int} {n : Nat} (h : RingW la x here (n + 1)) (hne : ¬ here = x) : 0 < n ∧ RingW la x (stepL la here) n := by
  obtain ⟨p, j, h1, h2, e, h3, h4, rfl, h5, h⟩ := h
  have hj : j ≠ p := fun z => hne (by rw [z]; exact e)
  exact ⟨by omega, p, j + 1, h1, h2, e, by omega, by omega, rfl, by omega, h⟩
local macro_rules | `(tactic| wtm_at "g.inv") => `(tactic| first | exact AtK.start | (subst_vars; exact AtK.step (by assumption)) | (subst_vars; exact RingW.start (by assumption)) | (subst_vars; assumption))
def m_ring_at (last_0 : (List (Option (Int × Int × Int)))) (at_0 : Int) : (List (Int × Int × Int)) := forL (fun (x_3 : Nat) (s_4 : (Int)) n_1 => letF (((ixD last_0 s_4)).getD default).2.1 fun at_5 => n_1 (at_5)) (fun s_4 : (Int) => letF (((ixD last_0 s_4)).getD default).2.1 fun here_6 => whileL (fun (s_10 : (Int × (List (Int × Int × Int)))) w_1 => if (!decide (s_10.1 = s_4)) then letF (((ixD last_0 s_10.1)).getD default).2.1 fun here_11 => w_1 (here_11, (s_10.2 ++ [(((ixD last_0 s_10.1)).getD default)])) else s_10.2) (last_0.length + 1) (here_6, ([(((ixD last_0 s_4)).getD default)] : (List (Int × Int × Int)))) (([(((ixD last_0 s_4)).getD default)] : (List (Int × Int × Int))))) (List.range ((last_0.length : Int) : Int).toNat) (at_0)
section
variable {P : Program} {w : World} {K : PySem.W.Frag} {mg : Str → Option Value} {base : Heap}
inductive Sp_ring_at : Spec
  | mk {last_0 : (List (Option (Int × Int × Int)))} {at_0 : Int} (hp : RingOk last_0 at_0) (hz : last_0.length ≤ 1000) : Sp_ring_at [.cell 0, .val (.int at_0)] [(.lst ((last_0.map (optD e_tup_int_int_int)).map SV.val))] (.cell 1) [(.lst ((last_0.map (optD e_tup_int_int_int)).map SV.val)), (.lst (((m_ring_at last_0 at_0).map e_tup_int_int_int).map SV.val))]
theorem cal_ring_at (D : DefAt K mg "ring_at" s_ring_at P_ring_at) (z_len : mg "len" = none) (z_range : mg "range" = none) : Cal P w K mg base 1 "ring_at" 2 Sp_ring_at := by
  refine cal_def D sc_ring_at tb_ring_at (fun f cdv A outer s0 H E hr T TL svs cs sv cs1 hsp hl => ?_)
  cases hsp with
  | @mk last_0 at_0 hp hz =>
  obtain ⟨R0, h⟩ : ∃ R0, (m_ring_at last_0 at_0) = R0 := ⟨_, rfl⟩
  rw [h]
  unfold m_ring_at at h
  show SX _ _ _ [some (.cell 0), some (.val (.int at_0)), none, none, none] [(.lst ((last_0.map (optD e_tup_int_int_int)).map SV.val))] _
  refine' sx_cons ?lp2
  refine' s1_forK (List.range ((last_0.length : Int) : Int).toNat) (fun i : Nat => SV.val (.int (i : Int))) _ _ R0 (at_0) (fun l_1 (s_4 : (Int)) => (AtK last_0 at_0 l_1.length s_4)) h PassesOwn.never rfl (iv_range1 z_range rfl (ev_is (t := .val (.int (last_0.length : Int))) (ev_len z_len rfl (ev_name T rfl Lk.here rfl) (rc_lenL (IsL.cell rfl))) (by simp only [List.length_map])) (by wtm_at "g.sd") (by wtm_at "g.sd")) ?j02 (fun s_4 : (Int) => [some (.cell 0), some (.val (.int s_4)), none, none, none]) (fun s_4 : (Int) => [(.lst ((last_0.map (optD e_tup_int_int_int)).map SV.val))]) (Le.same (Le.same (Le.lose (Le.lose (Le.lose Le.nil))))) rfl (fun _ => trivial) ?tu2 ?dn2
  case j02 => wtm_at "g.inv"
  case tu2 =>
    clear h
    rintro x_3 l_1 at_1 n_1 hm1 hJ1 h
    have hm1 := mem_mid hm1
    have hm1r := List.mem_range.mp hm1
    try dsimp only at h hJ1
    obtain ⟨q1, q2, q3⟩ := hp.at hJ1
    refine gx_name TL rfl (Put.there (Put.there Put.here)) ?_ rfl
    show SX _ _ _ [some (.cell 0), some (.val (.int at_1)), some (.val (.int (x_3 : Int))), none, none] [(.lst ((last_0.map (optD e_tup_int_int_int)).map SV.val))] _
    replace h := letF_elim h
    obtain ⟨at_5, eat_5, h⟩ := h
    have at3 : L2.atI (last_0.map (optD e_tup_int_int_int)) at_1 = some ((optD e_tup_int_int_int) (ixD last_0 at_1)) := at_ixD (f := (optD e_tup_int_int_int)) (by wtm_at "g.sd") (by wtm_at "g.sd")
    have os4 : ((ixD last_0 at_1)).isSome = true := by wtm_at "g.some"
    refine sx_cons (s1_set TL rfl (ev_is (t := .val (.int at_5)) (ev_ixT (ev_is (t := .val (.tuple [(.int (((ixD last_0 at_1)).getD default).1), (.int (((ixD last_0 at_1)).getD default).2.1), (.int (((ixD last_0 at_1)).getD default).2.2)])) (ev_ixL (ev_name T rfl Lk.here rfl) (ev_name T rfl (Lk.there Lk.here) rfl) (IsL.cell rfl) (atI_map at3)) (optD_some os4)) ev_int rfl) (by subst eat_5; rfl)) (Put.there Put.here) ?_ rfl)
    show SX _ _ _ _ _ _
    refine sx_nil ?_
    exact ⟨(at_5), h, (by wtm_at "g.inv"), (At.same (Le.same (Le.same (Le.lose (Le.lose (Le.lose Le.nil))))))⟩
  case dn2 =>
    clear h
    rintro at_1 hJ1 h slx hlx
    try dsimp only at h hJ1
    refine sx_weak hlx ?_
    have q2 := hp.fin hJ1
    obtain ⟨q3, q4, q5⟩ := q2.ok 0
    simp only [itN] at q3 q4 q5
    show SX _ _ _ [some (.cell 0), some (.val (.int at_1)), none, none, none] [(.lst ((last_0.map (optD e_tup_int_int_int)).map SV.val))] _
    have at5 : L2.atI (last_0.map (optD e_tup_int_int_int)) at_1 = some ((optD e_tup_int_int_int) (ixD last_0 at_1)) := at_ixD (f := (optD e_tup_int_int_int)) (by wtm_at "g.sd") (by wtm_at "g.sd")
    have os6 : ((ixD last_0 at_1)).isSome = true := by wtm_at "g.some"
    refine sx_cons (s1_set TL rfl (ev_lstC (ss := [.val (e_tup_int_int_int (((ixD last_0 at_1)).getD default))]) (av_cons (ev_is (t := .val (.tuple [(.int (((ixD last_0 at_1)).getD default).1), (.int (((ixD last_0 at_1)).getD default).2.1), (.int (((ixD last_0 at_1)).getD default).2.2)])) (ev_ixL (ev_name T rfl Lk.here rfl) (ev_name T rfl (Lk.there Lk.here) rfl) (IsL.cell rfl) (atI_map at5)) (optD_some os6)) av_nil) (AppC.cons AppC.nil) rfl) (Put.there (Put.there (Put.there Put.here))) ?_ rfl)
    show SX _ _ _ _ _ _
    replace h := letF_elim h
    obtain ⟨here_6, ehere_6, h⟩ := h
    have at7 : L2.atI (last_0.map (optD e_tup_int_int_int)) at_1 = some ((optD e_tup_int_int_int) (ixD last_0 at_1)) := at_ixD (f := (optD e_tup_int_int_int)) (by wtm_at "g.sd") (by wtm_at "g.sd")
    have os8 : ((ixD last_0 at_1)).isSome = true := by wtm_at "g.some"
    refine sx_cons (s1_set TL rfl (ev_is (t := .val (.int here_6)) (ev_ixT (ev_is (t := .val (.tuple [(.int (((ixD last_0 at_1)).getD default).1), (.int (((ixD last_0 at_1)).getD default).2.1), (.int (((ixD last_0 at_1)).getD default).2.2)])) (ev_ixL (ev_name T rfl Lk.here rfl) (ev_name T rfl (Lk.there Lk.here) rfl) (IsL.cell rfl) (atI_map at7)) (optD_some os8)) ev_int rfl) (by subst ehere_6; rfl)) (Put.there (Put.there (Put.there (Put.there Put.here)))) ?_ rfl)
    show SX _ _ _ _ _ _
    refine' sx_cons ?lp9
    refine' s1_whileK _ _ (last_0.length + 1) R0 (here_6, ([(((ixD last_0 at_1)).getD default)] : (List (Int × Int × Int)))) (fun lf_1 (s_10 : (Int × (List (Int × Int × Int)))) => 0 < lf_1 ∧ (RingW last_0 at_1 s_10.1 lf_1 ∧ s_10.2.length + lf_1 ≤ last_0.length + 2)) h PassesOwn.never ?j09 (fun s_10 : (Int × (List (Int × Int × Int))) => [some (.cell 0), some (.val (.int at_1)), none, some (.cell 1), some (.val (.int s_10.1))]) (fun s_10 : (Int × (List (Int × Int × Int))) => [(.lst ((last_0.map (optD e_tup_int_int_int)).map SV.val)), (.lst ((s_10.2.map e_tup_int_int_int).map SV.val))]) (Le.same (Le.same (Le.lose (Le.same (Le.same Le.nil))))) rfl ?ps9 ?tu9
    case j09 => wtm_at "g.wj"
    case ps9 => exact fun _ z => Nat.lt_irrefl 0 z.1
    case tu9 =>
      clear h
      rintro lf_1 ⟨here_7, c_9⟩ w_1 ⟨hw1_0, hw1⟩ h
      try dsimp only at h hw1
      obtain ⟨w1, w2, w3⟩ := hw1.1.ok
      refine' ⟨(!decide (here_7 = at_1)), [(.lst ((last_0.map (optD e_tup_int_int_int)).map SV.val)), (.lst ((c_9.map e_tup_int_int_int).map SV.val))], (tv_neI (ev_name T rfl (Lk.there (Lk.there (Lk.there (Lk.there Lk.here)))) rfl) (ev_name T rfl (Lk.there Lk.here) rfl)), ?y9, ?n9⟩
      case y9 =>
        intro hb10
        have hb10x := hb10
        try simp only [Bool.and_eq_true, Bool.or_eq_true, Bool.and_eq_false_iff, Bool.or_eq_false_iff, decide_eq_true_eq, decide_eq_false_iff_not, Bool.not_eq_true', Bool.not_eq_false', Bool.not_eq_eq_eq_not, Bool.not_true, Bool.not_false] at hb10x
        rw [if_pos hb10] at h
        show SX _ _ _ [some (.cell 0), some (.val (.int at_1)), none, some (.cell 1), some (.val (.int here_7))] [(.lst ((last_0.map (optD e_tup_int_int_int)).map SV.val)), (.lst ((c_9.map e_tup_int_int_int).map SV.val))] _
        obtain ⟨w4, w5⟩ := hw1.1.step (by assumption)
        have at11 : L2.atI (last_0.map (optD e_tup_int_int_int)) here_7 = some ((optD e_tup_int_int_int) (ixD last_0 here_7)) := at_ixD (f := (optD e_tup_int_int_int)) (by wtm_at "g.sd") (by wtm_at "g.sd")
        have os12 : ((ixD last_0 here_7)).isSome = true := by wtm_at "g.some"
        refine sx_cons (s1_expr (ev_appT (f := e_tup_int_int_int) (l := c_9) (y := (((ixD last_0 here_7)).getD default)) (ev_name T rfl (Lk.there (Lk.there (Lk.there Lk.here))) rfl) (ev_is (t := .val (.tuple [(.int (((ixD last_0 here_7)).getD default).1), (.int (((ixD last_0 here_7)).getD default).2.1), (.int (((ixD last_0 here_7)).getD default).2.2)])) (ev_ixL (ev_name T rfl Lk.here rfl) (ev_name T rfl (Lk.there (Lk.there (Lk.there (Lk.there Lk.here)))) rfl) (IsL.cell rfl) (atI_map at11)) (optD_some os12)) rfl rfl (PutC.there PutC.here) (by wtm_at "g.sd")) ?_)
        show SX _ _ _ _ _ _
        replace h := letF_elim h
        obtain ⟨here_11, ehere_11, h⟩ := h
        have at13 : L2.atI (last_0.map (optD e_tup_int_int_int)) here_7 = some ((optD e_tup_int_int_int) (ixD last_0 here_7)) := at_ixD (f := (optD e_tup_int_int_int)) (by wtm_at "g.sd") (by wtm_at "g.sd")
        have os14 : ((ixD last_0 here_7)).isSome = true := by wtm_at "g.some"
        refine sx_cons (s1_set TL rfl (ev_is (t := .val (.int here_11)) (ev_ixT (ev_is (t := .val (.tuple [(.int (((ixD last_0 here_7)).getD default).1), (.int (((ixD last_0 here_7)).getD default).2.1), (.int (((ixD last_0 here_7)).getD default).2.2)])) (ev_ixL (ev_name T rfl Lk.here rfl) (ev_name T rfl (Lk.there (Lk.there (Lk.there (Lk.there Lk.here)))) rfl) (IsL.cell rfl) (atI_map at13)) (optD_some os14)) ev_int rfl) (by subst ehere_11; rfl)) (Put.there (Put.there (Put.there (Put.there Put.here)))) ?_ rfl)
        show SX _ _ _ _ _ _
        refine sx_nil ?_
        exact ⟨(here_11, (c_9 ++ [(((ixD last_0 here_7)).getD default)])), h, (by wtm_at "g.wj"), (At.same (Le.same (Le.same (Le.lose (Le.same (Le.same Le.nil))))))⟩
      case n9 =>
        intro hb10 slx hlx
        have hb10x := hb10
        try simp only [Bool.and_eq_true, Bool.or_eq_true, Bool.and_eq_false_iff, Bool.or_eq_false_iff, decide_eq_true_eq, decide_eq_false_iff_not, Bool.not_eq_true', Bool.not_eq_false', Bool.not_eq_eq_eq_not, Bool.not_true, Bool.not_false] at hb10x
        rw [if_neg (by rw [hb10]; decide)] at h
        refine sx_weak hlx ?_
        show SX _ _ _ [some (.cell 0), some (.val (.int at_1)), none, some (.cell 1), some (.val (.int here_7))] [(.lst ((last_0.map (optD e_tup_int_int_int)).map SV.val)), (.lst ((c_9.map e_tup_int_int_int).map SV.val))] _
        refine sx_cons (s1_ret (ev_name T rfl (Lk.there (Lk.there (Lk.there Lk.here))) rfl) ?_)
        show RetOk _ _ _ _ _
        subst h
        exact ret_new (c := [(.lst ((last_0.map (optD e_tup_int_int_int)).map SV.val))]) (Nat.le_of_ble_eq_true rfl) rfl rfl (by wtm_at "d.flat") (by intro z; cases z) rfl rfl (by wtm_at "d.lt")
end
def bfN (c : Int) (ts : List Tie) : Nat → Option Int × List Int × Last
  | 0 => (none, List.replicate c.toNat 0, List.replicate c.toNat none)
  | k + 1 => m_eased (bfN c ts k).2.1 (bfN c ts k).2.2 ts
theorem bfN_len (c : Int) (ts : List Tie) : ∀ k, (bfN c ts k).2.1.length = c.toNat ∧ (bfN c ts k).2.2.length = c.toNat
  | 0 => ⟨List.length_replicate, List.length_replicate⟩
  | k + 1 => by
    have h := bfN_len c ts k
    have e := eased_len (bfN c ts k).2.1 (bfN c ts k).2.2 ts
    exact ⟨e.1.trans h.1, e.2.trans h.2⟩
def BfW (c : Int) (ts : List Tie) (m : Option Int) (v : List Int) (l : Last) (tu : Int) (left : Nat) : Prop := ∃ k : Nat, tu = (k : Int) ∧ k + left = c.toNat + 1 ∧ (m, v, l) = bfN c ts (k + 1)
theorem BfW.start {c : Int} {ts : List Tie} (h : 0 < c) : BfW c ts (m_eased (List.replicate c.toNat 0) (List.replicate c.toNat none) ts).1 (m_eased (List.replicate c.toNat 0) (List.replicate c.toNat none) ts).2.1 (m_eased (List.replicate c.toNat 0) (List.replicate c.toNat none) ts).2.2 0 (c + 1 : Int).toNat := ⟨0, rfl, by omega, rfl⟩
theorem BfW.step {c : Int} {ts : List Tie} {m : Option Int} {v : List Int} {l : Last} {tu : Int} {n : Nat} (h : BfW c ts m v l tu (n + 1)) (hx : ((!m.isNone) && (decide (tu < c))) = true) : 0 < n ∧ BfW c ts (m_eased v l ts).1 (m_eased v l ts).2.1 (m_eased v l ts).2.2 (tu + 1) n := by
  obtain ⟨k, rfl, h1, e⟩ := h
  simp only [Bool.and_eq_true, decide_eq_true_eq] at hx
  refine ⟨by omega, k + 1, by omega, by omega, ?_⟩
  show _ = m_eased (bfN c ts (k + 1)).2.1 (bfN c ts (k + 1)).2.2 ts
  rw [← e]
theorem BfW.lens {c : Int} {ts : List Tie} {m : Option Int} {v : List Int} {l : Last} {tu : Int} {n : Nat} (h : BfW c ts m v l tu n) : v.length = c.toNat ∧ l.length = c.toNat := by
  obtain ⟨k, _, _, e⟩ := h
  have := bfN_len c ts (k + 1)
  rw [← e] at this
  exact this
theorem rngLen {c : Int} {ts : List Tie} {n : Nat} (h : ∀ t ∈ ts, 0 ≤ t.1 ∧ t.1 < c ∧ 0 ≤ t.2.1 ∧ t.2.1 < c) (e : n = c.toNat) : ∀ t ∈ ts, 0 ≤ t.1 ∧ t.1 < (n : Int) ∧ 0 ≤ t.2.1 ∧ t.2.1 < (n : Int) := fun t ht => by
  have := h t ht
  omega
/-! what the passes bring: levels (the pass in which an unknown was lowered last), and times -/
structure GI (n : Int) (ts : List Tie) (k : Nat) (V : Int → Int) (L : Int → Option Tie) (lev tm : Int → Nat) (T : Nat) (mv : Option Int) : Prop where
  a : ∀ v, lev v ≤ k ∧ tm v ≤ T
  b : ∀ v t, 0 ≤ v → v < n → L v = some t → t ∈ ts ∧ t.1 = v ∧ lev v ≤ lev t.2.1 + 1 ∧ V t.2.1 + t.2.2 ≤ V v ∧ (tm v < tm t.2.1 → V t.2.1 + t.2.2 < V v) ∧ (t.2.1 = v → t.2.2 < 0)
  c : ∀ v, 0 ≤ v → v < n → L v = none → lev v = 0
  d : ∀ v w, 0 ≤ v → v < n → 0 ≤ w → w < n → L v ≠ none → L w ≠ none → tm v = tm w → v = w
  m : ∀ v, mv = some v → 0 ≤ v ∧ v < n ∧ lev v = k
  s : ∀ t ∈ ts, V t.1 ≤ V t.2.1 + t.2.2 ∨ k ≤ lev t.2.1 + 1
def GS (ts rest : List Tie) (k : Nat) (V : Int → Int) (lev : Int → Nat) (mv : Option Int) : Prop := (∀ t ∈ ts, t ∈ rest ∨ V t.1 ≤ V t.2.1 + t.2.2 ∨ k ≤ lev t.2.1) ∧ (mv = none → ∀ t ∈ ts, t ∈ rest ∨ V t.1 ≤ V t.2.1 + t.2.2)
theorem GI.lower {n : Int} {ts : List Tie} {k : Nat} {V V' : Int → Int} {L L' : Int → Option Tie} {lev tm : Int → Nat} {T : Nat} {mv : Option Int} (h : GI n ts k V L lev tm T mv) (hr : ∀ t ∈ ts, 0 ≤ t.1 ∧ t.1 < n ∧ 0 ≤ t.2.1 ∧ t.2.1 < n) {t : Tie} (ht : t ∈ ts) (hlt : V t.2.1 + t.2.2 < V t.1)
    (hV : ∀ v, 0 ≤ v → v < n → V' v = if v = t.1 then V t.2.1 + t.2.2 else V v) (hL : ∀ v, 0 ≤ v → v < n → L' v = if v = t.1 then some t else L v) :
    GI n ts k V' L' (fun v => if v = t.1 then k else lev v) (fun v => if v = t.1 then T + 1 else tm v) (T + 1) (some t.1) := by
  obtain ⟨r1, r2, r3, r4⟩ := hr t ht
  have hs : k ≤ lev t.2.1 + 1 := (h.s t ht).elim (fun z => by omega) id
  refine ⟨fun v => ?_, fun v u hv0 hv1 e => ?_, fun v hv0 hv1 e => ?_, fun v w hv0 hv1 hw0 hw1 e1 e2 e => ?_, fun v e => ?_, fun u hu => ?_⟩
  · have := h.a v
    constructor
    · try dsimp only
      split <;> omega
    · try dsimp only
      split <;> omega
  · rw [hL v hv0 hv1] at e
    try dsimp only
    split at e
    · rename_i hx
      subst hx
      cases e
      refine ⟨ht, rfl, ?_, ?_, ?_, ?_⟩
      · rw [if_pos rfl]
        split <;> omega
      · rw [hV _ r3 r4, hV _ r1 r2, if_pos rfl]
        split
        · rename_i q
          rw [q] at hlt ⊢
          omega
        · omega
      · rw [if_pos rfl]
        intro q
        split at q
        · omega
        · have := (h.a t.2.1).2
          omega
      · intro q
        rw [q] at hlt
        omega
    · rename_i hx
      obtain ⟨g1, g2, g3, g4, g5, g6⟩ := h.b v u hv0 hv1 e
      obtain ⟨q1, q2, q3, q4⟩ := hr u g1
      have hk := (h.a v).1
      have htm := (h.a v).2
      refine ⟨g1, g2, ?_, ?_, ?_, g6⟩
      · rw [if_neg hx]
        split <;> omega
      · rw [hV _ q3 q4, hV _ hv0 hv1, if_neg hx]
        split
        · rename_i z
          rw [z] at g4
          omega
        · exact g4
      · rw [if_neg hx, hV _ q3 q4, hV _ hv0 hv1, if_neg hx]
        split
        · rename_i z
          rw [z] at g4
          intro _
          omega
        · exact g5
  · rw [hL v hv0 hv1] at e
    try dsimp only
    split at e
    · cases e
    · rename_i hx
      rw [if_neg hx]
      exact h.c v hv0 hv1 e
  · rw [hL v hv0 hv1] at e1
    rw [hL w hw0 hw1] at e2
    try dsimp only at e
    have a1 := (h.a v).2
    have a2 := (h.a w).2
    split at e
    · rename_i hx
      split at e
      · rename_i hy
        rw [hx, hy]
      · omega
    · rename_i hx
      split at e
      · omega
      · rename_i hy
        rw [if_neg hx] at e1
        rw [if_neg hy] at e2
        exact h.d v w hv0 hv1 hw0 hw1 e1 e2 e
  · cases e
    exact ⟨r1, r2, if_pos rfl⟩
  · obtain ⟨q1, q2, q3, q4⟩ := hr u hu
    try dsimp only
    by_cases hy : u.2.1 = t.1
    · rw [if_pos hy]
      exact .inr (by omega)
    · rw [if_neg hy, hV _ q1 q2, hV _ q3 q4, if_neg hy]
      refine (h.s u hu).imp (fun z => ?_) id
      split
      · rename_i hx
        rw [hx] at z
        omega
      · exact z
theorem GS.lower {n : Int} {ts rest : List Tie} {k : Nat} {V V' : Int → Int} {lev : Int → Nat} {mv : Option Int} {t : Tie} (h : GS ts (t :: rest) k V lev mv) (hr : ∀ t ∈ ts, 0 ≤ t.1 ∧ t.1 < n ∧ 0 ≤ t.2.1 ∧ t.2.1 < n) (ht : t ∈ ts) (hlt : V t.2.1 + t.2.2 < V t.1)
    (hV : ∀ v, 0 ≤ v → v < n → V' v = if v = t.1 then V t.2.1 + t.2.2 else V v) : GS ts rest k V' (fun v => if v = t.1 then k else lev v) (some t.1) := by
  refine ⟨fun u hu => ?_, fun z => nomatch z⟩
  obtain ⟨q1, q2, q3, q4⟩ := hr u hu
  try dsimp only
  by_cases hy : u.2.1 = t.1
  · rw [if_pos hy]
    exact .inr (.inr (Nat.le_refl _))
  · rw [if_neg hy, hV _ q1 q2, hV _ q3 q4, if_neg hy]
    rcases h.1 u hu with z | z | z
    · rcases List.mem_cons.mp z with z | z
      · subst z
        rw [if_pos rfl]
        exact .inr (.inl (Int.le_refl _))
      · exact .inl z
    · refine .inr (.inl ?_)
      split
      · rename_i hx
        rw [hx] at z
        omega
      · exact z
    · exact .inr (.inr z)
theorem GS.keep {ts rest : List Tie} {k : Nat} {V : Int → Int} {lev : Int → Nat} {mv : Option Int} {t : Tie} (h : GS ts (t :: rest) k V lev mv) (hle : V t.1 ≤ V t.2.1 + t.2.2) : GS ts rest k V lev mv := by
  refine ⟨fun u hu => ?_, fun e u hu => ?_⟩
  · rcases h.1 u hu with z | z
    · rcases List.mem_cons.mp z with z | z
      · subst z
        exact .inr (.inl hle)
      · exact .inl z
    · exact .inr z
  · rcases h.2 e u hu with z | z
    · rcases List.mem_cons.mp z with z | z
      · subst z
        exact .inr hle
      · exact .inl z
    · exact .inr z
theorem ixD_set {α : Type} [Inhabited α] {l : List α} {i v : Int} {z : α} (h0 : 0 ≤ i) (h1 : i < l.length) (v0 : 0 ≤ v) (v1 : v < l.length) : ixD (l.set i.toNat z) v = if v = i then z else ixD l v := by
  rw [ixD_eq v0 (by rw [List.length_set]; exact v1), ixD_eq v0 v1, List.getD_eq_getElem?_getD, List.getD_eq_getElem?_getD, List.getElem?_set]
  by_cases h : v = i
  · rw [if_pos h, if_pos (by omega : i.toNat = v.toNat), if_pos (by omega)]
    rfl
  · rw [if_neg h, if_neg (by omega)]
/-- behind k passes -/
def RS (n : Int) (ts : List Tie) (k : Nat) (r : Option Int × List Int × Last) : Prop := ∃ lev tm T, GI n ts k (ixD r.2.1) (ixD r.2.2) lev tm T r.1 ∧ ∀ t ∈ ts, ixD r.2.1 t.1 ≤ ixD r.2.1 t.2.1 + t.2.2 ∨ k ≤ lev t.2.1
theorem eased_RS {n : Int} {ts : List Tie} {k : Nat} {m : Option Int} {vs : List Int} {la : Last} (h : RS n ts k (m, vs, la)) (hr : ∀ t ∈ ts, 0 ≤ t.1 ∧ t.1 < n ∧ 0 ≤ t.2.1 ∧ t.2.1 < n) (e1 : (vs.length : Int) = n) (e2 : (la.length : Int) = n) :
    RS n ts (k + 1) (m_eased vs la ts) ∧ ((m_eased vs la ts).1 = none → ∀ t ∈ ts, ixD (m_eased vs la ts).2.1 t.1 ≤ ixD (m_eased vs la ts).2.1 t.2.1 + t.2.2) := by
  obtain ⟨lev, tm, T, g, hs⟩ := h
  have key : ∃ lev tm T, GI n ts (k + 1) (ixD (m_eased vs la ts).2.1) (ixD (m_eased vs la ts).2.2) lev tm T (m_eased vs la ts).1 ∧ GS ts [] (k + 1) (ixD (m_eased vs la ts).2.1) lev (m_eased vs la ts).1 := by
    unfold m_eased
    refine forL_inv (Q := fun (r : Option Int × List Int × Last) => ∃ lev tm T, GI n ts (k + 1) (ixD r.2.1) (ixD r.2.2) lev tm T r.1 ∧ GS ts [] (k + 1) (ixD r.2.1) lev r.1)
      (fun (rest : List Tie) (s : Option Int × List Int × Last) => ((s.2.1.length : Int) = n ∧ (s.2.2.length : Int) = n) ∧ ∃ lev tm T, GI n ts (k + 1) (ixD s.2.1) (ixD s.2.2) lev tm T s.1 ∧ GS ts rest (k + 1) (ixD s.2.1) lev s.1) (fun s h => h.2) _ _ (fun x hx xs s cont h kk => ?_) ⟨⟨e1, e2⟩, lev, tm, T, ?_, ?_⟩
    · obtain ⟨⟨l1, l2⟩, lev, tm, T, g, gs⟩ := h
      obtain ⟨r1, r2, r3, r4⟩ := hr x hx
      try dsimp only
      split
      · rename_i hb
        have hb := of_decide_eq_true hb
        have hV : ∀ v, 0 ≤ v → v < n → ixD (s.2.1.set x.1.toNat (ixD s.2.1 x.2.1 + x.2.2)) v = if v = x.1 then ixD s.2.1 x.2.1 + x.2.2 else ixD s.2.1 v := fun v h0 h1 => ixD_set r1 (by omega) h0 (by omega)
        have hL : ∀ v, 0 ≤ v → v < n → ixD (s.2.2.set x.1.toNat (some x)) v = if v = x.1 then some x else ixD s.2.2 v := fun v h0 h1 => ixD_set r1 (by omega) h0 (by omega)
        exact kk _ ⟨⟨by rw [List.length_set]; exact l1, by rw [List.length_set]; exact l2⟩, _, _, _, g.lower hr hx hb hV hL, gs.lower hr hx hb hV⟩
      · rename_i hb
        have hb : ¬ (ixD s.2.1 x.2.1 + x.2.2 < ixD s.2.1 x.1) := fun z => hb (decide_eq_true z)
        exact kk _ ⟨⟨l1, l2⟩, lev, tm, T, g, gs.keep (by omega)⟩
    · refine ⟨fun v => ⟨by have := (g.a v).1; omega, (g.a v).2⟩, g.b, g.c, g.d, (fun v z => nomatch z), fun t ht => ?_⟩
      exact (hs t ht).imp id fun z => by omega
    · exact ⟨fun t ht => .inl ht, fun _ t ht => .inl ht⟩
  obtain ⟨lev, tm, T, g, gs⟩ := key
  refine ⟨⟨lev, tm, T, g, fun t ht => ?_⟩, fun e t ht => ?_⟩
  · exact (gs.1 t ht).elim (fun z => nomatch z) id
  · exact (gs.2 e t ht).elim (fun z => nomatch z) id
theorem ixD_rep {α : Type} [Inhabited α] {n : Nat} {z : α} {v : Int} (h0 : 0 ≤ v) (h1 : v < n) : ixD (List.replicate n z) v = z := by
  have := ixD_mem (xs := List.replicate n z) h0 (by rw [List.length_replicate]; exact h1)
  exact (List.mem_replicate.mp this).2
theorem bfN_RS {c : Int} {ts : List Tie} (hc : 0 < c) (hr : ∀ t ∈ ts, 0 ≤ t.1 ∧ t.1 < c ∧ 0 ≤ t.2.1 ∧ t.2.1 < c) : ∀ k, RS c ts k (bfN c ts k)
  | 0 => by
    refine ⟨fun _ => 0, fun _ => 0, 0, ⟨fun v => ⟨Nat.le_refl _, Nat.le_refl _⟩, fun v t h0 h1 e => ?_, fun _ _ _ _ => rfl, fun v w h0 h1 _ _ e _ _ => ?_, (fun v z => nomatch z), fun t ht => .inr (Nat.zero_le _)⟩, fun t ht => .inr (Nat.zero_le _)⟩
    · have : ixD (List.replicate c.toNat (none : Option Tie)) v = some t := e
      rw [ixD_rep h0 (by omega)] at this
      cases this
    · exact absurd (ixD_rep h0 (by omega)) e
  | k + 1 => by
    have h := bfN_RS hc hr k
    have l := bfN_len c ts k
    exact (eased_RS (m := (bfN c ts k).1) (vs := (bfN c ts k).2.1) (la := (bfN c ts k).2.2) h hr (by omega) (by omega)).1
theorem bfN_none {c : Int} {ts : List Tie} (hc : 0 < c) (hr : ∀ t ∈ ts, 0 ≤ t.1 ∧ t.1 < c ∧ 0 ≤ t.2.1 ∧ t.2.1 < c) (k : Nat) (e : (bfN c ts (k + 1)).1 = none) : ∀ t ∈ ts, ixD (bfN c ts (k + 1)).2.1 t.1 ≤ ixD (bfN c ts (k + 1)).2.1 t.2.1 + t.2.2 := by
  have h := bfN_RS hc hr k
  have l := bfN_len c ts k
  exact (eased_RS (m := (bfN c ts k).1) (vs := (bfN c ts k).2.1) (la := (bfN c ts k).2.2) h hr (by omega) (by omega)).2 e
theorem pigeon : ∀ (n : Nat) (f : Nat → Nat), (∀ j, j ≤ n → f j < n) → ∃ i j, i < j ∧ j ≤ n ∧ f i = f j
  | 0, f, h => absurd (h 0 (Nat.le_refl _)) (Nat.not_lt_zero _)
  | n + 1, f, h => by
    by_cases hv : ∃ i, i ≤ n ∧ f i = f (n + 1)
    · obtain ⟨i, hi, e⟩ := hv
      exact ⟨i, n + 1, by omega, Nat.le_refl _, e⟩
    · have hne : ∀ i, i ≤ n → f i ≠ f (n + 1) := fun i hi e => hv ⟨i, hi, e⟩
      obtain ⟨i, j, h1, h2, e⟩ := pigeon n (fun j => if f j = n then f (n + 1) else f j) (fun j hj => by
        have h1 := h j (by omega)
        have h2 := h (n + 1) (Nat.le_refl _)
        have h3 := hne j hj
        try dsimp only
        split <;> omega)
      refine ⟨i, j, h1, by omega, ?_⟩
      have g1 := hne i (by omega)
      have g2 := hne j h2
      try dsimp only at e
      split at e <;> split at e <;> omega
theorem RS.ring {n : Nat} {ts : List Tie} {vs : List Int} {la : Last} {x : Int} (h : RS (n : Int) ts (n + 1) (some x, vs, la)) (hr : ∀ t ∈ ts, 0 ≤ t.1 ∧ t.1 < (n : Int) ∧ 0 ≤ t.2.1 ∧ t.2.1 < (n : Int)) (hl : la.length = n) : RingOk la x := by
  obtain ⟨lev, tm, T, g, _⟩ := h
  obtain ⟨x0, x1, xl⟩ := g.m x rfl
  have some : ∀ v, 0 ≤ v → v < (n : Int) → lev v ≠ 0 → (ixD la v).isSome = true := fun v h0 h1 hv => by
    cases e : ixD la v with
    | none => exact absurd (g.c v h0 h1 e) hv
    | some t => rfl
  have st : ∀ j, j ≤ n → OkAt la (itN la x j) ∧ n + 1 ≤ lev (itN la x j) + j := by
    intro j
    induction j with
    | zero => exact fun _ => ⟨⟨x0, by rw [hl]; exact x1, some x x0 x1 (by omega)⟩, by show n + 1 ≤ lev x + 0; omega⟩
    | succ j ih =>
      intro hj
      obtain ⟨⟨o0, o1, o2⟩, o3⟩ := ih (by omega)
      rw [hl] at o1
      obtain ⟨t, et⟩ := Option.isSome_iff_exists.mp o2
      obtain ⟨b1, b2, b3, _⟩ := g.b _ t o0 o1 et
      obtain ⟨r1, r2, r3, r4⟩ := hr t b1
      have es : itN la x (j + 1) = t.2.1 := by
        show ((ixD la (itN la x j)).getD default).2.1 = _
        rw [et]
        rfl
      rw [es]
      exact ⟨⟨r3, by rw [hl]; exact r4, some _ r3 r4 (by omega)⟩, by omega⟩
  obtain ⟨i, j, hij, hj, e⟩ := pigeon n (fun j => (itN la x j).toNat) (fun j hj => by
    obtain ⟨⟨o0, o1, _⟩, _⟩ := st j hj
    try dsimp only
    omega)
  have e : itN la x i = itN la x j := by
    obtain ⟨⟨o0, _⟩, _⟩ := st i (by omega)
    obtain ⟨⟨o1, _⟩, _⟩ := st j hj
    try dsimp only at e
    omega
  have per : ∀ d, itN la x (j + d) = itN la x (i + d) := fun d => by rw [itN_add, itN_add, e]
  have ok : ∀ k, OkAt la (itN la x k) := by
    intro k
    induction k using Nat.strongRecOn with
    | ind k ih =>
      by_cases hk : k ≤ n
      · exact (st k hk).1
      · have : k = j + (k - j) := by omega
        rw [this, per]
        exact ih _ (by omega)
  refine ⟨ok, j - i, by omega, by omega, ?_⟩
  rw [hl]
  have a : n + (j - i) = j + (n - i) := by omega
  have b : n = i + (n - i) := by omega
  rw [a, per, ← b]
theorem BfW.ring {c : Int} {ts : List Tie} {m : Option Int} {v : List Int} {l : Last} {tu : Int} {n : Nat} (h : BfW c ts m v l tu (n + 1)) (hx : ((!m.isNone) && (decide (tu < c))) = false) (hc : 0 < c) (hr : ∀ t ∈ ts, 0 ≤ t.1 ∧ t.1 < c ∧ 0 ≤ t.2.1 ∧ t.2.1 < c) : ∀ x, m = some x → RingOk l x := by
  intro x e
  subst e
  have hlen := h.lens
  obtain ⟨k, rfl, h1, e⟩ := h
  have hk : ¬ ((k : Int) < c) := by
    intro z
    rw [decide_eq_true z] at hx
    cases hx
  have hk : k = c.toNat := by omega
  have hcn : ((c.toNat : Nat) : Int) = c := by omega
  have r := bfN_RS hc hr (k + 1)
  rw [← e, hk, ← hcn] at r
  refine r.ring ?_ hlen.2
  rw [hcn]
  exact hr
theorem ring_get {l : Last} {m : Option Int} (h : ∀ x, m = some x → RingOk l x) (e : m.isSome = true) : RingOk l (m.getD default) := by
  obtain ⟨x, rfl⟩ := Option.isSome_iff_exists.mp e
  exact h x rfl
local macro_rules | `(tactic| wtm_at "g.inv") => `(tactic| first | (subst_vars; exact BfW.start (by omega)) | (subst_vars; assumption))
local macro_rules | `(tactic| wtm_at "g.pre") => `(tactic| first | exact ring_get (by assumption) (some_of (by assumption)) | exact ring_get (by assumption) (by assumption))
def m_settled (count_0 : Int) (ties_0 : (List (Int × Int × Int))) : Ans := letF (m_eased (List.replicate (count_0 : Int).toNat 0) (List.replicate (count_0 : Int).toNat (none : (Option (Int × Int × Int)))) ties_0).1 fun r_1 => letF (m_eased (List.replicate (count_0 : Int).toNat 0) (List.replicate (count_0 : Int).toNat (none : (Option (Int × Int × Int)))) ties_0).2.1 fun c_2 => letF (m_eased (List.replicate (count_0 : Int).toNat 0) (List.replicate (count_0 : Int).toNat (none : (Option (Int × Int × Int)))) ties_0).2.2 fun c_3 => whileL (fun (s_11 : ((Option Int) × Int × (List Int) × (List (Option (Int × Int × Int))))) w_1 => if ((!s_11.1.isNone) && (decide (s_11.2.1 < count_0))) then letF (m_eased s_11.2.2.1 s_11.2.2.2 ties_0).1 fun r_12 => letF (m_eased s_11.2.2.1 s_11.2.2.2 ties_0).2.1 fun c_13 => letF (m_eased s_11.2.2.1 s_11.2.2.2 ties_0).2.2 fun c_14 => letF (s_11.2.1 + 1) fun turns_15 => w_1 (r_12, turns_15, c_13, c_14) else if s_11.1.isNone then (Ans.vals (s_11.2.2.1.map fun y_16 => (y_16 - (ixD s_11.2.2.1 0)))) else letF (m_ring_at s_11.2.2.2 ((s_11.1).getD default)) fun c_17 => (Ans.ring c_17)) ((count_0 + 1 : Int).toNat) (r_1, 0, c_2, c_3) (if r_1.isNone then (Ans.vals (c_2.map fun y_16 => (y_16 - (ixD c_2 0)))) else letF (m_ring_at c_3 ((r_1).getD default)) fun c_17 => (Ans.ring c_17))
section
variable {P : Program} {w : World} {K : PySem.W.Frag} {mg : Str → Option Value} {base : Heap}
inductive Sp_settled : Spec
  | mk {count_0 : Int} {ties_0 : (List (Int × Int × Int))} (hc : 0 < count_0 ∧ count_0 ≤ 100) (ht : ∀ t ∈ ties_0, 0 ≤ t.1 ∧ t.1 < (count_0 : Int) ∧ 0 ≤ t.2.1 ∧ t.2.1 < (count_0 : Int)) : Sp_settled [.val (.int count_0), .cell 0] [(.lst ((ties_0.map e_tup_int_int_int).map SV.val))] (.cell 1) [(.lst ((ties_0.map e_tup_int_int_int).map SV.val)), (.tup [.val (.str (Ans.word (m_settled count_0 ties_0))), .cell 2]), (.lst ((Ans.items (m_settled count_0 ties_0)).map SV.val))]
theorem cal_settled (D : DefAt K mg "settled" s_settled P_settled) (C_eased : Cal P w K mg base 1 "eased" 3 Sp_eased) (C_ring_at : Cal P w K mg base 1 "ring_at" 2 Sp_ring_at) : Cal P w K mg base 2 "settled" 2 Sp_settled := by
  refine cal_def D sc_settled tb_settled (fun f cdv A outer s0 H E hr T TL svs cs sv cs1 hsp hl => ?_)
  cases hsp with
  | @mk count_0 ties_0 hc ht =>
  obtain ⟨R0, h⟩ : ∃ R0, (m_settled count_0 ties_0) = R0 := ⟨_, rfl⟩
  rw [h]
  unfold m_settled at h
  have q0 := rngLen (n := (List.replicate count_0.toNat (0 : Int)).length) ht (by rw [List.length_replicate])
  show SX _ _ _ [some (.val (.int count_0)), some (.cell 0), none, none, none, none, none] [(.lst ((ties_0.map e_tup_int_int_int).map SV.val))] _
  refine sx_cons (s1_set TL rfl (ev_repT (f := PyData.int) (y := 0) (ev_lstC (ss := [.val (PyData.int 0)]) (av_cons ev_int av_nil) (AppC.cons AppC.nil) rfl) (ev_name T rfl Lk.here rfl) rfl (by wtm_at "g.sd") (by wtm_at "g.sd") (AppC.cons (AppC.cons AppC.nil))) (Put.there (Put.there Put.here)) ?_ rfl)
  show SX _ _ _ _ _ _
  refine sx_cons (s1_set TL rfl (ev_repT (f := (optD e_tup_int_int_int)) (y := (none : (Option (Int × Int × Int)))) (ev_lstC (ss := [.val ((optD e_tup_int_int_int) (none : (Option (Int × Int × Int))))]) (av_cons ev_none av_nil) (AppC.cons (AppC.cons (AppC.cons AppC.nil))) rfl) (ev_name T rfl Lk.here rfl) rfl (by wtm_at "g.sd") (by wtm_at "g.sd") (AppC.cons (AppC.cons (AppC.cons (AppC.cons AppC.nil))))) (Put.there (Put.there (Put.there Put.here))) ?_ rfl)
  show SX _ _ _ _ _ _
  replace h := letF_elim h
  obtain ⟨r_1, er_1, h⟩ := h
  replace h := letF_elim h
  obtain ⟨c_2, ec_2, h⟩ := h
  replace h := letF_elim h
  obtain ⟨c_3, ec_3, h⟩ := h
  refine sx_cons (s1_set TL rfl (ev_as (t := .val ((optD PyData.int) r_1)) (cs2 := [(.lst ((ties_0.map e_tup_int_int_int).map SV.val)), (.lst ((([0] : (List Int)).map PyData.int).map SV.val)), (.lst ((c_2.map PyData.int).map SV.val)), (.lst ((([(none : (Option (Int × Int × Int)))] : (List (Option (Int × Int × Int)))).map (optD e_tup_int_int_int)).map SV.val)), (.lst ((c_3.map (optD e_tup_int_int_int)).map SV.val))]) (ev_callM (κ := [2, 4, 0]) C_eased hr (by decide) rfl (av_cons (ev_name T rfl (Lk.there (Lk.there Lk.here)) rfl) (av_cons (ev_name T rfl (Lk.there (Lk.there (Lk.there Lk.here))) rfl) (av_cons (ev_name T rfl (Lk.there Lk.here) rfl) av_nil))) (Sel.cons rfl (by wtm_at "d.flat") (by intro z; cases z) (Sel.cons rfl (by wtm_at "d.flat") (by intro z; cases z) (Sel.cons rfl (by wtm_at "d.flat") (by intro z; cases z) Sel.nil))) (RenA.cell rfl (RenA.cell rfl (RenA.cell rfl RenA.nil))) (Sp_eased.mk (values_0 := (List.replicate (count_0 : Int).toNat 0)) (last_0 := (List.replicate (count_0 : Int).toNat (none : (Option (Int × Int × Int))))) (ties_0 := ties_0) (by wtm_at "g.pre") (by wtm_at "g.pre")) (SetA.cons (PutC.there (PutC.there PutC.here)) (SetA.cons (PutC.there (PutC.there (PutC.there (PutC.there PutC.here)))) (SetA.cons PutC.here SetA.nil))) (List.prefix_refl _) (by wtm_at "g.flat") (by decide) rfl) (by subst er_1; subst ec_2; subst ec_3; rfl) (by subst er_1; subst ec_2; subst ec_3; rfl)) (Put.there (Put.there (Put.there (Put.there Put.here)))) ?_ rfl)
  show SX _ _ _ _ _ _
  refine sx_cons (s1_set TL rfl ev_int (Put.there (Put.there (Put.there (Put.there (Put.there Put.here))))) ?_ rfl)
  show SX _ _ _ _ _ _
  refine' sx_cons ?lp1
  refine' s1_whileK _ _ ((count_0 + 1 : Int).toNat) R0 (r_1, 0, c_2, c_3) (fun lf_1 (s_11 : ((Option Int) × Int × (List Int) × (List (Option (Int × Int × Int))))) => 0 < lf_1 ∧ (BfW count_0 ties_0 s_11.1 s_11.2.2.1 s_11.2.2.2 s_11.2.1 lf_1)) h PassesOwn.never ?j01 (fun s_11 : ((Option Int) × Int × (List Int) × (List (Option (Int × Int × Int)))) => [some (.val (.int count_0)), some (.cell 0), some (.cell 2), some (.cell 4), some (.val ((optD PyData.int) s_11.1)), some (.val (.int s_11.2.1)), none]) (fun s_11 : ((Option Int) × Int × (List Int) × (List (Option (Int × Int × Int)))) => [(.lst ((ties_0.map e_tup_int_int_int).map SV.val)), (.lst ((([0] : (List Int)).map PyData.int).map SV.val)), (.lst ((s_11.2.2.1.map PyData.int).map SV.val)), (.lst ((([(none : (Option (Int × Int × Int)))] : (List (Option (Int × Int × Int)))).map (optD e_tup_int_int_int)).map SV.val)), (.lst ((s_11.2.2.2.map (optD e_tup_int_int_int)).map SV.val))]) (Le.same (Le.same (Le.same (Le.same (Le.same (Le.same (Le.lose Le.nil))))))) rfl ?ps1 ?tu1
  case j01 => wtm_at "g.wj"
  case ps1 => exact fun _ z => Nat.lt_irrefl 0 z.1
  case tu1 =>
    clear h
    rintro lf_1 ⟨moved_4, turns_5, c_8, c_10⟩ w_1 ⟨hw1_0, hw1⟩ h
    try dsimp only at h hw1
    have q1 := hw1.lens
    have q2 := rngLen ht q1.1
    refine' ⟨((!moved_4.isNone) && (decide (turns_5 < count_0))), [(.lst ((ties_0.map e_tup_int_int_int).map SV.val)), (.lst ((([0] : (List Int)).map PyData.int).map SV.val)), (.lst ((c_8.map PyData.int).map SV.val)), (.lst ((([(none : (Option (Int × Int × Int)))] : (List (Option (Int × Int × Int)))).map (optD e_tup_int_int_int)).map SV.val)), (.lst ((c_10.map (optD e_tup_int_int_int)).map SV.val))], (tv_w (wv_and (tv_is (l := (!moved_4.isNone)) (tv_notN (ev_name T rfl (Lk.there (Lk.there (Lk.there (Lk.there Lk.here)))) rfl) ev_none) (by rw [isNone_opt (fun _ => rfl)])) (fun hk2 => (by
      have hk2x := hk2
      try simp only [Bool.and_eq_true, Bool.or_eq_true, Bool.and_eq_false_iff, Bool.or_eq_false_iff, decide_eq_true_eq, decide_eq_false_iff_not, Bool.not_eq_true', Bool.not_eq_false', Bool.not_eq_eq_eq_not, Bool.not_true, Bool.not_false] at hk2x
      exact (wv_and1 (tv_lt (ev_name T rfl (Lk.there (Lk.there (Lk.there (Lk.there (Lk.there Lk.here))))) rfl) (ev_name T rfl Lk.here rfl))))))), ?y1, ?n1⟩
    case y1 =>
      intro hb3
      have hb3x := hb3
      try simp only [Bool.and_eq_true, Bool.or_eq_true, Bool.and_eq_false_iff, Bool.or_eq_false_iff, decide_eq_true_eq, decide_eq_false_iff_not, Bool.not_eq_true', Bool.not_eq_false', Bool.not_eq_eq_eq_not, Bool.not_true, Bool.not_false] at hb3x
      rw [if_pos hb3] at h
      show SX _ _ _ [some (.val (.int count_0)), some (.cell 0), some (.cell 2), some (.cell 4), some (.val ((optD PyData.int) moved_4)), some (.val (.int turns_5)), none] [(.lst ((ties_0.map e_tup_int_int_int).map SV.val)), (.lst ((([0] : (List Int)).map PyData.int).map SV.val)), (.lst ((c_8.map PyData.int).map SV.val)), (.lst ((([(none : (Option (Int × Int × Int)))] : (List (Option (Int × Int × Int)))).map (optD e_tup_int_int_int)).map SV.val)), (.lst ((c_10.map (optD e_tup_int_int_int)).map SV.val))] _
      obtain ⟨w4, w5⟩ := hw1.step (by assumption)
      replace h := letF_elim h
      obtain ⟨r_12, er_12, h⟩ := h
      replace h := letF_elim h
      obtain ⟨c_13, ec_13, h⟩ := h
      replace h := letF_elim h
      obtain ⟨c_14, ec_14, h⟩ := h
      refine sx_cons (s1_set TL rfl (ev_as (t := .val ((optD PyData.int) r_12)) (cs2 := [(.lst ((ties_0.map e_tup_int_int_int).map SV.val)), (.lst ((([0] : (List Int)).map PyData.int).map SV.val)), (.lst ((c_13.map PyData.int).map SV.val)), (.lst ((([(none : (Option (Int × Int × Int)))] : (List (Option (Int × Int × Int)))).map (optD e_tup_int_int_int)).map SV.val)), (.lst ((c_14.map (optD e_tup_int_int_int)).map SV.val))]) (ev_callM (κ := [2, 4, 0]) C_eased hr (by decide) rfl (av_cons (ev_name T rfl (Lk.there (Lk.there Lk.here)) rfl) (av_cons (ev_name T rfl (Lk.there (Lk.there (Lk.there Lk.here))) rfl) (av_cons (ev_name T rfl (Lk.there Lk.here) rfl) av_nil))) (Sel.cons rfl (by wtm_at "d.flat") (by intro z; cases z) (Sel.cons rfl (by wtm_at "d.flat") (by intro z; cases z) (Sel.cons rfl (by wtm_at "d.flat") (by intro z; cases z) Sel.nil))) (RenA.cell rfl (RenA.cell rfl (RenA.cell rfl RenA.nil))) (Sp_eased.mk (values_0 := c_8) (last_0 := c_10) (ties_0 := ties_0) (by wtm_at "g.pre") (by wtm_at "g.pre")) (SetA.cons (PutC.there (PutC.there PutC.here)) (SetA.cons (PutC.there (PutC.there (PutC.there (PutC.there PutC.here)))) (SetA.cons PutC.here SetA.nil))) (List.prefix_refl _) (by wtm_at "g.flat") (by decide) rfl) (by subst er_12; subst ec_13; subst ec_14; rfl) (by subst er_12; subst ec_13; subst ec_14; rfl)) (Put.there (Put.there (Put.there (Put.there Put.here)))) ?_ rfl)
      show SX _ _ _ _ _ _
      replace h := letF_elim h
      obtain ⟨turns_15, eturns_15, h⟩ := h
      refine sx_cons (s1_set TL rfl (ev_is (t := .val (.int turns_15)) (ev_add (ev_name T rfl (Lk.there (Lk.there (Lk.there (Lk.there (Lk.there Lk.here))))) rfl) ev_int) (by subst eturns_15; rfl)) (Put.there (Put.there (Put.there (Put.there (Put.there Put.here))))) ?_ rfl)
      show SX _ _ _ _ _ _
      refine sx_nil ?_
      exact ⟨(r_12, turns_15, c_13, c_14), h, (by wtm_at "g.wj"), (At.same (Le.same (Le.same (Le.same (Le.same (Le.same (Le.same (Le.lose Le.nil))))))))⟩
    case n1 =>
      intro hb3 slx hlx
      have hb3x := hb3
      try simp only [Bool.and_eq_true, Bool.or_eq_true, Bool.and_eq_false_iff, Bool.or_eq_false_iff, decide_eq_true_eq, decide_eq_false_iff_not, Bool.not_eq_true', Bool.not_eq_false', Bool.not_eq_eq_eq_not, Bool.not_true, Bool.not_false] at hb3x
      rw [if_neg (by rw [hb3]; decide)] at h
      refine sx_weak hlx ?_
      show SX _ _ _ [some (.val (.int count_0)), some (.cell 0), some (.cell 2), some (.cell 4), some (.val ((optD PyData.int) moved_4)), some (.val (.int turns_5)), none] [(.lst ((ties_0.map e_tup_int_int_int).map SV.val)), (.lst ((([0] : (List Int)).map PyData.int).map SV.val)), (.lst ((c_8.map PyData.int).map SV.val)), (.lst ((([(none : (Option (Int × Int × Int)))] : (List (Option (Int × Int × Int)))).map (optD e_tup_int_int_int)).map SV.val)), (.lst ((c_10.map (optD e_tup_int_int_int)).map SV.val))] _
      have q3 := hw1.ring (by assumption) hc.1 ht
      refine' sx_cons (s1_if (tv_is (l := moved_4.isNone) (tv_isN (ev_name T rfl (Lk.there (Lk.there (Lk.there (Lk.there Lk.here)))) rfl) ev_none) (by rw [isNone_opt (fun _ => rfl)])) ?y5 ?n5)
      case y5 =>
        intro hb4
        have hb4x := hb4
        try simp only [Bool.and_eq_true, Bool.or_eq_true, Bool.and_eq_false_iff, Bool.or_eq_false_iff, decide_eq_true_eq, decide_eq_false_iff_not, Bool.not_eq_true', Bool.not_eq_false', Bool.not_eq_eq_eq_not, Bool.not_true, Bool.not_false] at hb4x
        rw [if_pos hb4] at h
        refine sx_cons (s1_ret (ev_tupC (av_cons ev_str (av_cons (ev_LCC rfl T.nd (blkOk_by (N := N_settled) (sc := defScope s_settled) (by decide +kernel)) (lc_as (es := (c_8.map fun y_16 => (y_16 - (ixD c_8 0))).map PyData.int) (lc_K (own := [("value", 6)]) c_8 (fun x => SV.val (PyData.int x)) (by exact (iv_mapC (iv_cell (ev_name T rfl (Lk.there (Lk.there Lk.here)) rfl) rfl))) (fun y_16 => (.int (y_16 - (ixD c_8 0)))) (fun y_16 => [some (.val (.int count_0)), some (.cell 0), some (.cell 2), some (.cell 4), some (.val ((optD PyData.int) moved_4)), some (.val (.int turns_5)), some (.val (.int y_16))]) (fun _ => [(.lst ((ties_0.map e_tup_int_int_int).map SV.val)), (.lst ((([0] : (List Int)).map PyData.int).map SV.val)), (.lst ((c_8.map PyData.int).map SV.val)), (.lst ((([(none : (Option (Int × Int × Int)))] : (List (Option (Int × Int × Int)))).map (optD e_tup_int_int_int)).map SV.val)), (.lst ((c_10.map (optD e_tup_int_int_int)).map SV.val))]) (by wtm_at "g.sd") (by first | exact trivial | rfl) (fun y_16 hm7 st H0 C0 cl fp => gw_name T.nd rfl (Put.there (Put.there (Put.there (Put.there (Put.there (Put.there Put.here)))))) (by decide) ⟨rfl, rfl⟩) (fun y_16 hm7 => ⟨fun st H0 C0 cl fp => (by
            have at6 : L2.atI (c_8.map PyData.int) 0 = some (PyData.int (ixD c_8 0)) := at_ixD (f := PyData.int) (by wtm_at "g.sd") (by wtm_at "g.sd")
            exact (ev_sub (ev_nameV T.nd rfl (Lk.there (Lk.there (Lk.there (Lk.there (Lk.there (Lk.there Lk.here))))))) (ev_ixL (ev_nameV T.nd rfl (Lk.there (Lk.there Lk.here))) ev_int (IsL.cell rfl) (atI_map at6)))), AtC.same⟩)) (by rw [List.map_map]; rfl) rfl) (AppC.cons (AppC.cons (AppC.cons (AppC.cons (AppC.cons AppC.nil)))))) av_nil)) (AppC.cons (AppC.cons (AppC.cons (AppC.cons (AppC.cons (AppC.cons AppC.nil)))))) rfl) ?_)
        show RetOk _ _ _ _ _
        subst h
        exact ret_gen [6, 5] [0, 6, 5] rfl (by decide) (SelR.cons rfl (RenC.flat (by wtm_at "d.flat")) (SelR.cons rfl (RenC.ren rfl rfl) (SelR.cons rfl (RenC.flat (by wtm_at "d.flat")) SelR.nil))) rfl rfl
      case n5 =>
        intro hb4
        have hb4x := hb4
        try simp only [Bool.and_eq_true, Bool.or_eq_true, Bool.and_eq_false_iff, Bool.or_eq_false_iff, decide_eq_true_eq, decide_eq_false_iff_not, Bool.not_eq_true', Bool.not_eq_false', Bool.not_eq_eq_eq_not, Bool.not_true, Bool.not_false] at hb4x
        rw [if_neg (by rw [hb4]; decide)] at h
        refine sx_nil ?_
        show SX _ _ _ _ _ _
        replace h := letF_elim h
        obtain ⟨c_17, ec_17, h⟩ := h
        have os8 : (moved_4).isSome = true := by wtm_at "g.some"
        refine sx_cons (s1_ret (ev_tupC (av_cons ev_str (av_cons (ev_as (t := .cell 5) (cs2 := [(.lst ((ties_0.map e_tup_int_int_int).map SV.val)), (.lst ((([0] : (List Int)).map PyData.int).map SV.val)), (.lst ((c_8.map PyData.int).map SV.val)), (.lst ((([(none : (Option (Int × Int × Int)))] : (List (Option (Int × Int × Int)))).map (optD e_tup_int_int_int)).map SV.val)), (.lst ((c_10.map (optD e_tup_int_int_int)).map SV.val)), (.lst ((c_17.map e_tup_int_int_int).map SV.val))]) (ev_callN (κ := [4]) C_ring_at hr (by decide) rfl (av_cons (ev_name T rfl (Lk.there (Lk.there (Lk.there Lk.here))) rfl) (av_cons (ev_is (t := .val (.int ((moved_4).getD default))) (ev_name T rfl (Lk.there (Lk.there (Lk.there (Lk.there Lk.here)))) rfl) (optD_some os8)) av_nil)) (Sel.cons rfl (by wtm_at "d.flat") (by intro z; cases z) Sel.nil) (RenA.cell rfl (RenA.val RenA.nil)) (Sp_ring_at.mk (last_0 := c_10) (at_0 := ((moved_4).getD default)) (by wtm_at "g.pre") (by wtm_at "g.pre")) (i := 1) rfl (SetA.cons (PutC.there (PutC.there (PutC.there (PutC.there PutC.here)))) SetA.nil) (AppC.cons (AppC.cons (AppC.cons (AppC.cons (AppC.cons AppC.nil))))) (by wtm_at "g.flat") (by wtm_at "d.flat") (by intro z; cases z) (by decide) rfl) rfl (by subst ec_17; rfl)) av_nil)) (AppC.cons (AppC.cons (AppC.cons (AppC.cons (AppC.cons (AppC.cons AppC.nil)))))) rfl) ?_)
        show RetOk _ _ _ _ _
        subst h
        exact ret_gen [6, 5] [0, 6, 5] rfl (by decide) (SelR.cons rfl (RenC.flat (by wtm_at "d.flat")) (SelR.cons rfl (RenC.ren rfl rfl) (SelR.cons rfl (RenC.flat (by wtm_at "d.flat")) SelR.nil))) rfl rfl
end
local macro_rules | `(tactic| wtm_at "d.mul") => `(tactic| first | exact bd_mul_small (Wb.bd (And.right (And.right ‹(0 : Int) ≤ _ ∧ _ ∧ Wb _ _›))) (by omega) | (subst_vars; exact bd_mul_small (by assumption) (by omega)) | (subst_vars; exact small_mul (by omega) (by omega)))
local macro_rules | `(tactic| wtm_at "g.inv") => `(tactic| first | exact ⟨by omega, by omega, Wb.start⟩ | (refine ⟨by omega, by omega, ?_⟩; subst_vars; exact Wb.step (And.right (And.right ‹(0 : Int) ≤ _ ∧ _ ∧ Wb _ _›)) (by omega) (by omega)))
def m_law (S_0 : Scr) : Bool := letF (m_law_cell S_0 1) fun r_1 => letF (1 + (r_1 % 9)) fun count_2 => letF (m_law_cell S_0 1) fun r_3 => joinF (fun (q_5 : (Int)) => letF (m_law_ties S_0 q_5) fun c_8 => letF (m_settled q_5 c_8) fun r_9 => if ((!(m_law_good r_9 q_5 c_8 ("" : Str))) || (!(PyData.eqv (.list (c_8.map e_tup_int_int_int)) (.list (c_8.map e_tup_int_int_int))))) then false else letF (m_settled 3 ([(0, 1, (-2)), (1, 2, (-3)), (2, 0, (5 - ((c_8.length : Int) % 2)))] : (List (Int × Int × Int)))) fun r_10 => letF (m_law_good r_10 3 ([(0, 1, (-2)), (1, 2, (-3)), (2, 0, (5 - ((c_8.length : Int) % 2)))] : (List (Int × Int × Int))) (ixD ([("values" : Str), ("ring" : Str)] : (List Str)) ((c_8.length : Int) % 2))) fun r_11 => if (!r_11) then false else letF (m_settled q_5 c_8) fun r_12 => (PyData.eqv (.tuple [(.str (Ans.word r_12)), (.list (Ans.items r_12))]) (.tuple [(.str (Ans.word r_9)), (.list (Ans.items r_9))]))) fun j_1 => if (decide (((r_3 / 9) % 8) = 1)) then letF (m_law_cell S_0 1) fun r_6 => letF (1 + ((r_6 / 72) % 60)) fun count_7 => j_1 (count_7) else j_1 (count_2)
/-! ### loops, told plainly -/
theorem forL_all {α ρ : Type} (P : α → Bool) (a b : ρ) : ∀ xs : List α, forL (fun x (_ : Unit) n => if P x = true then a else n ()) (fun _ => b) xs () = if xs.any P = true then a else b
  | [] => rfl
  | x :: xs => by
    show (if P x = true then a else forL _ _ xs ()) = _
    rw [forL_all P a b xs, List.any_cons]
    cases P x <;> rfl
theorem forL_app {α β ρ : Type} (g : α → β) (k : List β → ρ) : ∀ (xs : List α) (s : List β), forL (fun x s n => n (s ++ [g x])) k xs s = k (s ++ xs.map g)
  | [], s => by rw [List.map_nil, List.append_nil]; rfl
  | x :: xs, s => by
    show forL _ _ xs (s ++ [g x]) = _
    rw [forL_app g k xs, List.map_cons, List.append_assoc]
    rfl
theorem forL_flat {α β ρ : Type} (g : α → List β) (k : List β → ρ) : ∀ (xs : List α) (s : List β), forL (fun x s n => n (s ++ g x)) k xs s = k (s ++ xs.flatMap g)
  | [], s => by rw [List.flatMap_nil, List.append_nil]; rfl
  | x :: xs, s => by
    show forL _ _ xs (s ++ g x) = _
    rw [forL_flat g k xs, List.flatMap_cons, List.append_assoc]
theorem take4 {S : Type} {f : List Int} {c : Int} (hf : 0 < f.length ∧ f.length ≤ 2) (hc : 0 < c) :
    (0 ≤ (m_law_take f c).1 ∧ (m_law_take f c).1 < c ∧ 0 ≤ (m_law_take (m_law_take f c).2 c).1 ∧ (m_law_take (m_law_take f c).2 c).1 < c) ∧
    (0 < (m_law_take (m_law_take (m_law_take (m_law_take f c).2 c).2 12).2 4).2.length ∧ (m_law_take (m_law_take (m_law_take (m_law_take f c).2 c).2 12).2 4).2.length ≤ 2) := by
  have a := take_ok f c hf hc
  have b := take_ok _ c a.2.2 hc
  have d := take_ok _ 12 b.2.2 (by omega)
  have e := take_ok _ 4 d.2.2 (by omega)
  exact ⟨⟨a.1, a.2.1, b.1, b.2.1⟩, e.2.2⟩
def LJ (c : Int) (s : Option (List Int) × List Tie) : Prop := (∀ t ∈ s.2, 0 ≤ t.1 ∧ t.1 < c ∧ 0 ≤ t.2.1 ∧ t.2.1 < c) ∧ ∀ f, s.1 = some f → 0 < f.length ∧ f.length ≤ 2
theorem LJ.step {c : Int} {ts : List Tie} {f f' : List Int} {x : Int} (h : ∀ t ∈ ts, 0 ≤ t.1 ∧ t.1 < c ∧ 0 ≤ t.2.1 ∧ t.2.1 < c) (hc : 0 < c) (hf : 0 < f.length ∧ f.length ≤ 2) (hf' : 0 < f'.length ∧ f'.length ≤ 2) :
    LJ c (some f', ts ++ [((m_law_take f c).1, (m_law_take (m_law_take f c).2 c).1, x)]) := by
  refine ⟨fun t ht => ?_, fun g e => ?_⟩
  · rcases List.mem_append.mp ht with ht | ht
    · exact h t ht
    · rw [List.mem_singleton] at ht
      subst ht
      exact (take4 (S := Unit) hf hc).1
  · cases e
    exact hf'
theorem lties_ok (S : Scr) (c : Int) (hc : 0 < c ∧ c ≤ 100) : ∀ t ∈ m_law_ties S c, 0 ≤ t.1 ∧ t.1 < (c : Int) ∧ 0 ≤ t.2.1 ∧ t.2.1 < (c : Int) := by
  unfold m_law_ties
  simp only [letF, joinF]
  obtain ⟨many, hm, hmm⟩ : ∃ m : Int, (ixD ([1, 3] : List Int) (if (decide (((m_law_cell S 1 / 9) % 8) = 1)) then 1 else 0 : Int)) = m ∧ (m = 1 ∨ m = 3) := ⟨_, rfl, many_or _⟩
  rw [hm]
  clear hm
  refine forL_inv (Q := fun (r : List Tie) => ∀ t ∈ r, 0 ≤ t.1 ∧ t.1 < c ∧ 0 ≤ t.2.1 ∧ t.2.1 < c) (fun (_ : List Nat) (s : Option (List Int) × List Tie) => LJ c s) (fun s h => h.1) _ _ (fun x _ xs s n hs k => ?_) ⟨fun t ht => (by cases ht), fun f z => (by cases z)⟩
  have turn : ∀ f : List Int, 0 < f.length ∧ f.length ≤ 2 → (0 < (m_law_take (m_law_take (m_law_take (m_law_take (m_law_take f c).2 c).2 12).2 4).2 2000000000000000001).2.length ∧ (m_law_take (m_law_take (m_law_take (m_law_take (m_law_take f c).2 c).2 12).2 4).2 2000000000000000001).2.length ≤ 2) := fun f hf => (take_ok _ 2000000000000000001 (take4 (S := Unit) hf hc.1).2 (by omega)).2.2
  obtain ⟨o, ts⟩ := s
  have h1 : ∀ t ∈ ts, 0 ≤ t.1 ∧ t.1 < c ∧ 0 ≤ t.2.1 ∧ t.2.1 < c := hs.1
  cases o with
  | none =>
    try dsimp only
    split
    · have hf := feed_len S (2 + (x : Int) / many)
      split
      · exact k _ (LJ.step h1 hc.1 hf (turn _ hf))
      · exact k _ (LJ.step h1 hc.1 hf (take4 (S := Unit) hf hc.1).2)
    · exact k _ ⟨h1, fun f z => (by cases z)⟩
  | some f =>
    have hf0 := hs.2 f rfl
    try dsimp only
    split
    · have hf := feed_len S (2 + (x : Int) / many)
      split
      · exact k _ (LJ.step h1 hc.1 hf (turn _ hf))
      · exact k _ (LJ.step h1 hc.1 hf (take4 (S := Unit) hf hc.1).2)
    · split
      · exact k _ (LJ.step h1 hc.1 hf0 (turn _ hf0))
      · exact k _ (LJ.step h1 hc.1 hf0 (take4 (S := Unit) hf0 hc.1).2)
theorem lties_len (S : Scr) (c : Int) : (m_law_ties S c).length ≤ 180 := by
  unfold m_law_ties
  simp only [letF, joinF]
  obtain ⟨many, hm, hmm⟩ : ∃ m : Int, (ixD ([1, 3] : List Int) (if (decide (((m_law_cell S 1 / 9) % 8) = 1)) then 1 else 0 : Int)) = m ∧ (m = 1 ∨ m = 3) := ⟨_, rfl, many_or _⟩
  rw [hm]
  clear hm
  refine forL_inv (Q := fun (r : List Tie) => r.length ≤ 180) (fun (l : List Nat) (s : Option (List Int) × List Tie) => s.2.length + l.length ≤ 180) (fun s h => by simpa using h) _ _ (fun x _ xs s n hs k => ?_) ?_
  · obtain ⟨o, ts⟩ := s
    have hs : ts.length + (xs.length + 1) ≤ 180 := hs
    have a : ∀ t : Tie, (ts ++ [t]).length + xs.length ≤ 180 := fun t => by rw [List.length_append, List.length_singleton]; omega
    cases o with
    | none =>
      try dsimp only
      split
      · split
        · exact k _ (a _)
        · exact k _ (a _)
      · exact k _ (by show ts.length + xs.length ≤ 180; omega)
    | some f =>
      try dsimp only
      split
      · split
        · exact k _ (a _)
        · exact k _ (a _)
      · split
        · exact k _ (a _)
        · exact k _ (a _)
  · show 0 + _ ≤ 180
    rw [List.length_range]
    have hl := S.len
    rcases hmm with hz | hz <;> rw [hz] <;> omega
theorem sh_word (a : Ans) : dkD 1 (.str (Ans.word a)) = true := by cases a <;> simp [dkD, Ans.word] <;> decide +kernel
theorem dk_items (a : Ans) : dkD 2 (.list (Ans.items a)) = true := by
  cases a with
  | vals xs => simp [Ans.items, dkD]
  | ring ts =>
    have h : ∀ q : Int × Int × Int, dkD 1 (tieD q) = true := dk_tie
    simp [Ans.items, dkD, h]
theorem dk_ans (a : Ans) : dkD 3 (.tuple [.str (Ans.word a), .list (Ans.items a)]) = true := by
  have h1 : dkD 2 (.str (Ans.word a)) = true := by cases a <;> simp [dkD, Ans.word] <;> decide +kernel
  have h2 := dk_items a
  unfold dkD
  simp [h1, h2]
theorem dk_ansI (a : Ans) : dkD 3 (.tuple [.str (Ans.word a), .list ((Ans.items a).map id)]) = true := by
  rw [List.map_id]
  exact dk_ans a
local macro_rules | `(tactic| wtm_at "g.shp") => `(tactic| first | exact dk_shaped (dk_ans _) (by decide) | exact dk_shaped (dk_ansI _) (by decide))
theorem dk_ties (l : List Tie) : dkD 2 (.list (l.map tieD)) = true := by
  have h : ∀ q : Int × Int × Int, dkD 1 (tieD q) = true := dk_tie
  simp [dkD, h]
local macro_rules | `(tactic| wtm_at "g.shp") => `(tactic| exact dk_shaped (dk_ties _) (by decide))
theorem other_rng (n : Int) : ∀ t ∈ ([(0, 1, (-2)), (1, 2, (-3)), (2, 0, (5 - (n % 2)))] : List Tie), 0 ≤ t.1 ∧ t.1 < 3 ∧ 0 ≤ t.2.1 ∧ t.2.1 < 3 := by
  intro t ht
  simp only [List.mem_cons, List.not_mem_nil, or_false] at ht
  rcases ht with rfl | rfl | rfl <;> (dsimp only; omega)
theorem whileL_inv {σ ρ : Type} {body : σ → (σ → ρ) → ρ} {Q : ρ → Prop} (J : Nat → σ → Prop) (h0 : ∀ s, ¬ J 0 s) (hb : ∀ n s cont, J (n + 1) s → (∀ s', J n s' → Q (cont s')) → Q (body s cont)) : ∀ (n : Nat) (s : σ) (z : ρ), J n s → Q (whileL body n s z)
  | 0, s, z, h => absurd h (h0 s)
  | n + 1, s, z, h => hb n s _ h fun s' h' => whileL_inv J h0 hb n s' z h'
theorem ring_len {la : Last} {a : Int} (h : RingOk la a) : (m_ring_at la a).length ≤ la.length + 1 := by
  unfold m_ring_at
  refine forL_inv (Q := fun (r : List Tie) => r.length ≤ la.length + 1) (fun (rest : List Nat) (s : Int) => AtK la a rest.length s) (fun s hs => ?_) _ _ (fun x _ xs s n hs k => k _ hs.step) AtK.start
  have hc := h.fin hs
  refine whileL_inv (Q := fun (r : List Tie) => r.length ≤ la.length + 1) (fun left (u : Int × List Tie) => 0 < left ∧ RingW la s u.1 left ∧ u.2.length + left ≤ la.length + 2) (fun u z => Nat.lt_irrefl 0 z.1) (fun n u cont hu k => ?_) _ _ _ ⟨by omega, RingW.start hc, by show 1 + (la.length + 1) ≤ _; omega⟩
  obtain ⟨h1, h2, h3⟩ := hu
  try dsimp only
  split
  · rename_i hb
    have hb : ¬ u.1 = s := by simpa using hb
    obtain ⟨w1, w2⟩ := h2.step hb
    exact k _ ⟨w1, w2, by rw [List.length_append, List.length_singleton]; omega⟩
  · omega
theorem settled_ok (c : Int) (ts : List Tie) (hc : 0 < c ∧ c ≤ 60) (hr : ∀ t ∈ ts, 0 ≤ t.1 ∧ t.1 < c ∧ 0 ≤ t.2.1 ∧ t.2.1 < c) : AnsOk (m_settled c ts) := by
  unfold m_settled
  refine whileL_inv (Q := AnsOk) (fun left (s : Option Int × Int × List Int × Last) => 0 < left ∧ BfW c ts s.1 s.2.2.1 s.2.2.2 s.2.1 left) (fun u z => Nat.lt_irrefl 0 z.1) (fun n s cont hs k => ?_) _ _ _ ⟨by omega, BfW.start hc.1⟩
  obtain ⟨h1, h2⟩ := hs
  try dsimp only
  split
  · rename_i hb
    exact k _ (h2.step hb)
  · rename_i hb
    split
    · trivial
    · rename_i hn
      have hb := eq_false_of_ne_true hb
      have hn := eq_false_of_ne_true hn
      have := ring_len (ring_get (h2.ring hb hc.1 hr) (some_of hn))
      have e := h2.lens
      show (m_ring_at s.2.2.2 (s.1.getD default)).length < 64
      omega
theorem due_ok (n : Int) : PyData.strOk (ixD ([("values" : Str), ("ring" : Str)] : (List Str)) (n % 2)) = true := by
  have h : n % 2 = 0 ∨ n % 2 = 1 := by omega
  rcases h with h | h <;> rw [h] <;> decide +kernel
local macro_rules | `(tactic| wtm_at "g.pre") => `(tactic| first | (subst_vars; exact other_rng _) | (subst_vars; with_reducible assumption) | assumption | (subst_vars; assumption) | (subst_vars; exact due_ok _) | exact due_ok _ | decide +kernel)
theorem least_of {P : Nat → Prop} : ∀ n, P n → ∃ m, m ≤ n ∧ P m ∧ ∀ k, k < m → ¬ P k := by
  intro n
  induction n using Nat.strongRecOn with
  | ind n ih =>
    intro h
    by_cases z : ∃ k, k < n ∧ P k
    · obtain ⟨k, hk, hp⟩ := z
      obtain ⟨m, h1, h2, h3⟩ := ih k hk hp
      exact ⟨m, by omega, h2, h3⟩
    · exact ⟨n, Nat.le_refl _, h, fun k hk hp => z ⟨k, hk, hp⟩⟩
abbrev tieL (la : Last) (x : Int) (j : Nat) : Tie := (ixD la (itN la x j)).getD default
theorem ring_at_eq {la : Last} {a : Int} (h : RingOk la a) : ∃ x p, 0 < p ∧ p ≤ la.length ∧ itN la x p = x ∧ (∀ j, 0 < j → j < p → itN la x j ≠ x) ∧ (∀ k, OkAt la (itN la x k)) ∧ m_ring_at la a = (List.range p).map (tieL la x) := by
  unfold m_ring_at
  refine forL_inv (Q := fun (r : List Tie) => ∃ x p, 0 < p ∧ p ≤ la.length ∧ itN la x p = x ∧ (∀ j, 0 < j → j < p → itN la x j ≠ x) ∧ (∀ k, OkAt la (itN la x k)) ∧ r = (List.range p).map (tieL la x)) (fun (rest : List Nat) (s : Int) => AtK la a rest.length s) (fun s hs => ?_) _ _ (fun x _ xs s n hs k => k _ hs.step) AtK.start
  have hc := h.fin hs
  obtain ⟨p0, c1, c2, c3⟩ := hc.cyc
  obtain ⟨p, hp, ⟨p1, p2⟩, p3⟩ := least_of (P := fun p => 0 < p ∧ itN la s p = s) p0 ⟨c1, c3⟩
  refine whileL_inv (Q := fun (r : List Tie) => ∃ x p, 0 < p ∧ p ≤ la.length ∧ itN la x p = x ∧ (∀ j, 0 < j → j < p → itN la x j ≠ x) ∧ (∀ k, OkAt la (itN la x k)) ∧ r = (List.range p).map (tieL la x)) (fun left (u : Int × List Tie) => ∃ j, 0 < j ∧ j ≤ p ∧ u.1 = itN la s j ∧ u.2 = (List.range j).map (tieL la s) ∧ p + 1 ≤ j + left) (fun u z => ?_) (fun n u cont hu k => ?_) _ _ _ ⟨1, by omega, by omega, rfl, rfl, by omega⟩
  · obtain ⟨j, _, hj, _, _, hk⟩ := z
    omega
  obtain ⟨j, j1, j2, j3, j4, j5⟩ := hu
  try dsimp only
  split
  · rename_i hb
    have hb : ¬ u.1 = s := by simpa using hb
    have hj : j ≠ p := fun z => hb (by rw [j3, z]; exact p2)
    refine k _ ⟨j + 1, by omega, by omega, ?_, ?_, by omega⟩
    · show ((ixD la u.1).getD default).2.1 = itN la s (j + 1)
      rw [j3]
      rfl
    · show u.2 ++ [(ixD la u.1).getD default] = _
      rw [j4, j3, List.range_succ, List.map_append]
      rfl
  · rename_i hb
    have hb : u.1 = s := by simpa using hb
    have hj : j = p := by
      rcases Nat.lt_or_ge j p with z | z
      · exact absurd ⟨j1, j3.symm.trans hb⟩ (p3 j z)
      · omega
    subst hj
    exact ⟨s, j, p1, by omega, p2, fun i i0 i1 e => p3 i i1 ⟨i0, e⟩, hc.ok, j4⟩
def sumTo (f : Nat → Int) : Nat → Int
  | 0 => 0
  | n + 1 => sumTo f n + f n
theorem sumTo_le {f : Nat → Int} {V : Nat → Int} : ∀ p, (∀ j, j < p → V (j + 1) + f j ≤ V j) → V p + sumTo f p ≤ V 0
  | 0, _ => by show V 0 + 0 ≤ V 0; omega
  | p + 1, h => by
    have h1 := sumTo_le p fun j hj => h j (by omega)
    have h2 := h p (by omega)
    show V (p + 1) + (sumTo f p + f p) ≤ V 0
    omega
theorem sumTo_ge {f : Nat → Int} {V : Nat → Int} : ∀ p, (∀ j, j < p → V j ≤ V (j + 1) + f j) → V 0 ≤ V p + sumTo f p
  | 0, _ => by show V 0 ≤ V 0 + 0; omega
  | p + 1, h => by
    have h1 := sumTo_ge p fun j hj => h j (by omega)
    have h2 := h p (by omega)
    show V 0 ≤ V (p + 1) + (sumTo f p + f p)
    omega
theorem sumTo_lt {f : Nat → Int} {V : Nat → Int} : ∀ p, (∀ j, j < p → V (j + 1) + f j ≤ V j) → (∃ j, j < p ∧ V (j + 1) + f j < V j) → V p + sumTo f p < V 0
  | 0, _, h => by obtain ⟨j, hj, _⟩ := h; omega
  | p + 1, h, hs => by
    have h2 := h p (by omega)
    show V (p + 1) + (sumTo f p + f p) < V 0
    obtain ⟨j, hj, e⟩ := hs
    by_cases z : j = p
    · subst z
      have h1 := sumTo_le j fun i hi => h i (by omega)
      omega
    · have h1 := sumTo_lt p (fun i hi => h i (by omega)) ⟨j, by omega, e⟩
      omega
theorem down_le {f : Nat → Nat} {p : Nat} (h : ∀ j, j < p → f (j + 1) ≤ f j) : ∀ i j, i ≤ j → j ≤ p → f j ≤ f i := by
  intro i j hij hj
  induction j with
  | zero => have : i = 0 := by omega
            rw [this]; exact Nat.le_refl _
  | succ j ih =>
    by_cases z : i = j + 1
    · rw [z]; exact Nat.le_refl _
    · exact Nat.le_trans (h j (by omega)) (ih (by omega) (by omega))
/-- what the ring is -/
theorem ring_law {n : Nat} {ts : List Tie} {k : Nat} {m : Option Int} {vs : List Int} {la : Last} (h : RS (n : Int) ts k (m, vs, la)) (hr : ∀ t ∈ ts, 0 ≤ t.1 ∧ t.1 < (n : Int) ∧ 0 ≤ t.2.1 ∧ t.2.1 < (n : Int)) (hl : la.length = n) {x : Int} {p : Nat} (p0 : 0 < p) (px : itN la x p = x) (ok : ∀ k, OkAt la (itN la x k)) :
    (∀ j, tieL la x j ∈ ts ∧ (tieL la x j).1 = itN la x j ∧ (tieL la x j).2.1 = itN la x (j + 1)) ∧ sumTo (fun j => (tieL la x j).2.2) p < 0 := by
  obtain ⟨lev, tm, T, g, _⟩ := h
  have rng : ∀ j, 0 ≤ itN la x j ∧ itN la x j < (n : Int) := fun j => by
    have o := ok j
    have o1 := o.2.1
    rw [hl] at o1
    exact ⟨o.1, o1⟩
  have ti : ∀ j, ixD la (itN la x j) = some (tieL la x j) := fun j => by
    obtain ⟨t, et⟩ := Option.isSome_iff_exists.mp (ok j).2.2
    unfold tieL
    rw [et]
    rfl
  have b := fun j => g.b (itN la x j) (tieL la x j) (rng j).1 (rng j).2 (ti j)
  have e2 : ∀ j, (tieL la x j).2.1 = itN la x (j + 1) := fun j => rfl
  refine ⟨fun j => ⟨(b j).1, (b j).2.1, rfl⟩, ?_⟩
  have V := sumTo_lt (f := fun j => (tieL la x j).2.2) (V := fun j => ixD vs (itN la x j)) p (fun j hj => (b j).2.2.2.1) ?_
  · try dsimp only at V
    rw [px] at V
    have : itN la x 0 = x := rfl
    rw [this] at V
    omega
  · by_cases hs : ∃ j, j < p ∧ ixD vs (itN la x (j + 1)) + (tieL la x j).2.2 < ixD vs (itN la x j)
    · exact hs
    · exfalso
      have hn : ∀ j, j < p → ¬ (ixD vs (itN la x (j + 1)) + (tieL la x j).2.2 < ixD vs (itN la x j)) := fun j hj z => hs ⟨j, hj, z⟩
      have ht : ∀ j, j < p → tm (itN la x (j + 1)) ≤ tm (itN la x j) := fun j hj => by
        rcases Nat.lt_or_ge (tm (itN la x j)) (tm (itN la x (j + 1))) with z | z
        · exact absurd ((b j).2.2.2.2.1 z) (hn j hj)
        · exact z
      have d1 := down_le (f := fun j => tm (itN la x j)) ht 0 1 (by omega) (by omega)
      have d2 := down_le (f := fun j => tm (itN la x j)) ht 1 p (by omega) (Nat.le_refl _)
      try dsimp only at d1 d2
      rw [px] at d2
      have e0 : itN la x 0 = x := rfl
      rw [e0] at d1
      have eq := g.d (itN la x 1) x (rng 1).1 (rng 1).2 (rng 0).1 (rng 0).2 (by rw [ti 1]; exact Option.some_ne_none _) (by have := ti 0; rw [e0] at this; rw [this]; exact Option.some_ne_none _) (by omega)
      have neg := (b 0).2.2.2.2.2 eq
      have s0 := hn 0 p0
      have : itN la x (0 + 1) = x := eq
      rw [this, e0] at s0
      omega
theorem sum_map (f : Nat → Int) : ∀ p, ((List.range p).map f).sum = sumTo f p
  | 0 => rfl
  | p + 1 => by
    rw [List.range_succ, List.map_append, List.sum_append, sum_map f p]
    show sumTo f p + (f p + 0) = sumTo f p + f p
    omega
theorem nub_len {l : List Tie} (h : l.Nodup) : (nubL l).length = l.length := ((List.perm_ext_iff_of_nodup (nubL_nd l) h).mpr fun x => nubL_mem l x).length_eq
theorem forL_sum {ρ : Type} (P : Nat → Bool) (c : Nat → Int) (k : Int → ρ) (no : ρ) : ∀ (l : List Nat) (s : Int), (∀ x ∈ l, P x = false) → forL (fun x s n => if P x = true then no else n (s + c x)) k l s = k (s + (l.map c).sum)
  | [], s, _ => by show k s = _; rw [List.map_nil, List.sum_nil, Int.add_zero]
  | x :: xs, s, h => by
    show (if P x = true then no else forL _ k xs (s + c x)) = _
    rw [if_neg (by rw [h x List.mem_cons_self]; decide), forL_sum P c k no xs _ fun y hy => h y (List.mem_cons_of_mem _ hy), List.map_cons, List.sum_cons, Int.add_assoc]
theorem tie_true (t : Tie) : m_law_tie t = true := by
  unfold m_law_tie
  rfl
/-- the law's own look at a ring -/
theorem law_ring_true {ts : List Tie} {p : Nat} {t : Nat → Tie} (p0 : 0 < p) (hm : ∀ j, j < p → t j ∈ ts) (hn : ∀ i j, i < j → j < p → (t i).1 ≠ (t j).1) (hc : ∀ j, j < p → (t j).2.1 = (t ((j + 1) % p)).1) (hs : sumTo (fun j => (t j).2.2) p < 0) : m_law_ring ((List.range p).map t) ts = true := by
  have hl : ((List.range p).map t).length = p := by rw [List.length_map, List.length_range]
  have nd : ((List.range p).map t).Nodup := by
    unfold List.Nodup
    rw [List.pairwise_iff_getElem]
    intro i j hi hj hij e
    rw [hl] at hi hj
    rw [List.getElem_map, List.getElem_map, List.getElem_range, List.getElem_range] at e
    exact hn i j hij hj (congrArg (·.1) e)
  have ix : ∀ j : Nat, j < p → ixD ((List.range p).map t) (j : Int) = t j := fun j hj => by
    rw [ixD_eq (by omega) (by rw [hl]; omega), List.getD_eq_getElem?_getD, Int.toNat_natCast, List.getElem?_map, List.getElem?_range hj]
    rfl
  unfold m_law_ring
  rw [if_neg]
  · rw [hl]
    have e : (((p : Nat) : Int)).toNat = p := Int.toNat_natCast p
    rw [e]
    simp only [letF]
    have := forL_sum (fun x : Nat => ((!(m_law_tie (ixD ((List.range p).map t) (x : Int)))) || ((!memB (ixD ((List.range p).map t) (x : Int)) ts) || (!decide ((ixD ((List.range p).map t) (x : Int)).2.1 = (ixD ((List.range p).map t) (((x : Int) + 1) % ((p : Nat) : Int))).1)))))
      (fun x => (ixD ((List.range p).map t) (x : Int)).2.2) (fun s : Int => decide (s < 0)) false (List.range p) 0 (fun x hx => by
        have hx := List.mem_range.mp hx
        have e2 : ((x : Int) + 1) % ((p : Nat) : Int) = (((x + 1) % p : Nat) : Int) := by rw [Int.natCast_emod, Int.natCast_add]; rfl
        rw [e2, ix x hx, ix _ (Nat.mod_lt _ p0), tie_true, memB_true.mpr (hm x hx), decide_eq_true (hc x hx)]
        rfl)
    refine this.trans ?_
    have e3 : (List.range p).map (fun x : Nat => (ixD ((List.range p).map t) (x : Int)).2.2) = (List.range p).map (fun j => (t j).2.2) := by
      refine List.map_congr_left fun x hx => ?_
      rw [ix x (List.mem_range.mp hx)]
    rw [e3, sum_map, Int.zero_add]
    exact decide_eq_true hs
  · rw [nub_len nd, hl]
    simp
    omega
theorem law_values_true {xs : List Int} {c : Int} {ts : List Tie} (hl : (xs.length : Int) = c) (h0 : ixD xs 0 = 0) (h : ∀ t ∈ ts, ixD xs t.1 - ixD xs t.2.1 ≤ t.2.2) : m_law_values xs c ts = true := by
  unfold m_law_values
  rw [if_neg]
  · have a : ∀ (l : List Int) (k : Unit → Bool), forL (fun (x_1 : Int) (s_3 : Unit) n_1 => n_1 ()) k l () = k () := fun l k => by
      induction l with
      | nil => rfl
      | cons x l ih => exact ih
    rw [a]
    have := forL_all (fun x_4 : Tie => decide (x_4.2.2 < ((ixD xs x_4.1) - (ixD xs x_4.2.1)))) false true ts
    refine this.trans ?_
    rw [if_neg]
    intro z
    obtain ⟨t, ht, e⟩ := List.any_eq_true.mp z
    have := of_decide_eq_true e
    have := h t ht
    omega
  · rw [h0, hl]
    simp
theorem ixD_map {α β : Type} [Inhabited α] [Inhabited β] {xs : List α} {f : α → β} {i : Int} (h0 : 0 ≤ i) (h1 : i < xs.length) : ixD (xs.map f) i = f (ixD xs i) := by
  have := at_ixD (f := f) h0 h1
  show (L2.atI (xs.map f) i).getD default = _
  rw [this]
  rfl
theorem settled_law {c : Int} {ts : List Tie} (hc : 0 < c ∧ c ≤ 60) (hr : ∀ t ∈ ts, 0 ≤ t.1 ∧ t.1 < c ∧ 0 ≤ t.2.1 ∧ t.2.1 < c) :
    (∃ xs, m_settled c ts = Ans.vals xs ∧ (xs.length : Int) = c ∧ ixD xs 0 = 0 ∧ ∀ t ∈ ts, ixD xs t.1 - ixD xs t.2.1 ≤ t.2.2) ∨
    (∃ (p : Nat) (t : Nat → Tie), m_settled c ts = Ans.ring ((List.range p).map t) ∧ 0 < p ∧ (∀ j, j < p → t j ∈ ts) ∧ (∀ i j, i < j → j < p → (t i).1 ≠ (t j).1) ∧ (∀ j, j < p → (t j).2.1 = (t ((j + 1) % p)).1) ∧ sumTo (fun j => (t j).2.2) p < 0) := by
  unfold m_settled
  refine whileL_inv (Q := fun r => (∃ xs, r = Ans.vals xs ∧ (xs.length : Int) = c ∧ ixD xs 0 = 0 ∧ ∀ t ∈ ts, ixD xs t.1 - ixD xs t.2.1 ≤ t.2.2) ∨
    (∃ (p : Nat) (t : Nat → Tie), r = Ans.ring ((List.range p).map t) ∧ 0 < p ∧ (∀ j, j < p → t j ∈ ts) ∧ (∀ i j, i < j → j < p → (t i).1 ≠ (t j).1) ∧ (∀ j, j < p → (t j).2.1 = (t ((j + 1) % p)).1) ∧ sumTo (fun j => (t j).2.2) p < 0))
    (fun left (s : Option Int × Int × List Int × Last) => 0 < left ∧ BfW c ts s.1 s.2.2.1 s.2.2.2 s.2.1 left) (fun u z => Nat.lt_irrefl 0 z.1) (fun n s cont hs k => ?_) _ _ _ ⟨by omega, BfW.start hc.1⟩
  obtain ⟨h1, h2⟩ := hs
  try dsimp only
  split
  · rename_i hb
    exact k _ (h2.step hb)
  · rename_i hb
    have hb := eq_false_of_ne_true hb
    have hlen := h2.lens
    split
    · rename_i hn
      refine .inl ⟨_, rfl, by rw [List.length_map]; omega, ?_, fun t ht => ?_⟩
      · rw [ixD_map (by omega) (by omega)]
        omega
      · obtain ⟨kk, _, _, e⟩ := h2
        have hne : s.1 = none := by
          cases hs1 : s.1 with
          | none => rfl
          | some x => rw [hs1] at hn; cases hn
        have := bfN_none hc.1 hr kk (by rw [← e]; exact hne) t ht
        rw [← e] at this
        obtain ⟨r1, r2, r3, r4⟩ := hr t ht
        rw [ixD_map r1 (by omega), ixD_map r3 (by omega)]
        try dsimp only at this
        omega
    · rename_i hn
      have hn := eq_false_of_ne_true hn
      have ro := ring_get (h2.ring hb hc.1 hr) (some_of hn)
      obtain ⟨x, p, p0, _, px, pm, ok, er⟩ := ring_at_eq ro
      obtain ⟨kk, _, _, e⟩ := h2
      have rs := bfN_RS hc.1 hr (kk + 1)
      rw [← e] at rs
      have hcn : ((c.toNat : Nat) : Int) = c := by omega
      rw [← hcn] at rs
      have law := ring_law rs (by rw [hcn]; exact hr) hlen.2 p0 px ok
      refine .inr ⟨p, tieL s.2.2.2 x, by rw [← er]; rfl, p0, fun j _ => (law.1 j).1, fun i j hij hj e => ?_, fun j hj => ?_, law.2⟩
      · rw [(law.1 i).2.1, (law.1 j).2.1] at e
        refine pm (i + (p - j)) (by omega) (by omega) ?_
        have a : itN s.2.2.2 x (j + (p - j)) = x := by
          rw [show j + (p - j) = p by omega]
          exact px
        rw [itN_add, e, ← itN_add]
        exact a
      · rw [(law.1 j).2.2, (law.1 _).2.1]
        by_cases z : j + 1 < p
        · rw [Nat.mod_eq_of_lt z]
        · have : j + 1 = p := by omega
          rw [this, Nat.mod_self]
          exact px
def Inf (ts : List Tie) : Prop := ∀ V : Int → Int, (∀ t ∈ ts, V t.1 - V t.2.1 ≤ t.2.2) → False
def Feas (ts : List Tie) : Prop := ∃ V : Int → Int, ∀ t ∈ ts, V t.1 - V t.2.1 ≤ t.2.2
theorem good_true {c : Int} {ts : List Tie} {due : Str} (hc : 0 < c ∧ c ≤ 60) (hr : ∀ t ∈ ts, 0 ≤ t.1 ∧ t.1 < c ∧ 0 ≤ t.2.1 ∧ t.2.1 < c) (h : (due = "ring" ∧ Inf ts) ∨ (due = "values" ∧ Feas ts)) : m_law_good (m_settled c ts) c ts due = true := by
  rcases settled_law hc hr with ⟨xs, e, h1, h2, h3⟩ | ⟨p, t, e, h1, h2, h3, h4, h5⟩
  · rw [e]
    rcases h with ⟨rfl, h⟩ | ⟨rfl, h⟩
    · exact (h (ixD xs) h3).elim
    · unfold m_law_good
      try dsimp only
      rw [if_neg (by decide +kernel)]
      exact law_values_true h1 h2 h3
  · rw [e]
    rcases h with ⟨rfl, h⟩ | ⟨rfl, V, h⟩
    · unfold m_law_good
      try dsimp only
      rw [if_neg (by decide +kernel)]
      have := law_ring_true h1 h2 h3 h4 h5
      simp only [letF]
      rw [this]
      rfl
    · exfalso
      have w : ∀ j, j ≤ p → j ≤ p := fun _ z => z
      have := sumTo_ge (f := fun j => (t j).2.2) (V := fun j => V (t (j % p)).1) p (fun j hj => by
        have a := h _ (h2 j hj)
        rw [h4 j hj] at a
        try dsimp only
        rw [Nat.mod_eq_of_lt hj]
        omega)
      try dsimp only at this
      rw [Nat.mod_self, Nat.zero_mod] at this
      omega
theorem good_any {c : Int} {ts : List Tie} (hc : 0 < c ∧ c ≤ 60) (hr : ∀ t ∈ ts, 0 ≤ t.1 ∧ t.1 < c ∧ 0 ≤ t.2.1 ∧ t.2.1 < c) : m_law_good (m_settled c ts) c ts "" = true := by
  rcases settled_law hc hr with ⟨xs, e, h1, h2, h3⟩ | ⟨p, t, e, h1, h2, h3, h4, h5⟩
  · rw [e]
    unfold m_law_good
    try dsimp only
    rw [if_neg (by decide +kernel)]
    exact law_values_true h1 h2 h3
  · rw [e]
    unfold m_law_good
    try dsimp only
    rw [if_neg (by decide +kernel)]
    have := law_ring_true h1 h2 h3 h4 h5
    rw [this]
    rfl
theorem other_due (n : Int) : ((ixD ([("values" : Str), ("ring" : Str)] : (List Str)) (n % 2)) = "ring" ∧ Inf [(0, 1, (-2)), (1, 2, (-3)), (2, 0, (5 - (n % 2)))]) ∨ ((ixD ([("values" : Str), ("ring" : Str)] : (List Str)) (n % 2)) = "values" ∧ Feas [(0, 1, (-2)), (1, 2, (-3)), (2, 0, (5 - (n % 2)))]) := by
  have h : n % 2 = 0 ∨ n % 2 = 1 := by omega
  rcases h with h | h
  · right
    rw [h]
    refine ⟨rfl, fun i => if i = 0 then 0 else if i = 1 then 2 else 5, ?_⟩
    intro t ht
    simp only [List.mem_cons, List.not_mem_nil, or_false] at ht
    rcases ht with rfl | rfl | rfl <;> decide
  · left
    rw [h]
    refine ⟨rfl, fun V hV => ?_⟩
    have a := hV (0, 1, -2) (by simp)
    have b := hV (1, 2, -3) (by simp)
    have d := hV (2, 0, 5 - 1) (by simp)
    dsimp only at a b d
    omega
theorem law_true (S : Scr) : m_law S = true := by
  obtain ⟨R, h⟩ : ∃ R, m_law S = R := ⟨_, rfl⟩
  rw [h]
  unfold m_law at h
  replace h := letF_elim h
  obtain ⟨r1, e1, h⟩ := h
  replace h := letF_elim h
  obtain ⟨count, e2, h⟩ := h
  replace h := letF_elim h
  obtain ⟨r3, e3, h⟩ := h
  replace h := joinF_elim h
  obtain ⟨j, hj, h⟩ := h
  have hq : ∃ q, (0 < q ∧ q ≤ 60) ∧ j q = R := by
    split at h
    · exact ⟨_, ⟨by omega, by omega⟩, h⟩
    · exact ⟨_, ⟨by omega, by omega⟩, h⟩
  obtain ⟨q, hq, h⟩ := hq
  replace h := hj q h
  replace h := letF_elim h
  obtain ⟨ts, ets, h⟩ := h
  have rt : ∀ t ∈ ts, 0 ≤ t.1 ∧ t.1 < q ∧ 0 ≤ t.2.1 ∧ t.2.1 < q := by
    rw [← ets]
    exact lties_ok S q ⟨hq.1, by omega⟩
  replace h := letF_elim h
  obtain ⟨r9, er9, h⟩ := h
  have g1 := good_any hq rt
  rw [er9] at g1
  rw [g1, dk_refl (dk_ties ts)] at h
  rw [if_neg (by decide)] at h
  replace h := letF_elim h
  obtain ⟨r10, er10, h⟩ := h
  replace h := letF_elim h
  obtain ⟨r11, er11, h⟩ := h
  have g2 := good_true (c := 3) (by omega) (other_rng ts.length) (other_due ts.length)
  rw [er10, er11] at g2
  subst g2
  rw [if_neg (by decide)] at h
  replace h := letF_elim h
  obtain ⟨r12, er12, h⟩ := h
  have e : r12 = r9 := er12.symm.trans er9
  subst e
  rw [dk_refl (dk_ans r12)] at h
  exact h.symm
section
variable {P : Program} {w : World} {K : PySem.W.Frag} {mg : Str → Option Value} {base : Heap}
inductive SpLaw : Spec
  | mk {S : Scr} : SpLaw [.val S.D] [] (.val (.bool true)) []
theorem fn_law {f : Addr} {fd : FuncData} (F : Fun K "law" "law" s_law f fd) (C_law_cell : Cal P w K mg base 1 "_law_cell" 2 Sp_law_cell) (C_law_ties : Cal P w K mg base 3 "_law_ties" 2 Sp_law_ties) (C_settled : Cal P w K mg base 2 "settled" 2 Sp_settled) (C_law_good : Cal P w K mg base 3 "_law_good" 4 Sp_law_good) (z_len : mg "len" = none) (z_list : mg "list" = none) : FnOk P w K mg base CX0 4 f fd P_law (spM K 1 SpLaw) := by
  refine fn_def F sc_law tb_law (fun f cdv A outer s0 H E hr T TL svs cs sv cs1 hsp hl => ?_)
  cases hsp with
  | @mk S_0 =>
  refine (fun (key : ∀ R0, m_law S_0 = R0 → SX _ _ _ _ _ { nx := fun _ cs2 => RetOk 0 (.val (.bool R0)) [] (.val .none) cs2, rt := fun s2 cs2 => RetOk 0 (.val (.bool R0)) [] s2 cs2 }) => key true (law_true S_0)) ?_
  intro R0 h
  unfold m_law at h
  have hSl := S_0.len
  show SX _ _ _ [some (.val (Scr.D S_0)), none, none, none, none, none, none] [] _
  replace h := letF_elim h
  obtain ⟨r_1, er_1, h⟩ := h
  replace h := letF_elim h
  obtain ⟨count_2, ecount_2, h⟩ := h
  have p1 := cell_bd S_0 1
  refine sx_cons (s1_set TL rfl (ev_is (t := .val (.int count_2)) (ev_add ev_int (ev_mod (ev_as (t := .val (.int r_1)) (cs2 := []) (ev_callM (κ := []) C_law_cell hr (by decide) rfl (av_cons (ev_name T rfl Lk.here rfl) (av_cons ev_int av_nil)) Sel.nil (RenA.val (RenA.val RenA.nil)) (Sp_law_cell.mk (script_0 := S_0) (k_0 := 1) (by wtm_at "g.pre")) SetA.nil (List.prefix_refl _) rfl (by decide) rfl) (by subst er_1; rfl) (by subst er_1; rfl)) ev_int (by wtm_at "d.side"))) (by subst ecount_2; rfl)) (Put.there Put.here) ?_ rfl)
  show SX _ _ _ _ _ _
  replace h := letF_elim h
  obtain ⟨r_3, er_3, h⟩ := h
  have p2 := cell_bd S_0 1
  replace h := joinF_elim h
  obtain ⟨j_1, hj_1, h⟩ := h
  refine' sx_cutA (fun sl1 cs1 => ∃ q_5 : (Int), j_1 q_5 = R0 ∧ (0 < q_5 ∧ q_5 ≤ 60) ∧ sl1 = [some (.val (Scr.D S_0)), some (.val (.int q_5)), none, none, none, none, none] ∧ cs1 = []) ?st4 ?rest4
  case st4 =>
    refine' s1_if (tv_eqI (ev_mod (ev_div (ev_as (t := .val (.int r_3)) (cs2 := []) (ev_callM (κ := []) C_law_cell hr (by decide) rfl (av_cons (ev_name T rfl Lk.here rfl) (av_cons ev_int av_nil)) Sel.nil (RenA.val (RenA.val RenA.nil)) (Sp_law_cell.mk (script_0 := S_0) (k_0 := 1) (by wtm_at "g.pre")) SetA.nil (List.prefix_refl _) rfl (by decide) rfl) (by subst er_3; rfl) (by subst er_3; rfl)) ev_int (by wtm_at "d.div")) ev_int (by wtm_at "d.side")) ev_int) ?y4 ?n4
    case y4 =>
      intro hb3
      have hb3x := hb3
      try simp only [Bool.and_eq_true, Bool.or_eq_true, Bool.and_eq_false_iff, Bool.or_eq_false_iff, decide_eq_true_eq, decide_eq_false_iff_not, Bool.not_eq_true', Bool.not_eq_false', Bool.not_eq_eq_eq_not, Bool.not_true, Bool.not_false] at hb3x
      rw [if_pos hb3] at h
      replace h := letF_elim h
      obtain ⟨r_6, er_6, h⟩ := h
      replace h := letF_elim h
      obtain ⟨count_7, ecount_7, h⟩ := h
      have p5 := cell_bd S_0 1
      refine sx_cons (s1_set TL rfl (ev_is (t := .val (.int count_7)) (ev_add ev_int (ev_mod (ev_div (ev_as (t := .val (.int r_6)) (cs2 := []) (ev_callM (κ := []) C_law_cell hr (by decide) rfl (av_cons (ev_name T rfl Lk.here rfl) (av_cons ev_int av_nil)) Sel.nil (RenA.val (RenA.val RenA.nil)) (Sp_law_cell.mk (script_0 := S_0) (k_0 := 1) (by wtm_at "g.pre")) SetA.nil (List.prefix_refl _) rfl (by decide) rfl) (by subst er_6; rfl) (by subst er_6; rfl)) ev_int (by wtm_at "d.div")) ev_int (by wtm_at "d.side"))) (by subst ecount_7; rfl)) (Put.there Put.here) ?_ rfl)
      show SX _ _ _ _ _ _
      refine sx_nil ?_
      exact ⟨_, _, ⟨(count_7), h, (by wtm_at "g.inv"), rfl, rfl⟩, (At.same (Le.same (Le.same (Le.lose (Le.lose (Le.lose (Le.lose (Le.lose Le.nil))))))))⟩
    case n4 =>
      intro hb3
      have hb3x := hb3
      try simp only [Bool.and_eq_true, Bool.or_eq_true, Bool.and_eq_false_iff, Bool.or_eq_false_iff, decide_eq_true_eq, decide_eq_false_iff_not, Bool.not_eq_true', Bool.not_eq_false', Bool.not_eq_eq_eq_not, Bool.not_true, Bool.not_false] at hb3x
      rw [if_neg (by rw [hb3]; decide)] at h
      refine sx_nil ?_
      exact ⟨_, _, ⟨(count_2), h, (by wtm_at "g.inv"), rfl, rfl⟩, (At.same (Le.same (Le.same (Le.lose (Le.lose (Le.lose (Le.lose (Le.lose Le.nil))))))))⟩
  clear h
  rintro _ _ ⟨count_4, h, hi1, rfl, rfl⟩
  replace h := hj_1 _ h
  try dsimp only at h hi1
  show SX _ _ _ [some (.val (Scr.D S_0)), some (.val (.int count_4)), none, none, none, none, none] [] _
  replace h := letF_elim h
  obtain ⟨c_8, ec_8, h⟩ := h
  have p6 := lties_ok S_0 count_4 (by wtm_at "g.sd")
  have p7 := lties_len S_0 count_4
  refine sx_cons (s1_set TL rfl (ev_as (t := .cell 0) (cs2 := [(.lst ((c_8.map e_tup_int_int_int).map SV.val))]) (ev_callN (κ := []) C_law_ties hr (by decide) rfl (av_cons (ev_name T rfl Lk.here rfl) (av_cons (ev_name T rfl (Lk.there Lk.here) rfl) av_nil)) Sel.nil (RenA.val (RenA.val RenA.nil)) (Sp_law_ties.mk (script_0 := S_0) (count_0 := count_4) (by wtm_at "g.pre")) (i := 0) rfl SetA.nil AppC.nil rfl (by wtm_at "d.flat") (by intro z; cases z) (by decide) rfl) rfl (by subst ec_8; rfl)) (Put.there (Put.there Put.here)) ?_ rfl)
  show SX _ _ _ _ _ _
  refine sx_cons (s1_set TL rfl (ev_listC (xs := (c_8.map e_tup_int_int_int).map SV.val) z_list rfl (ev_name T rfl (Lk.there (Lk.there Lk.here)) rfl) (IsQ.l (IsL.cell rfl)) (AppC.cons AppC.nil)) (Put.there (Put.there (Put.there Put.here))) ?_ rfl)
  show SX _ _ _ _ _ _
  replace h := letF_elim h
  obtain ⟨r_9, er_9, h⟩ := h
  have p8 := settled_ok count_4 c_8 (by wtm_at "g.sd") (by wtm_at "g.pre")
  refine sx_cons (s1_set TL rfl (ev_as (t := .cell 2) (cs2 := [(.lst ((c_8.map e_tup_int_int_int).map SV.val)), (.lst ((c_8.map e_tup_int_int_int).map SV.val)), (.tup [.val (.str (Ans.word r_9)), .cell 3]), (.lst ((Ans.items r_9).map SV.val))]) (ev_callG (κ := [1]) (da := [(.lst ((c_8.map e_tup_int_int_int).map SV.val))]) (db := [(.tup [.val (.str (Ans.word (m_settled count_4 c_8))), .cell 3]), (.lst ((Ans.items (m_settled count_4 c_8)).map SV.val))]) C_settled hr (by decide) rfl (av_cons (ev_name T rfl (Lk.there Lk.here) rfl) (av_cons (ev_name T rfl (Lk.there (Lk.there (Lk.there Lk.here))) rfl) av_nil)) (SelR.cons rfl (RenC.flat (by wtm_at "d.flat")) SelR.nil) (RenA.val (RenA.cell rfl RenA.nil)) (Sp_settled.mk (count_0 := count_4) (ties_0 := c_8) (by wtm_at "g.pre") (by wtm_at "g.pre")) (Paired.cons (RenC.flat (by wtm_at "d.flat")) (Paired.cons (RenC.ren rfl rfl) (Paired.cons (RenC.flat (by wtm_at "d.flat")) Paired.nil))) rfl (SetA.cons (PutC.there PutC.here) SetA.nil) rfl rfl (by decide) rfl) rfl (by subst er_9; rfl)) (Put.there (Put.there (Put.there (Put.there Put.here)))) ?_ rfl)
  show SX _ _ _ _ _ _
  refine' sx_cons (s1_if (tv_w (wv_or (tv_not (tv_val (ev_callG (κ := [2, 3, 0]) (da := [(.tup [.val (.str (Ans.word r_9)), .cell 3]), (.lst ((Ans.items r_9).map SV.val)), (.lst ((c_8.map e_tup_int_int_int).map SV.val))]) (db := []) C_law_good hr (by decide) rfl (av_cons (ev_name T rfl (Lk.there (Lk.there (Lk.there (Lk.there Lk.here)))) rfl) (av_cons (ev_name T rfl (Lk.there Lk.here) rfl) (av_cons (ev_name T rfl (Lk.there (Lk.there Lk.here)) rfl) (av_cons ev_str av_nil)))) (SelR.cons rfl (RenC.ren rfl rfl) (SelR.cons rfl (RenC.flat (by wtm_at "d.flat")) (SelR.cons rfl (RenC.flat (by wtm_at "d.flat")) SelR.nil))) (RenA.cell rfl (RenA.val (RenA.cell rfl (RenA.val RenA.nil)))) (Sp_law_good.mk (answer_0 := r_9) (count_0 := count_4) (ties_here_0 := c_8) (due_0 := ("" : Str)) (by wtm_at "g.pre") (by wtm_at "g.pre") (by wtm_at "g.pre") (by wtm_at "g.pre")) (Paired.cons (RenC.ren rfl rfl) (Paired.cons (RenC.flat (by wtm_at "d.flat")) (Paired.cons (RenC.flat (by wtm_at "d.flat")) Paired.nil))) rfl (SetA.cons (PutC.there (PutC.there PutC.here)) (SetA.cons (PutC.there (PutC.there (PutC.there PutC.here))) (SetA.cons PutC.here SetA.nil))) rfl rfl (by decide) rfl))) (fun hk9 => (by
    have hk9x := hk9
    try simp only [Bool.and_eq_true, Bool.or_eq_true, Bool.and_eq_false_iff, Bool.or_eq_false_iff, decide_eq_true_eq, decide_eq_false_iff_not, Bool.not_eq_true', Bool.not_eq_false', Bool.not_eq_eq_eq_not, Bool.not_true, Bool.not_false] at hk9x
    exact (wv_or1 (tv_neD2 (d := (.list (c_8.map e_tup_int_int_int))) (e := (.list (c_8.map e_tup_int_int_int))) hr (ev_name T rfl (Lk.there (Lk.there (Lk.there Lk.here))) rfl) (ev_name T rfl (Lk.there (Lk.there Lk.here)) rfl) (IsDat2.base (IsDat.cell rfl (by wtm_at "g.data"))) (IsDat2.base (IsDat.cell rfl (by wtm_at "g.data"))) (by wtm_at "g.shp") (by wtm_at "g.shp"))))))) ?y11 ?n11)
  case y11 =>
    intro hb10
    have hb10x := hb10
    try simp only [Bool.and_eq_true, Bool.or_eq_true, Bool.and_eq_false_iff, Bool.or_eq_false_iff, decide_eq_true_eq, decide_eq_false_iff_not, Bool.not_eq_true', Bool.not_eq_false', Bool.not_eq_eq_eq_not, Bool.not_true, Bool.not_false] at hb10x
    rw [if_pos hb10] at h
    refine sx_cons (s1_ret ev_bool ?_)
    show RetOk _ _ _ _ _
    subst h
    exact ret_val rfl rfl rfl (by wtm_at "d.lt")
  case n11 =>
    intro hb10
    have hb10x := hb10
    try simp only [Bool.and_eq_true, Bool.or_eq_true, Bool.and_eq_false_iff, Bool.or_eq_false_iff, decide_eq_true_eq, decide_eq_false_iff_not, Bool.not_eq_true', Bool.not_eq_false', Bool.not_eq_eq_eq_not, Bool.not_true, Bool.not_false] at hb10x
    rw [if_neg (by rw [hb10]; decide)] at h
    refine sx_nil ?_
    show SX _ _ _ _ _ _
    refine sx_cons (s1_set TL rfl (ev_tup (ad_cons (ev_ixC (ev_name T rfl (Lk.there (Lk.there (Lk.there (Lk.there Lk.here)))) rfl) ev_int rfl rfl) (ad_cons (ev_listV (ds := (Ans.items r_9)) z_list rfl (ev_ixC (ev_name T rfl (Lk.there (Lk.there (Lk.there (Lk.there Lk.here)))) rfl) ev_int rfl rfl) (IsQ.l (IsL.cell rfl))) ad_nil)) rfl) (Put.there (Put.there (Put.there (Put.there (Put.there Put.here))))) ?_ rfl)
    show SX _ _ _ _ _ _
    refine sx_cons (s1_set TL rfl (ev_lstC (ss := [.val (e_tup_int_int_int (0, 1, (-2))), .val (e_tup_int_int_int (1, 2, (-3))), .val (e_tup_int_int_int (2, 0, (5 - ((c_8.length : Int) % 2))))]) (av_cons (ev_tup (ad_cons ev_int (ad_cons ev_int (ad_cons (ev_is (t := .val (.int (-2))) (ev_neg ev_int) rfl) ad_nil))) rfl) (av_cons (ev_tup (ad_cons ev_int (ad_cons ev_int (ad_cons (ev_is (t := .val (.int (-3))) (ev_neg ev_int) rfl) ad_nil))) rfl) (av_cons (ev_tup (ad_cons ev_int (ad_cons ev_int (ad_cons (ev_sub ev_int (ev_mod (ev_is (t := .val (.int (c_8.length : Int))) (ev_len z_len rfl (ev_name T rfl (Lk.there (Lk.there Lk.here)) rfl) (rc_lenL (IsL.cell rfl))) (by simp only [List.length_map])) ev_int (by wtm_at "d.side"))) ad_nil))) rfl) av_nil))) (AppC.cons (AppC.cons (AppC.cons (AppC.cons AppC.nil)))) rfl) (Put.there (Put.there (Put.there (Put.there (Put.there (Put.there Put.here)))))) ?_ rfl)
    show SX _ _ _ _ _ _
    replace h := letF_elim h
    obtain ⟨r_10, er_10, h⟩ := h
    replace h := letF_elim h
    obtain ⟨r_11, er_11, h⟩ := h
    have p12 := settled_ok 3 ([(0, 1, (-2)), (1, 2, (-3)), (2, 0, (5 - ((c_8.length : Int) % 2)))] : (List (Int × Int × Int))) (by wtm_at "g.sd") (by wtm_at "g.pre")
    have at13 : L2.atI (([("values" : Str), ("ring" : Str)] : (List Str)).map PyData.str) ((c_8.length : Int) % 2) = some (PyData.str (ixD ([("values" : Str), ("ring" : Str)] : (List Str)) ((c_8.length : Int) % 2))) := at_ixD (f := PyData.str) (by wtm_at "g.sd") (by wtm_at "g.sd")
    have ib13 := ixD_bdS (xs := ([("values" : Str), ("ring" : Str)] : (List Str))) (lo := 4) (hi := 6) (i := ((c_8.length : Int) % 2)) (by decide) (by wtm_at "g.sd") (by wtm_at "g.sd")
    refine' sx_cons (s1_if (tv_not (tv_val (ev_as (t := .val (.bool r_11)) (cs2 := [(.lst ((c_8.map e_tup_int_int_int).map SV.val)), (.lst ((c_8.map e_tup_int_int_int).map SV.val)), (.tup [.val (.str (Ans.word r_9)), .cell 3]), (.lst ((Ans.items r_9).map SV.val)), (.lst ((([(0, 1, (-2)), (1, 2, (-3)), (2, 0, (5 - ((c_8.length : Int) % 2)))] : (List (Int × Int × Int))).map e_tup_int_int_int).map SV.val)), (.tup [.val (.str (Ans.word r_10)), .cell 6]), (.lst ((Ans.items r_10).map SV.val))]) (ev_callG (κ := [5, 6, 4]) (da := [(.tup [.val (.str (Ans.word r_10)), .cell 6]), (.lst ((Ans.items r_10).map SV.val)), (.lst ((([(0, 1, (-2)), (1, 2, (-3)), (2, 0, (5 - ((c_8.length : Int) % 2)))] : (List (Int × Int × Int))).map e_tup_int_int_int).map SV.val))]) (db := []) C_law_good hr (by decide) rfl (av_cons (ev_as (t := .cell 5) (cs2 := [(.lst ((c_8.map e_tup_int_int_int).map SV.val)), (.lst ((c_8.map e_tup_int_int_int).map SV.val)), (.tup [.val (.str (Ans.word r_9)), .cell 3]), (.lst ((Ans.items r_9).map SV.val)), (.lst ((([(0, 1, (-2)), (1, 2, (-3)), (2, 0, (5 - ((c_8.length : Int) % 2)))] : (List (Int × Int × Int))).map e_tup_int_int_int).map SV.val)), (.tup [.val (.str (Ans.word r_10)), .cell 6]), (.lst ((Ans.items r_10).map SV.val))]) (ev_callG (κ := [4]) (da := [(.lst ((([(0, 1, (-2)), (1, 2, (-3)), (2, 0, (5 - ((c_8.length : Int) % 2)))] : (List (Int × Int × Int))).map e_tup_int_int_int).map SV.val))]) (db := [(.tup [.val (.str (Ans.word (m_settled 3 ([(0, 1, (-2)), (1, 2, (-3)), (2, 0, (5 - ((c_8.length : Int) % 2)))] : (List (Int × Int × Int)))))), .cell 6]), (.lst ((Ans.items (m_settled 3 ([(0, 1, (-2)), (1, 2, (-3)), (2, 0, (5 - ((c_8.length : Int) % 2)))] : (List (Int × Int × Int))))).map SV.val))]) C_settled hr (by decide) rfl (av_cons ev_int (av_cons (ev_name T rfl (Lk.there (Lk.there (Lk.there (Lk.there (Lk.there (Lk.there Lk.here)))))) rfl) av_nil)) (SelR.cons rfl (RenC.flat (by wtm_at "d.flat")) SelR.nil) (RenA.val (RenA.cell rfl RenA.nil)) (Sp_settled.mk (count_0 := 3) (ties_0 := ([(0, 1, (-2)), (1, 2, (-3)), (2, 0, (5 - ((c_8.length : Int) % 2)))] : (List (Int × Int × Int)))) (by wtm_at "g.pre") (by wtm_at "g.pre")) (Paired.cons (RenC.flat (by wtm_at "d.flat")) (Paired.cons (RenC.ren rfl rfl) (Paired.cons (RenC.flat (by wtm_at "d.flat")) Paired.nil))) rfl (SetA.cons (PutC.there (PutC.there (PutC.there (PutC.there PutC.here)))) SetA.nil) rfl rfl (by decide) rfl) rfl (by subst er_10; rfl)) (av_cons ev_int (av_cons (ev_name T rfl (Lk.there (Lk.there (Lk.there (Lk.there (Lk.there (Lk.there Lk.here)))))) rfl) (av_cons (ev_ixLv (ev_lstV (ad_cons ev_str (ad_cons ev_str ad_nil)) rfl) (ev_mod (ev_is (t := .val (.int (c_8.length : Int))) (ev_len z_len rfl (ev_name T rfl (Lk.there (Lk.there Lk.here)) rfl) (rc_lenL (IsL.cell rfl))) (by simp only [List.length_map])) ev_int (by wtm_at "d.side")) at13) av_nil)))) (SelR.cons rfl (RenC.ren rfl rfl) (SelR.cons rfl (RenC.flat (by wtm_at "d.flat")) (SelR.cons rfl (RenC.flat (by wtm_at "d.flat")) SelR.nil))) (RenA.cell rfl (RenA.val (RenA.cell rfl (RenA.val RenA.nil)))) (Sp_law_good.mk (answer_0 := r_10) (count_0 := 3) (ties_here_0 := ([(0, 1, (-2)), (1, 2, (-3)), (2, 0, (5 - ((c_8.length : Int) % 2)))] : (List (Int × Int × Int)))) (due_0 := (ixD ([("values" : Str), ("ring" : Str)] : (List Str)) ((c_8.length : Int) % 2))) (by wtm_at "g.pre") (by wtm_at "g.pre") (by wtm_at "g.pre") (by wtm_at "g.pre")) (Paired.cons (RenC.ren rfl rfl) (Paired.cons (RenC.flat (by wtm_at "d.flat")) (Paired.cons (RenC.flat (by wtm_at "d.flat")) Paired.nil))) rfl (SetA.cons (PutC.there (PutC.there (PutC.there (PutC.there (PutC.there PutC.here))))) (SetA.cons (PutC.there (PutC.there (PutC.there (PutC.there (PutC.there (PutC.there PutC.here)))))) (SetA.cons (PutC.there (PutC.there (PutC.there (PutC.there PutC.here)))) SetA.nil))) rfl rfl (by decide) rfl) (by subst er_11; rfl) (by subst er_11; rfl)))) ?y15 ?n15)
    case y15 =>
      intro hb14
      have hb14x := hb14
      try simp only [Bool.and_eq_true, Bool.or_eq_true, Bool.and_eq_false_iff, Bool.or_eq_false_iff, decide_eq_true_eq, decide_eq_false_iff_not, Bool.not_eq_true', Bool.not_eq_false', Bool.not_eq_eq_eq_not, Bool.not_true, Bool.not_false] at hb14x
      rw [if_pos hb14] at h
      refine sx_cons (s1_ret ev_bool ?_)
      show RetOk _ _ _ _ _
      subst h
      exact ret_val rfl rfl rfl (by wtm_at "d.lt")
    case n15 =>
      intro hb14
      have hb14x := hb14
      try simp only [Bool.and_eq_true, Bool.or_eq_true, Bool.and_eq_false_iff, Bool.or_eq_false_iff, decide_eq_true_eq, decide_eq_false_iff_not, Bool.not_eq_true', Bool.not_eq_false', Bool.not_eq_eq_eq_not, Bool.not_true, Bool.not_false] at hb14x
      rw [if_neg (by rw [hb14]; decide)] at h
      refine sx_nil ?_
      show SX _ _ _ _ _ _
      refine sx_cons (s1_expr (ev_as (t := .val .none) (cs2 := [(.lst ((c_8.map e_tup_int_int_int).map SV.val)), (.lst ((c_8.map e_tup_int_int_int).map SV.val)), (.tup [.val (.str (Ans.word r_9)), .cell 3]), (.lst (([] : (List PyData)).map SV.val)), (.lst ((([(0, 1, (-2)), (1, 2, (-3)), (2, 0, (5 - ((c_8.length : Int) % 2)))] : (List (Int × Int × Int))).map e_tup_int_int_int).map SV.val)), (.tup [.val (.str (Ans.word r_10)), .cell 6]), (.lst ((Ans.items r_10).map SV.val))]) (ev_clearL (ev_ixC (ev_name T rfl (Lk.there (Lk.there (Lk.there (Lk.there Lk.here)))) rfl) ev_int rfl rfl) rfl (PutC.there (PutC.there (PutC.there PutC.here)))) rfl rfl) ?_)
      show SX _ _ _ _ _ _
      refine sx_cons (s1_expr (ev_as (t := .val .none) (cs2 := [(.lst ((c_8.map e_tup_int_int_int).map SV.val)), (.lst ((([] : (List (Int × Int × Int))).map e_tup_int_int_int).map SV.val)), (.tup [.val (.str (Ans.word r_9)), .cell 3]), (.lst (([] : (List PyData)).map SV.val)), (.lst ((([(0, 1, (-2)), (1, 2, (-3)), (2, 0, (5 - ((c_8.length : Int) % 2)))] : (List (Int × Int × Int))).map e_tup_int_int_int).map SV.val)), (.tup [.val (.str (Ans.word r_10)), .cell 6]), (.lst ((Ans.items r_10).map SV.val))]) (ev_clearL (ev_name T rfl (Lk.there (Lk.there (Lk.there Lk.here))) rfl) rfl (PutC.there PutC.here)) rfl rfl) ?_)
      show SX _ _ _ _ _ _
      replace h := letF_elim h
      obtain ⟨r_12, er_12, h⟩ := h
      have p16 := settled_ok count_4 c_8 (by wtm_at "g.sd") (by wtm_at "g.pre")
      refine sx_cons (s1_ret (ev_eqD2 (d := (.tuple [(.str (Ans.word r_12)), (.list (Ans.items r_12))])) (e := (.tuple [(.str (Ans.word r_9)), (.list (Ans.items r_9))])) hr (ev_as (t := .cell 7) (cs2 := [(.lst ((c_8.map e_tup_int_int_int).map SV.val)), (.lst ((([] : (List (Int × Int × Int))).map e_tup_int_int_int).map SV.val)), (.tup [.val (.str (Ans.word r_9)), .cell 3]), (.lst (([] : (List PyData)).map SV.val)), (.lst ((([(0, 1, (-2)), (1, 2, (-3)), (2, 0, (5 - ((c_8.length : Int) % 2)))] : (List (Int × Int × Int))).map e_tup_int_int_int).map SV.val)), (.tup [.val (.str (Ans.word r_10)), .cell 6]), (.lst ((Ans.items r_10).map SV.val)), (.tup [.val (.str (Ans.word r_12)), .cell 8]), (.lst ((Ans.items r_12).map SV.val))]) (ev_callG (κ := [0]) (da := [(.lst ((c_8.map e_tup_int_int_int).map SV.val))]) (db := [(.tup [.val (.str (Ans.word (m_settled count_4 c_8))), .cell 8]), (.lst ((Ans.items (m_settled count_4 c_8)).map SV.val))]) C_settled hr (by decide) rfl (av_cons (ev_name T rfl (Lk.there Lk.here) rfl) (av_cons (ev_name T rfl (Lk.there (Lk.there Lk.here)) rfl) av_nil)) (SelR.cons rfl (RenC.flat (by wtm_at "d.flat")) SelR.nil) (RenA.val (RenA.cell rfl RenA.nil)) (Sp_settled.mk (count_0 := count_4) (ties_0 := c_8) (by wtm_at "g.pre") (by wtm_at "g.pre")) (Paired.cons (RenC.flat (by wtm_at "d.flat")) (Paired.cons (RenC.ren rfl rfl) (Paired.cons (RenC.flat (by wtm_at "d.flat")) Paired.nil))) rfl (SetA.cons PutC.here SetA.nil) rfl rfl (by decide) rfl) rfl (by subst er_12; rfl)) (ev_name T rfl (Lk.there (Lk.there (Lk.there (Lk.there (Lk.there Lk.here))))) rfl) (IsDat2.tup rfl (Paired.cons IsDat.val (Paired.cons (IsDat.cell rfl (by wtm_at "g.data")) Paired.nil))) (IsDat2.base IsDat.val) (by wtm_at "g.shp") (by wtm_at "g.shp")) ?_)
      show RetOk _ _ _ _ _
      subst h
      exact ret_val rfl rfl rfl (by wtm_at "d.lt")
end
section
variable {P : Program} {w : World} {K : PySem.W.Frag} {mg : Str → Option Value} {base : Heap}
theorem chain (D_law_cell : DefAt K mg "_law_cell" s__law_cell P__law_cell) (D_law_feed : DefAt K mg "_law_feed" s__law_feed P__law_feed) (D_law_take : DefAt K mg "_law_take" s__law_take P__law_take) (D_law_tie : DefAt K mg "_law_tie" s__law_tie P__law_tie) (D_law_values : DefAt K mg "_law_values" s__law_values P__law_values) (D_law_ring : DefAt K mg "_law_ring" s__law_ring P__law_ring) (D_law_good : DefAt K mg "_law_good" s__law_good P__law_good) (D_law_ties : DefAt K mg "_law_ties" s__law_ties P__law_ties) (D_eased : DefAt K mg "eased" s_eased P_eased) (D_ring_at : DefAt K mg "ring_at" s_ring_at P_ring_at) (D_settled : DefAt K mg "settled" s_settled P_settled) (z_len : mg "len" = none) (z_range : mg "range" = none) (z_bool : mg "bool" = none) (z_int : mg "int" = none) (z_isinstance : mg "isinstance" = none) (z_tuple : mg "tuple" = none) (z_list : mg "list" = none) (z_set : mg "set" = none) (z_max : mg "max" = none) (z_min : mg "min" = none) {f : Addr} {fd : FuncData} (F : Fun K "law" "law" s_law f fd) : FnOk P w K mg base CX0 4 f fd P_law (spM K 1 SpLaw) := by
  have C_law_cell := cal_law_cell (P := P) (w := w) (base := base) D_law_cell z_len
  have C_law_feed := cal_law_feed (P := P) (w := w) (base := base) D_law_feed C_law_cell z_range
  have C_law_take := cal_law_take (P := P) (w := w) (base := base) D_law_take z_len
  have C_law_tie := cal_law_tie (P := P) (w := w) (base := base) D_law_tie z_bool z_int z_isinstance z_len z_tuple
  have C_law_values := cal_law_values (P := P) (w := w) (base := base) D_law_values z_bool z_int z_isinstance z_len z_list
  have C_law_ring := cal_law_ring (P := P) (w := w) (base := base) D_law_ring C_law_tie z_isinstance z_len z_list z_range z_set
  have C_law_good := cal_law_good (P := P) (w := w) (base := base) D_law_good C_law_values C_law_ring z_isinstance z_len z_tuple
  have C_law_ties := cal_law_ties (P := P) (w := w) (base := base) D_law_ties C_law_cell C_law_feed C_law_take z_int z_len z_max z_min z_range
  have C_eased := cal_eased (P := P) (w := w) (base := base) D_eased
  have C_ring_at := cal_ring_at (P := P) (w := w) (base := base) D_ring_at z_len z_range
  have C_settled := cal_settled (P := P) (w := w) (base := base) D_settled C_eased C_ring_at
  exact fn_law F C_law_cell C_law_ties C_settled C_law_good z_len z_list
end
theorem fin {l : PySem.W.OpenLaw} {w : World} {K : PySem.W.Frag} {h : Heap} {mg : Str → Option Value} {fa f0 : Addr} (X : K.In h) (G : h.Ns mainGlobals mg) (hfa : mg "law" = some (.ref fa))
    {od an : Option Addr} {sl : Array (Option Value)} {oc kV dc pm cd ct : Value}
    (a0 : PySem.W.nsIn K mainGlobals "law" = some (some (.ref f0))) (l0 : K.lookup f0 = some ⟨oc, od, .func (PySem.W.fnOf "law" "law" (defArgs s_law) (defBody s_law) (defScope s_law) .none kV dc pm an cd ct), sl⟩) (c0 : PySem.W.codeIn K cd "law" = true) (k0 : PySem.W.keepIn K (.ref f0) = true)
    (D__law_cell : DefAt K mg "_law_cell" s__law_cell P__law_cell)
    (D__law_feed : DefAt K mg "_law_feed" s__law_feed P__law_feed)
    (D__law_take : DefAt K mg "_law_take" s__law_take P__law_take)
    (D__law_tie : DefAt K mg "_law_tie" s__law_tie P__law_tie)
    (D__law_values : DefAt K mg "_law_values" s__law_values P__law_values)
    (D__law_ring : DefAt K mg "_law_ring" s__law_ring P__law_ring)
    (D__law_good : DefAt K mg "_law_good" s__law_good P__law_good)
    (D__law_ties : DefAt K mg "_law_ties" s__law_ties P__law_ties)
    (D_eased : DefAt K mg "eased" s_eased P_eased)
    (D_ring_at : DefAt K mg "ring_at" s_ring_at P_ring_at)
    (D_settled : DefAt K mg "settled" s_settled P_settled)
    (z0 : PySem.W.nsIn K mainGlobals "len" = some none)
    (z1 : PySem.W.nsIn K mainGlobals "range" = some none)
    (z2 : PySem.W.nsIn K mainGlobals "bool" = some none)
    (z3 : PySem.W.nsIn K mainGlobals "int" = some none)
    (z4 : PySem.W.nsIn K mainGlobals "isinstance" = some none)
    (z5 : PySem.W.nsIn K mainGlobals "tuple" = some none)
    (z6 : PySem.W.nsIn K mainGlobals "list" = some none)
    (z7 : PySem.W.nsIn K mainGlobals "set" = some none)
    (z8 : PySem.W.nsIn K mainGlobals "max" = some none)
    (z9 : PySem.W.nsIn K mainGlobals "min" = some none)
    : ∃ fd : FuncData, (∀ (s : Shared) (v : Value), BindsTo s fd ⟨[v], []⟩ [("_law_script", v)]) ∧ ∀ base : Heap, K.In base → base.Ns mainGlobals mg → FnOk l.prog w K mg base CX0 4 fa fd ["_law_script"] (spM K 1 SpLaw) := by
  have e := hfa.symm.trans (PySem.W.mg_of X G a0)
  cases e
  exact ⟨_, fun s v => .of_eq rfl, fun base _ _ => chain D__law_cell D__law_feed D__law_take D__law_tie D__law_values D__law_ring D__law_good D__law_ties D_eased D_ring_at D_settled (PySem.W.mg_none_of X G z0) (PySem.W.mg_none_of X G z1) (PySem.W.mg_none_of X G z2) (PySem.W.mg_none_of X G z3) (PySem.W.mg_none_of X G z4) (PySem.W.mg_none_of X G z5) (PySem.W.mg_none_of X G z6) (PySem.W.mg_none_of X G z7) (PySem.W.mg_none_of X G z8) (PySem.W.mg_none_of X G z9) (fun_mk (st := s_law) l0 c0 k0)⟩
end DL
open PySem PySem.W PyProof.Rows
set_option maxHeartbeats 0 in
theorem PySem.Challenge.cw_outlineward_k31_ties_settled_holds : PySem.Challenge.rw_outlineward_k31_ties_settled.Holds := by
  w_on; o_law; k_head; (case hw => w_witness2)
  k_fill
  refine L2.walk_ofB (l := PySem.Challenge.rw_outlineward_k31_ties_settled) (n := 63) (k := 4) (x := "_law_script") (CX := fun _ => L2.CX0) (sp := fun w => DL.spM _ 1 DL.SpLaw) rfl (by decide) rfl ⟨rfl, by decide, by decide⟩ (fun w h Y => PySem.W.kIn_of Y) ?F (fun w H a ns hl hb _ hS => DL.spM_law (DL.SpLaw.mk (S := ⟨ns, hl, DL.sbd_of hb⟩)) hS) (fun _ _ _ _ _ h => h)
  case F =>
    intro w mg fa h KX G hmg
    refine' DL.fin KX G hmg ?a0 ?l0 ?c0 ?k0 (DL.defAt_mk KX G ?a1 ?l1 ?c1 ?k1 (fun _ _ _ _ _ _ us hl => match us, hl with | [_, _], _ => rfl)) (DL.defAt_mk KX G ?a2 ?l2 ?c2 ?k2 (fun _ _ _ _ _ _ us hl => match us, hl with | [_, _], _ => rfl)) (DL.defAt_mk KX G ?a3 ?l3 ?c3 ?k3 (fun _ _ _ _ _ _ us hl => match us, hl with | [_, _], _ => rfl)) (DL.defAt_mk KX G ?a4 ?l4 ?c4 ?k4 (fun _ _ _ _ _ _ us hl => match us, hl with | [_], _ => rfl)) (DL.defAt_mk KX G ?a5 ?l5 ?c5 ?k5 (fun _ _ _ _ _ _ us hl => match us, hl with | [_, _, _], _ => rfl)) (DL.defAt_mk KX G ?a6 ?l6 ?c6 ?k6 (fun _ _ _ _ _ _ us hl => match us, hl with | [_, _], _ => rfl)) (DL.defAt_mk KX G ?a7 ?l7 ?c7 ?k7 (fun _ _ _ _ _ _ us hl => match us, hl with | [_, _, _, _], _ => rfl)) (DL.defAt_mk KX G ?a8 ?l8 ?c8 ?k8 (fun _ _ _ _ _ _ us hl => match us, hl with | [_, _], _ => rfl)) (DL.defAt_mk KX G ?a9 ?l9 ?c9 ?k9 (fun _ _ _ _ _ _ us hl => match us, hl with | [_, _, _], _ => rfl)) (DL.defAt_mk KX G ?a10 ?l10 ?c10 ?k10 (fun _ _ _ _ _ _ us hl => match us, hl with | [_, _], _ => rfl)) (DL.defAt_mk KX G ?a11 ?l11 ?c11 ?k11 (fun _ _ _ _ _ _ us hl => match us, hl with | [_, _], _ => rfl)) ?z0 ?z1 ?z2 ?z3 ?z4 ?z5 ?z6 ?z7 ?z8 ?z9
    (case a0 => k_is); (case l0 => k_is); (case c0 => k_is); (case k0 => k_is)
    (case a1 => k_is); (case l1 => k_is); (case c1 => k_is); (case k1 => k_is)
    (case a2 => k_is); (case l2 => k_is); (case c2 => k_is); (case k2 => k_is)
    (case a3 => k_is); (case l3 => k_is); (case c3 => k_is); (case k3 => k_is)
    (case a4 => k_is); (case l4 => k_is); (case c4 => k_is); (case k4 => k_is)
    (case a5 => k_is); (case l5 => k_is); (case c5 => k_is); (case k5 => k_is)
    (case a6 => k_is); (case l6 => k_is); (case c6 => k_is); (case k6 => k_is)
    (case a7 => k_is); (case l7 => k_is); (case c7 => k_is); (case k7 => k_is)
    (case a8 => k_is); (case l8 => k_is); (case c8 => k_is); (case k8 => k_is)
    (case a9 => k_is); (case l9 => k_is); (case c9 => k_is); (case k9 => k_is)
    (case a10 => k_is); (case l10 => k_is); (case c10 => k_is); (case k10 => k_is)
    (case a11 => k_is); (case l11 => k_is); (case c11 => k_is); (case k11 => k_is)
    (case z0 => k_is)
    (case z1 => k_is)
    (case z2 => k_is)
    (case z3 => k_is)
    (case z4 => k_is)
    (case z5 => k_is)
    (case z6 => k_is)
    (case z7 => k_is)
    (case z8 => k_is)
    (case z9 => k_is)

