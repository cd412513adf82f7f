import PyProof.Rows.All
import Wide.All
import OpenK.AllK
import Wide.FinOn
import HandS.ForMost
import HandS.TupAny
import HandS.WideBits
import HandS.TryOnly
import HandS.Walk
import HandS.IsInst
import HandS.Rev
import HandS.SortRule
import HandS.SortInts
import HandS.More
import HandS.Conv
import HandS.ListItems
import HandS.EndBits
import HandS.DictComp
import HandS.TupLe
import HandS.Set
import HandS.SetFor
import HandS.Strs
import HandS.Deep
import HandS.Style
import HandS.TupSets
import HandS.Finally
import KE.KEqNest
import HandS.Zip
import HandS.ExcOwn
import HandS.ExcIs
import PySem.Challenge.RW_outlineward_k61_duties_of_straight_bodie
set_option Elab.async false
set_option linter.all false
set_option maxRecDepth 100000
set_option maxHeartbeats 1000000
namespace DL
open PySem PySem.Spec PyProof.Rows L2

/-! ### data, and the values that stand for it -/
def kD : Key → PyData
  | .inl i => .int i
  | .inr x => .str x
mutual
inductive Rep (K : PySem.W.Frag) (G : Hp) : V → PyData → Prop
  | non : Rep K G .non .none
  | bl (b : Bool) : Rep K G (.bl b) (.bool b)
  | int (i : Int) : Rep K G (.int i) (.int i)
  | str (x : Str) : Rep K G (.str x) (.str x)
  | lst {a : Addr} {xs : List V} {ds : List PyData} : SqL K G a xs → Reps K G xs ds → Rep K G (.ref a) (.list ds)
  | tup {a : Addr} {xs : List V} {ds : List PyData} : SqT K G a xs → Reps K G xs ds → Rep K G (.ref a) (.tuple ds)
  | dct {a : Addr} {kvs : List (Key × V)} {es : List (PyData × PyData)} : G a = some (.dK kvs) → RepD K G kvs es → Rep K G (.ref a) (.dict es)
inductive Reps (K : PySem.W.Frag) (G : Hp) : List V → List PyData → Prop
  | nil : Reps K G [] []
  | cons {v : V} {vs : List V} {d : PyData} {ds : List PyData} : Rep K G v d → Reps K G vs ds → Reps K G (v :: vs) (d :: ds)
inductive RepD (K : PySem.W.Frag) (G : Hp) : List (Key × V) → List (PyData × PyData) → Prop
  | nil : RepD K G [] []
  | cons {k : Key} {v : V} {vs : List (Key × V)} {d : PyData} {ds : List (PyData × PyData)} : Rep K G v d → RepD K G vs ds → RepD K G ((k, v) :: vs) ((kD k, d) :: ds)
end
theorem Same.seqT {K : PySem.W.Frag} {H H' : Hp} {a : Addr} {xs : List V} (e : Same H H') (h : SqT K H a xs) : SqT K H' a xs := by
  rcases h with (h | ⟨o, h⟩) | h
  · exact .inl (.inl (e _ _ h))
  · exact .inl (.inr ⟨o, e _ _ h⟩)
  · exact .inr h
section
variable {K : PySem.W.Frag} {G G' : Hp}
mutual
theorem Rep.mono (s : Same G G') : ∀ {v : V} {d : PyData}, Rep K G v d → Rep K G' v d
  | _, _, .non => .non
  | _, _, .bl b => .bl b
  | _, _, .int i => .int i
  | _, _, .str x => .str x
  | _, _, .lst h r => .lst (s.seq h) (Reps.mono s r)
  | _, _, .tup h r => .tup (Same.seqT s h) (Reps.mono s r)
  | _, _, .dct h r => .dct (s _ _ h) (RepD.mono s r)
theorem Reps.mono (s : Same G G') : ∀ {v : List V} {d : List PyData}, Reps K G v d → Reps K G' v d
  | _, _, .nil => .nil
  | _, _, .cons h r => .cons (Rep.mono s h) (Reps.mono s r)
theorem RepD.mono (s : Same G G') : ∀ {v : List (Key × V)} {d : List (PyData × PyData)}, RepD K G v d → RepD K G' v d
  | _, _, .nil => .nil
  | _, _, .cons h r => .cons (Rep.mono s h) (RepD.mono s r)
end
theorem Reps.length : ∀ {vs : List V} {ds : List PyData}, Reps K G vs ds → vs.length = ds.length
  | _, _, .nil => rfl
  | _, _, .cons _ r => congrArg (· + 1) r.length
theorem Reps.get : ∀ {vs : List V} {ds : List PyData} {i : Nat} {d : PyData}, Reps K G vs ds → ds[i]? = some d → ∃ v, vs[i]? = some v ∧ Rep K G v d
  | _, _, _, _, .nil, e => by simp at e
  | _, _, 0, _, .cons r _, e => by simp at e; subst e; exact ⟨_, rfl, r⟩
  | _, _, i + 1, d, .cons _ t, e => by
    obtain ⟨v, h1, h2⟩ := Reps.get (i := i) (d := d) t (by simpa using e)
    exact ⟨v, by simpa using h1, h2⟩
theorem Reps.getV : ∀ {vs : List V} {ds : List PyData} {i : Nat} {v : V}, Reps K G vs ds → vs[i]? = some v → ∃ d, ds[i]? = some d ∧ Rep K G v d
  | _, _, _, _, .nil, e => by simp at e
  | _, _, 0, _, .cons r _, e => by simp at e; subst e; exact ⟨_, rfl, r⟩
  | _, _, i + 1, v, .cons _ t, e => by
    obtain ⟨d, h1, h2⟩ := Reps.getV (i := i) (v := v) t (by simpa using e)
    exact ⟨d, by simpa using h1, h2⟩
theorem Reps.append : ∀ {xs ys : List V} {us ws : List PyData}, Reps K G xs us → Reps K G ys ws → Reps K G (xs ++ ys) (us ++ ws)
  | _, _, _, _, .nil, s => s
  | _, _, _, _, .cons r t, s => .cons r (Reps.append t s)
theorem Reps.take : ∀ {xs : List V} {us : List PyData} (n : Nat), Reps K G xs us → Reps K G (xs.take n) (us.take n)
  | _, _, 0, _ => .nil
  | _, _, _ + 1, .nil => .nil
  | _, _, n + 1, .cons r t => .cons r (Reps.take n t)
theorem Reps.drop : ∀ {xs : List V} {us : List PyData} (n : Nat), Reps K G xs us → Reps K G (xs.drop n) (us.drop n)
  | _, _, 0, r => r
  | _, _, _ + 1, .nil => .nil
  | _, _, n + 1, .cons _ t => Reps.drop n t
theorem Reps.reverse : ∀ {xs : List V} {us : List PyData}, Reps K G xs us → Reps K G xs.reverse us.reverse
  | _, _, .nil => .nil
  | _, _, .cons r t => by
    rw [List.reverse_cons, List.reverse_cons]
    exact t.reverse.append (.cons r .nil)
theorem Reps.ints : ∀ {vs : List V} {ns : List Int}, Reps K G vs (ns.map PyData.int) → vs = ns.map V.int
  | _, [], h => by cases h; rfl
  | _, n :: r, h => by
    cases h with
    | cons a b =>
      cases a
      rw [Reps.ints b]
      rfl
theorem Reps.ofInts : ∀ (ns : List Int), Reps K G (ns.map V.int) (ns.map PyData.int)
  | [] => .nil
  | n :: r => .cons (.int n) (Reps.ofInts r)
theorem Reps.strs : ∀ {vs : List V} {ns : List Str}, Reps K G vs (ns.map PyData.str) → vs = ns.map V.str
  | _, [], h => by cases h; rfl
  | _, n :: r, h => by
    cases h with
    | cons a b =>
      cases a
      rw [Reps.strs b]
      rfl
theorem Reps.ofStrs : ∀ (ns : List Str), Reps K G (ns.map V.str) (ns.map PyData.str)
  | [] => .nil
  | n :: r => .cons (.str n) (Reps.ofStrs r)
theorem Reps.bools : ∀ {vs : List V} {ns : List Bool}, Reps K G vs (ns.map PyData.bool) → vs = ns.map V.bl
  | _, [], h => by cases h; rfl
  | _, n :: r, h => by
    cases h with
    | cons a b =>
      cases a
      rw [Reps.bools b]
      rfl
end

/-! ### cells: what may change -/
inductive SV where
  | val (d : PyData)
  | cell (k : Nat)
  | obj (a : Addr)
inductive CC where
  | lst (xs : List SV)
  | dct (kvs : List (Key × SV))
  | ins (C : Addr) (fs : List (Str × SV))
  | dead
  | frz (od : Obj) (us : List (Key × V)) (kvs : List (Key × SV))
  | tup (xs : List SV)
abbrev Sl := List (Option SV)
abbrev Cs := List CC
def RepV (K : PySem.W.Frag) (G : Hp) (ps : List Addr) (v : V) : SV → Prop
  | .val d => Rep K G v d
  | .cell k => ∃ p, ps[k]? = some p ∧ v = .ref p
  | .obj a => v = .ref a
abbrev RepVs (K : PySem.W.Frag) (G : Hp) (ps : List Addr) : List V → List SV → Prop := Paired (RepV K G ps)
abbrev RepKs {κ : Type} (K : PySem.W.Frag) (G : Hp) (ps : List Addr) : List (κ × V) → List (κ × SV) → Prop := Paired fun a b => a.1 = b.1 ∧ RepV K G ps a.2 b.2
def RepC (K : PySem.W.Frag) (G : Hp) (ps : List Addr) (H : Hp) (p : Addr) : CC → Prop
  | .lst xs => ∃ vs, H p = some (.lst vs) ∧ RepVs K G ps vs xs
  | .dct kvs => ∃ us, H p = some (.dK us) ∧ RepKs K G ps us kvs
  | .ins C fs => ∃ dx us, H p = some (.ins C dx us) ∧ RepKs K G ps us fs
  | .dead => H p ≠ none
  | .frz od us kvs => H p = some (.frz od (.dK us)) ∧ RepKs K G ps us kvs
  | .tup xs => ∃ vs, H p = some (.tup vs) ∧ RepVs K G ps vs xs
structure Bs where
  G0 : Hp
  H0 : Hp
  As : List Addr
structure Core (K : PySem.W.Frag) (B : Bs) (G : Hp) (ps : List Addr) (cs : Cs) (H : Hp) : Prop where
  g0 : Same B.G0 G
  h0 : ∀ b o, B.H0 b = some o → b ∉ B.As → H b = some o
  gh : Same G H
  nw : ∀ b, G b ≠ none → B.G0 b ≠ none ∨ B.H0 b = none
  len : ps.length = cs.length
  pre : B.As <+: ps
  nd : ps.Nodup
  cell : ∀ (k : Nat) (p : Addr) (c : CC), ps[k]? = some p → cs[k]? = some c → RepC K G ps H p c ∧ (B.H0 p = none ∨ p ∈ B.As) ∧ (c = .dead ∨ G p = none)
def SlotR (K : PySem.W.Frag) (G : Hp) (ps : List Addr) : Option V → Option SV → Prop
  | _, none => True
  | some v, some s => RepV K G ps v s
  | none, some _ => False
def Has (K : PySem.W.Frag) (B : Bs) (sl : Sl) (cs : Cs) (σ : L2.St) (H : Hp) : Prop := ∃ G ps, Core K B G ps cs H ∧ Paired (SlotR K G ps) σ sl
def HasV (K : PySem.W.Frag) (B : Bs) (sl : Sl) (cs : Cs) (σ : L2.St) (H : Hp) (v : V) (s : SV) : Prop := ∃ G ps, Core K B G ps cs H ∧ Paired (SlotR K G ps) σ sl ∧ RepV K G ps v s
def HasA (K : PySem.W.Frag) (B : Bs) (sl : Sl) (cs : Cs) (σ : L2.St) (H : Hp) (vs : List V) (ss : List SV) : Prop := ∃ G ps, Core K B G ps cs H ∧ Paired (SlotR K G ps) σ sl ∧ RepVs K G ps vs ss
def Ret (K : PySem.W.Frag) (B : Bs) (cs : Cs) (H : Hp) (v : V) (s : SV) : Prop := ∃ G ps, Core K B G ps cs H ∧ RepV K G ps v s


theorem pd_get {α β : Type} {F : α → β → Prop} : ∀ {l : List α} {m : List β} {i : Nat} {b : β}, Paired F l m → m[i]? = some b → ∃ a, l[i]? = some a ∧ F a b
  | _, _, _, _, .nil, e => by simp at e
  | _, _, 0, _, .cons r _, e => by simp at e; subst e; exact ⟨_, rfl, r⟩
  | _, _, i + 1, b, .cons _ t, e => by
    obtain ⟨v, h1, h2⟩ := pd_get (i := i) (b := b) t (by simpa using e)
    exact ⟨v, by simpa using h1, h2⟩
theorem pd_getL {α β : Type} {F : α → β → Prop} : ∀ {l : List α} {m : List β} {i : Nat} {a : α}, Paired F l m → l[i]? = some a → ∃ b, m[i]? = some b ∧ F a b
  | _, _, _, _, .nil, e => by simp at e
  | _, _, 0, _, .cons r _, e => by simp at e; subst e; exact ⟨_, rfl, r⟩
  | _, _, i + 1, b, .cons _ t, e => by
    obtain ⟨v, h1, h2⟩ := pd_getL (i := i) (a := b) t (by simpa using e)
    exact ⟨v, by simpa using h1, h2⟩
theorem pd_set {α β : Type} {F : α → β → Prop} {a : α} {b : β} (h : F a b) : ∀ {l : List α} {m : List β} (i : Nat), Paired F l m → Paired F (l.set i a) (m.set i b)
  | _, _, _, .nil => .nil
  | _, _, 0, .cons _ t => .cons h t
  | _, _, i + 1, .cons q t => .cons q (pd_set h i t)
theorem pd_app {α β : Type} {F : α → β → Prop} : ∀ {l l' : List α} {m m' : List β}, Paired F l m → Paired F l' m' → Paired F (l ++ l') (m ++ m')
  | _, _, _, _, .nil, s => s
  | _, _, _, _, .cons r t, s => .cons r (pd_app t s)
theorem pd_take {α β : Type} {F : α → β → Prop} : ∀ {l : List α} {m : List β} (n : Nat), Paired F l m → Paired F (l.take n) (m.take n)
  | _, _, 0, _ => .nil
  | _, _, _ + 1, .nil => .nil
  | _, _, n + 1, .cons r t => .cons r (pd_take n t)
theorem pd_drop {α β : Type} {F : α → β → Prop} : ∀ {l : List α} {m : List β} (n : Nat), Paired F l m → Paired F (l.drop n) (m.drop n)
  | _, _, 0, t => t
  | _, _, _ + 1, .nil => .nil
  | _, _, n + 1, .cons _ t => pd_drop n t
theorem pd_rev {α β : Type} {F : α → β → Prop} : ∀ {l : List α} {m : List β}, Paired F l m → Paired F l.reverse m.reverse
  | _, _, .nil => .nil
  | _, _, .cons r t => by
    rw [List.reverse_cons, List.reverse_cons]
    exact pd_app (pd_rev t) (.cons r .nil)

/-! ### how knowledge grows -/
structure Up (G : Hp) (ps : List Addr) (G' : Hp) (ps' : List Addr) : Prop where
  s : Same G G'
  p : ps <+: ps'
theorem Up.refl (G : Hp) (ps : List Addr) : Up G ps G ps := ⟨Same.refl G, List.prefix_refl ps⟩
theorem Up.trans {G G1 G2 : Hp} {ps ps1 ps2 : List Addr} (a : Up G ps G1 ps1) (b : Up G1 ps1 G2 ps2) : Up G ps G2 ps2 := ⟨a.s.trans b.s, a.p.trans b.p⟩
theorem pre_get {α : Type} {l l' : List α} {i : Nat} {a : α} (h : l <+: l') (e : l[i]? = some a) : l'[i]? = some a := by
  obtain ⟨t, rfl⟩ := h
  rw [List.getElem?_append_left (List.getElem?_eq_some_iff.mp e).1]
  exact e
section
variable {K : PySem.W.Frag} {G G' : Hp} {ps ps' : List Addr} {H : Hp} {B : Bs} {cs : Cs}
theorem RepV.mono (u : Up G ps G' ps') {v : V} : ∀ {s : SV}, RepV K G ps v s → RepV K G' ps' v s
  | .val _, h => Rep.mono u.s h
  | .cell _, ⟨p, e, hv⟩ => ⟨p, pre_get u.p e, hv⟩
  | .obj _, h => h
theorem RepVs.mono (u : Up G ps G' ps') {vs : List V} {ss : List SV} (h : RepVs K G ps vs ss) : RepVs K G' ps' vs ss := Paired.mono (fun _ _ q => RepV.mono u q) h
theorem RepKs.mono {κ : Type} (u : Up G ps G' ps') {vs : List (κ × V)} {ss : List (κ × SV)} (h : RepKs K G ps vs ss) : RepKs K G' ps' vs ss := Paired.mono (fun _ _ q => ⟨q.1, RepV.mono u q.2⟩) h
abbrev Slots (K : PySem.W.Frag) (G : Hp) (ps : List Addr) : L2.St → Sl → Prop := Paired (SlotR K G ps)
theorem SlotR.mono (u : Up G ps G' ps') : ∀ {v : Option V} {s : Option SV}, SlotR K G ps v s → SlotR K G' ps' v s
  | _, none, _ => trivial
  | some _, some _, h => RepV.mono u h
  | none, some _, h => h.elim
theorem Slots.mono (u : Up G ps G' ps') {σ : L2.St} {sl : Sl} (h : Slots K G ps σ sl) : Slots K G' ps' σ sl := Paired.mono (fun _ _ q => SlotR.mono u q) h
theorem RepC.mono {H' : Hp} {p : Addr} (u : Up G ps G' ps') (e : H' p = H p) : ∀ {c : CC}, RepC K G ps H p c → RepC K G' ps' H' p c
  | .lst _, ⟨vs, h, r⟩ => ⟨vs, e.trans h, RepVs.mono u r⟩
  | .dct _, ⟨vs, h, r⟩ => ⟨vs, e.trans h, RepKs.mono u r⟩
  | .ins _ _, ⟨dx, vs, h, r⟩ => ⟨dx, vs, e.trans h, RepKs.mono u r⟩
  | .dead, h => fun z => h (e.symm.trans z)
  | .frz _ _ _, ⟨h, r⟩ => ⟨e.trans h, RepKs.mono u r⟩
  | .tup _, ⟨vs, h, r⟩ => ⟨vs, e.trans h, RepVs.mono u r⟩
theorem RepC.there {p : Addr} {c : CC} (h : RepC K G ps H p c) : H p ≠ none := by
  cases c with
  | lst _ => obtain ⟨_, e, _⟩ := h; rw [e]; exact Option.some_ne_none _
  | dct _ => obtain ⟨_, e, _⟩ := h; rw [e]; exact Option.some_ne_none _
  | ins _ _ => obtain ⟨_, _, e, _⟩ := h; rw [e]; exact Option.some_ne_none _
  | dead => exact h
  | frz _ _ _ => rw [h.1]; exact Option.some_ne_none _
  | tup _ => obtain ⟨_, e, _⟩ := h; rw [e]; exact Option.some_ne_none _
theorem Same.new {H : Hp} {p : Addr} {o : HO} (h : H p = none) : Same H (upd H p o) := fun b u q => by rw [upd_ne (ne_of_none q h)]; exact q
theorem Same.both {G H : Hp} {p : Addr} {o : HO} (s : Same G H) : Same (upd G p o) (upd H p o) := fun b u q => by
  by_cases e : b = p
  · subst e
    rw [upd_same] at q ⊢
    exact q
  · rw [upd_ne e] at q ⊢
    exact s _ _ q
/-- what stands at the cells' places -/
theorem Core.at (C : Core K B G ps cs H) {k : Nat} {p : Addr} (e : ps[k]? = some p) : ∃ c, cs[k]? = some c := by
  have hk : k < cs.length := by rw [← C.len]; exact (List.getElem?_eq_some_iff.mp e).1
  exact ⟨_, List.getElem?_eq_getElem hk⟩
theorem Core.live (C : Core K B G ps cs H) {p : Addr} (e : p ∈ ps) : H p ≠ none := by
  obtain ⟨k, e⟩ := List.getElem?_of_mem e
  obtain ⟨c, hc⟩ := C.at e
  exact (C.cell k p c e hc).1.there
theorem Core.addr (C : Core K B G ps cs H) {k : Nat} {c : CC} (e : cs[k]? = some c) : ∃ p, ps[k]? = some p := by
  have hk : k < ps.length := by rw [C.len]; exact (List.getElem?_eq_some_iff.mp e).1
  exact ⟨_, List.getElem?_eq_getElem hk⟩
theorem Core.free0 (C : Core K B G ps cs H) {p : Addr} (h : H p = none) : B.H0 p = none := by
  cases q : B.H0 p with
  | none => rfl
  | some o =>
    by_cases m : p ∈ B.As
    · exact (C.live (C.pre.subset m) h).elim
    · rw [C.h0 p o q m] at h
      cases h
theorem Core.freeG (C : Core K B G ps cs H) {p : Addr} (h : H p = none) : G p = none := by
  cases q : G p with
  | none => rfl
  | some o =>
    rw [C.gh p o q] at h
    cases h
theorem nd_at {α : Type} {l : List α} (hN : l.Nodup) {i j : Nat} {x : α} (a : l[i]? = some x) (b : l[j]? = some x) : i = j := by
  obtain ⟨h1, e1⟩ := List.getElem?_eq_some_iff.mp a
  obtain ⟨h2, e2⟩ := List.getElem?_eq_some_iff.mp b
  exact (List.getElem_inj hN).mp (e1.trans e2.symm)
theorem nd_snoc {α : Type} {l : List α} {x : α} (hN : l.Nodup) (h : x ∉ l) : (l ++ [x]).Nodup :=
  List.nodup_append.mpr ⟨hN, List.Pairwise.cons (fun _ h => nomatch h) List.Pairwise.nil, fun a ha b hb z => h (by rw [List.mem_singleton] at hb; rw [← hb, ← z]; exact ha)⟩
/-- a new thing that never changes -/
theorem Core.alloc (C : Core K B G ps cs H) {p : Addr} (o : HO) (h : H p = none) : Core K B (upd G p o) ps cs (upd H p o) where
  g0 := C.g0.trans (Same.new (C.freeG h))
  h0 b u e m := by
    have q := C.h0 b u e m
    rw [upd_ne (ne_of_none q h)]
    exact q
  gh := Same.both C.gh
  nw b e := by
    by_cases z : b = p
    · subst z
      exact .inr (C.free0 h)
    · rw [upd_ne z] at e
      exact C.nw b e
  len := C.len
  pre := C.pre
  nd := C.nd
  cell k q c e hc := by
    have z : q ≠ p := fun z => C.live (List.mem_of_getElem? e) (z ▸ h)
    obtain ⟨h1, hb, h2⟩ := C.cell k q c e hc
    refine ⟨RepC.mono ⟨Same.new (C.freeG h), List.prefix_refl _⟩ (upd_ne z) h1, hb, ?_⟩
    rw [upd_ne z]
    exact h2
/-- a thing that is neither data nor a cell becomes a cell -/
theorem Core.adoptCell (C : Core K B G ps cs H) {p : Addr} {c : CC} (hp : p ∉ ps) (hG : G p = none) (hB : B.H0 p = none) (r : RepC K G (ps ++ [p]) H p c) : Core K B G (ps ++ [p]) (cs ++ [c]) H where
  g0 := C.g0
  h0 := C.h0
  gh := C.gh
  nw := C.nw
  len := by rw [List.length_append, List.length_append, C.len]; rfl
  pre := C.pre.trans (List.prefix_append _ _)
  nd := nd_snoc C.nd hp
  cell k q d e hd := by
    by_cases hk : k < ps.length
    · rw [List.getElem?_append_left hk] at e
      rw [List.getElem?_append_left (by rw [← C.len]; exact hk)] at hd
      obtain ⟨h1, hb, h2⟩ := C.cell k q d e hd
      exact ⟨RepC.mono ⟨Same.refl _, List.prefix_append _ _⟩ rfl h1, hb, h2⟩
    · have hk2 : k = ps.length := by
        have := (List.getElem?_eq_some_iff.mp e).1
        rw [List.length_append, List.length_singleton] at this
        omega
      subst hk2
      rw [List.getElem?_append_right (Nat.le_refl _), Nat.sub_self] at e
      rw [C.len, List.getElem?_append_right (Nat.le_refl _), Nat.sub_self] at hd
      cases e
      cases hd
      exact ⟨r, .inl hB, .inr hG⟩
/-- such a thing may change -/
theorem Core.outside (C : Core K B G ps cs H) {p : Addr} {o : HO} (hp : p ∉ ps) (hG : G p = none) (hB : B.H0 p = none) : Core K B G ps cs (upd H p o) where
  g0 := C.g0
  h0 b u e m := by
    have z : b ≠ p := fun z => by rw [z, hB] at e; cases e
    rw [upd_ne z]
    exact C.h0 b u e m
  gh b u e := by
    have z : b ≠ p := fun z => by rw [z, hG] at e; cases e
    rw [upd_ne z]
    exact C.gh b u e
  nw := C.nw
  len := C.len
  pre := C.pre
  nd := C.nd
  cell k q c e hc := by
    have z : q ≠ p := fun z => hp (z ▸ List.mem_of_getElem? e)
    obtain ⟨h1, h2, h3⟩ := C.cell k q c e hc
    exact ⟨RepC.mono (Up.refl _ _) (upd_ne z) h1, h2, h3⟩
theorem Core.notMem (C : Core K B G ps cs H) {p : Addr} (h : H p = none) : p ∉ ps := fun m => C.live m h
/-- a new cell -/
theorem Core.cellNew (C : Core K B G ps cs H) {p : Addr} {o : HO} {c : CC} (h : H p = none) (r : RepC K G (ps ++ [p]) (upd H p o) p c) : Core K B G (ps ++ [p]) (cs ++ [c]) (upd H p o) :=
  (C.outside (C.notMem h) (C.freeG h) (C.free0 h)).adoptCell (C.notMem h) (C.freeG h) (C.free0 h) r
/-- a cell changes -/
theorem Core.put (C : Core K B G ps cs H) {k : Nat} {p : Addr} {c c' : CC} {o : HO} (e : ps[k]? = some p) (hc : cs[k]? = some c) (hd : c ≠ .dead) (r : RepC K G ps (upd H p o) p c') : Core K B G ps (cs.set k c') (upd H p o) := by
  obtain ⟨_, hB, h2⟩ := C.cell k p c e hc
  have hG : G p = none := h2.elim (fun z => (hd z).elim) id
  have hk : k < cs.length := (List.getElem?_eq_some_iff.mp hc).1
  refine ⟨C.g0, fun b u eb m => ?_, fun b u eb => ?_, C.nw, by rw [List.length_set]; exact C.len, C.pre, C.nd, fun j q d ej hj => ?_⟩
  · have q := C.h0 b u eb m
    have z : b ≠ p := fun z => by
      subst z
      rcases hB with hB | hB
      · rw [hB] at eb; cases eb
      · exact m hB
    rw [upd_ne z]
    exact q
  · have z : b ≠ p := fun z => by
      subst z
      rw [hG] at eb
      cases eb
    rw [upd_ne z]
    exact C.gh b u eb
  · by_cases hjk : j = k
    · subst hjk
      rw [List.getElem?_set_self hk] at hj
      cases hj
      rw [e] at ej
      cases ej
      exact ⟨r, hB, .inr hG⟩
    · rw [List.getElem?_set_ne (Ne.symm hjk)] at hj
      obtain ⟨h1, hb, h2⟩ := C.cell j q d ej hj
      have hq : q ≠ p := fun hq => hjk (nd_at C.nd ej (by rw [hq]; exact e))
      exact ⟨RepC.mono (Up.refl _ _) (upd_ne hq) h1, hb, h2⟩
end
/-- what is known of the bounds within a def: how many cells it was handed at least -/
structure NA where
  n : Nat
  ok : Bs → Prop
  len : ∀ B, ok B → B.As.length = n
def lenB (n : Nat) : NA := ⟨n, fun B => B.As.length = n, fun _ h => h⟩
end DL
namespace DL
open PySem PySem.Spec PyProof.Rows L2

/-! ### readings, told by data -/
/-- an expression's reading gives s, the cells are cs' then -/
def DE (K : PySem.W.Frag) (na : NA) (te : TE) (sl : Sl) (cs : Cs) (s : SV) (cs' : Cs) : Prop := ∀ B G ps σ H, na.ok B → Core K B G ps cs H → Slots K G ps σ sl → ∀ Q : VK,
  (∀ v G' ps' H', Core K B G' ps' cs' H' → Up G ps G' ps' → RepV K G' ps' v s → Q v H') → te σ H Q
def DA (K : PySem.W.Frag) (na : NA) (ta : TA) (sl : Sl) (cs : Cs) (ss : List SV) (cs' : Cs) : Prop := ∀ B G ps σ H, na.ok B → Core K B G ps cs H → Slots K G ps σ sl → ∀ Q : List V → Hp → Prop,
  (∀ vs G' ps' H', Core K B G' ps' cs' H' → Up G ps G' ps' → RepVs K G' ps' vs ss → Q vs H') → ta σ H Q
def DT (K : PySem.W.Frag) (na : NA) (tt : TT) (sl : Sl) (cs : Cs) (b : Bool) (cs' : Cs) : Prop := ∀ B G ps σ H, na.ok B → Core K B G ps cs H → Slots K G ps σ sl → ∀ Q : Bool → Hp → Prop,
  (∀ G' ps' H', Core K B G' ps' cs' H' → Up G ps G' ps' → Q b H') → tt σ H Q
structure DEnds where
  nx : Sl → Cs → Prop
  rt : SV → Cs → Prop
  bk : Sl → Cs → Prop := fun _ _ => False
  ct : Sl → Cs → Prop := fun _ _ => False
structure DLe (K : PySem.W.Frag) (B : Bs) (G : Hp) (ps : List Addr) (E : DEnds) (D : Ends) : Prop where
  nx : ∀ sl cs G' ps' σ H, Core K B G' ps' cs H → Up G ps G' ps' → Slots K G' ps' σ sl → E.nx sl cs → D.nx σ H
  rt : ∀ s cs G' ps' v H, Core K B G' ps' cs H → Up G ps G' ps' → RepV K G' ps' v s → E.rt s cs → D.rt v H
  bk : ∀ sl cs G' ps' σ H, Core K B G' ps' cs H → Up G ps G' ps' → Slots K G' ps' σ sl → E.bk sl cs → D.bk σ H
  ct : ∀ sl cs G' ps' σ H, Core K B G' ps' cs H → Up G ps G' ps' → Slots K G' ps' σ sl → E.ct sl cs → D.ct σ H
def DX (K : PySem.W.Frag) (na : NA) (ts : TS) (sl : Sl) (cs : Cs) (E : DEnds) : Prop := ∀ B G ps σ H, na.ok B → Core K B G ps cs H → Slots K G ps σ sl → ∀ D : Ends, DLe K B G ps E D → ts D σ H
theorem DLe.up {K : PySem.W.Frag} {B : Bs} {G G1 : Hp} {ps ps1 : List Addr} {E : DEnds} {D : Ends} (L : DLe K B G ps E D) (u : Up G ps G1 ps1) : DLe K B G1 ps1 E D :=
  ⟨fun sl cs G' ps' σ H c v => L.nx sl cs G' ps' σ H c (u.trans v), fun s cs G' ps' w H c v => L.rt s cs G' ps' w H c (u.trans v), fun sl cs G' ps' σ H c v => L.bk sl cs G' ps' σ H c (u.trans v), fun sl cs G' ps' σ H c v => L.ct sl cs G' ps' σ H c (u.trans v)⟩

/-! ### a part of the text and what it does -/
def anyE (X : Cx) (e : Expr) : TE := fun σ H Q => ∃ te, PE X e te ∧ te σ H Q
def anyA (X : Cx) (es : List Expr) : TA := fun σ H Q => ∃ te, PA X es te ∧ te σ H Q
def anyT (X : Cx) (e : Expr) : TT := fun σ H Q => ∃ te, PT X e te ∧ te σ H Q
def anyW (X : Cx) (e : Expr) : TT := fun σ H Q => ∃ te, PW X e te ∧ te σ H Q
def anyS (X : Cx) (st : Stmt) : TS := fun D σ H => ∃ te, PS X st te ∧ te D σ H
def anySs (X : Cx) (sts : List Stmt) : TS := fun D σ H => ∃ te, PSs X sts te ∧ te D σ H
theorem pe_any {X : Cx} {e : Expr} : PE X e (anyE X e) := ⟨fun pins s σ H Q I ⟨_, p, h⟩ => p.run pins s σ H Q I h⟩
theorem pa_any {X : Cx} {es : List Expr} : PA X es (anyA X es) := ⟨fun pos pins s σ H Q I ⟨_, p, h⟩ => p.run pos pins s σ H Q I h⟩
theorem pt_any {X : Cx} {e : Expr} : PT X e (anyT X e) := ⟨fun pins s σ H Q I ⟨_, p, h⟩ => p.run pins s σ H Q I h⟩
theorem pw_any {X : Cx} {e : Expr} : PW X e (anyW X e) := ⟨fun whole pins s σ H Q I ⟨_, p, h⟩ => p.run whole pins s σ H Q I h⟩
theorem ps_any {X : Cx} {st : Stmt} : PS X st (anyS X st) := ⟨fun pins s σ H D I ⟨_, p, h⟩ => p.run pins s σ H D I h⟩
theorem pss_any {X : Cx} {sts : List Stmt} : PSs X sts (anySs X sts) := ⟨fun pins s σ H D I ⟨_, p, h⟩ => p.run pins s σ H D I h⟩
def EV (X : Cx) (na : NA) (e : Expr) (sl : Sl) (cs : Cs) (s : SV) (cs' : Cs) : Prop := DE X.K na (anyE X e) sl cs s cs'
def AV (X : Cx) (na : NA) (es : List Expr) (sl : Sl) (cs : Cs) (ss : List SV) (cs' : Cs) : Prop := DA X.K na (anyA X es) sl cs ss cs'
def TV (X : Cx) (na : NA) (e : Expr) (sl : Sl) (cs : Cs) (b : Bool) (cs' : Cs) : Prop := DT X.K na (anyT X e) sl cs b cs'
def WV (X : Cx) (na : NA) (e : Expr) (sl : Sl) (cs : Cs) (b : Bool) (cs' : Cs) : Prop := DT X.K na (anyW X e) sl cs b cs'
def S1 (X : Cx) (na : NA) (st : Stmt) (sl : Sl) (cs : Cs) (E : DEnds) : Prop := DX X.K na (anyS X st) sl cs E
def SX (X : Cx) (na : NA) (sts : List Stmt) (sl : Sl) (cs : Cs) (E : DEnds) : Prop := DX X.K na (anySs X sts) sl cs E
section
variable {X : Cx} {na : NA} {sl : Sl} {cs cs' : Cs} {s : SV}
theorem ev_of {e : Expr} {te : TE} (p : PE X e te) (d : DE X.K na te sl cs s cs') : EV X na e sl cs s cs' := fun B G ps σ H hn C S Q q => ⟨te, p, d B G ps σ H hn C S Q q⟩
theorem av_of {es : List Expr} {te : TA} {ss : List SV} (p : PA X es te) (d : DA X.K na te sl cs ss cs') : AV X na es sl cs ss cs' := fun B G ps σ H hn C S Q q => ⟨te, p, d B G ps σ H hn C S Q q⟩
theorem tv_of {e : Expr} {te : TT} {b : Bool} (p : PT X e te) (d : DT X.K na te sl cs b cs') : TV X na e sl cs b cs' := fun B G ps σ H hn C S Q q => ⟨te, p, d B G ps σ H hn C S Q q⟩
theorem wv_of {e : Expr} {te : TT} {b : Bool} (p : PW X e te) (d : DT X.K na te sl cs b cs') : WV X na e sl cs b cs' := fun B G ps σ H hn C S Q q => ⟨te, p, d B G ps σ H hn C S Q q⟩
theorem s1_of {st : Stmt} {ts : TS} {E : DEnds} (p : PS X st ts) (d : DX X.K na ts sl cs E) : S1 X na st sl cs E := fun B G ps σ H hn C S D L => ⟨ts, p, d B G ps σ H hn C S D L⟩
theorem sx_of {st : List Stmt} {ts : TS} {E : DEnds} (p : PSs X st ts) (d : DX X.K na ts sl cs E) : SX X na st sl cs E := fun B G ps σ H hn C S D L => ⟨ts, p, d B G ps σ H hn C S D L⟩
end

/-! ### names -/
/-- the slots of the names -/
structure Tab (X : Cx) (m : Nat) : Prop where
  nd : X.N.Nodup
  vis : ∀ x ∈ X.N.take m, Vis X.env.scope x ∧ (x == ("__debug__" : Str)) = false ∧ (x == ("__classdict__" : Str)) = false
inductive Lk : List Str → Sl → Str → Nat → SV → Prop
  | here {x : Str} {N : List Str} {s : SV} {sl : Sl} : Lk (x :: N) (some s :: sl) x 0 s
  | there {x y : Str} {N : List Str} {o : Option SV} {s : SV} {sl : Sl} {i : Nat} : Lk N sl x i s → Lk (y :: N) (o :: sl) x (i + 1) s
inductive Put : List Str → Sl → Str → Nat → SV → Sl → Prop
  | here {x : Str} {N : List Str} {s : SV} {o : Option SV} {sl : Sl} : Put (x :: N) (o :: sl) x 0 s (some s :: sl)
  | there {x y : Str} {N : List Str} {o : Option SV} {s : SV} {sl sl' : Sl} {i : Nat} : Put N sl x i s sl' → Put (y :: N) (o :: sl) x (i + 1) s (o :: sl')
theorem Lk.at : ∀ {N : List Str} {sl : Sl} {x : Str} {i : Nat} {s : SV}, Lk N sl x i s → N[i]? = some x ∧ sl[i]? = some (some s)
  | _, _, _, _, _, .here => ⟨rfl, rfl⟩
  | _, _, _, _, _, .there h => by
    obtain ⟨a, b⟩ := h.at
    exact ⟨by simpa using a, by simpa using b⟩
theorem Put.at : ∀ {N : List Str} {sl sl' : Sl} {x : Str} {i : Nat} {s : SV}, Put N sl x i s sl' → N[i]? = some x ∧ sl' = sl.set i (some s)
  | _, _, _, _, _, _, .here => ⟨rfl, rfl⟩
  | _, _, _, _, _, _, .there h => by
    obtain ⟨a, b⟩ := h.at
    exact ⟨by simpa using a, by rw [b]; rfl⟩
section
variable {X : Cx} {na : NA} {sl sl' : Sl} {cs cs1 cs2 cs3 : Cs} {s t u : SV} {pos : Pos} {x : Str}
theorem mem_take {α : Type} {l : List α} {i m : Nat} {a : α} (h : l[i]? = some a) (hi : Nat.blt i m = true) : a ∈ l.take m := by
  have h' : i < m := by simpa [Nat.blt_eq] using hi
  exact List.mem_of_getElem? (i := i) (by rw [List.getElem?_take_of_lt h']; exact h)
theorem ev_name {N : List Str} {i m : Nat} (T : Tab X m) (hN : X.N = N) (l : Lk N sl x i s) (hi : Nat.blt i m = true) : EV X na (.Name x pos) sl cs s cs := by
  subst hN
  obtain ⟨h1, h2⟩ := l.at
  obtain ⟨a, b, c⟩ := T.vis x (mem_take h1 hi)
  refine ev_of (pe_var h1 a b c) fun B G ps σ H hn C S Q q => ?_
  obtain ⟨o, ho, hr⟩ := pd_get S h2
  cases o with
  | none => exact hr.elim
  | some v => exact ⟨v, ho, q v G ps H C (Up.refl _ _) hr⟩
theorem de_c {K : PySem.W.Frag} {v : V} {d : PyData} (h : ∀ G, Rep K G v d) : DE K na (tC v) sl cs (.val d) cs := fun B G ps σ H hn C S Q q => q v G ps H C (Up.refl _ _) (h G)
theorem ev_int {i : Int} {j : Nat} : EV X na (.Constant (.int i) j pos) sl cs (.val (.int i)) cs := ev_of pe_int (de_c fun _ => .int i)
theorem ev_bool {b : Bool} {j : Nat} : EV X na (.Constant (.bool b) j pos) sl cs (.val (.bool b)) cs := ev_of pe_bl (de_c fun _ => .bl b)
theorem ev_none {j : Nat} : EV X na (.Constant .none j pos) sl cs (.val .none) cs := ev_of pe_non (de_c fun _ => .non)
theorem ev_str {y : Str} {j : Nat} : EV X na (.Constant (.str y) j pos) sl cs (.val (.str y)) cs := ev_of pe_str (de_c fun _ => .str y)

/-! ### operations by values -/
def RV (K : PySem.W.Frag) (na : NA) (r : R2) (s t : SV) (cs : Cs) (u : SV) (cs' : Cs) : Prop := ∀ B G ps H v w, na.ok B → Core K B G ps cs H → RepV K G ps v s → RepV K G ps w t → ∀ Q : VK,
  (∀ z G' ps' H', Core K B G' ps' cs' H' → Up G ps G' ps' → RepV K G' ps' z u → Q z H') → r v w H Q
def RU (K : PySem.W.Frag) (na : NA) (r : V → Hp → VK → Prop) (s : SV) (cs : Cs) (u : SV) (cs' : Cs) : Prop := ∀ B G ps H v, na.ok B → Core K B G ps cs H → RepV K G ps v s → ∀ Q : VK,
  (∀ z G' ps' H', Core K B G' ps' cs' H' → Up G ps G' ps' → RepV K G' ps' z u → Q z H') → r v H Q
def RC (K : PySem.W.Frag) (na : NA) (r : List V → Hp → VK → Prop) (ss : List SV) (cs : Cs) (u : SV) (cs' : Cs) : Prop := ∀ B G ps H vs, na.ok B → Core K B G ps cs H → RepVs K G ps vs ss → ∀ Q : VK,
  (∀ z G' ps' H', Core K B G' ps' cs' H' → Up G ps G' ps' → RepV K G' ps' z u → Q z H') → r vs H Q
def RM (K : PySem.W.Frag) (na : NA) (r : V → List V → Hp → VK → Prop) (s : SV) (ss : List SV) (cs : Cs) (u : SV) (cs' : Cs) : Prop := ∀ B G ps H v vs, na.ok B → Core K B G ps cs H → RepV K G ps v s → RepVs K G ps vs ss → ∀ Q : VK,
  (∀ z G' ps' H', Core K B G' ps' cs' H' → Up G ps G' ps' → RepV K G' ps' z u → Q z H') → r v vs H Q
section
variable {K : PySem.W.Frag} {ta tb : TE} {r : R2}
theorem de_op (ha : DE K na ta sl cs s cs1) (hb : DE K na tb sl cs1 t cs2) (hr : RV K na r s t cs2 u cs3) : DE K na (tOp r ta tb) sl cs u cs3 := fun B G ps σ H hn C S Q q =>
  ha B G ps σ H hn C S _ fun v G1 ps1 H1 C1 u1 r1 => hb B G1 ps1 σ H1 hn C1 (Slots.mono u1 S) _ fun w G2 ps2 H2 C2 u2 r2 =>
    hr B G2 ps2 H2 v w hn C2 (RepV.mono u2 r1) r2 Q fun z G3 ps3 H3 C3 u3 r3 => q z G3 ps3 H3 C3 ((u1.trans u2).trans u3) r3
theorem de_un {r : V → Hp → VK → Prop} (ha : DE K na ta sl cs s cs1) (hr : RU K na r s cs1 u cs2) : DE K na (tUn r ta) sl cs u cs2 := fun B G ps σ H hn C S Q q =>
  ha B G ps σ H hn C S _ fun v G1 ps1 H1 C1 u1 r1 => hr B G1 ps1 H1 v hn C1 r1 Q fun z G3 ps3 H3 C3 u3 r3 => q z G3 ps3 H3 C3 (u1.trans u3) r3
theorem da_nil : DA K na tNil sl cs [] cs := fun B G ps σ H hn C S Q q => q [] G ps H C (Up.refl _ _) .nil
theorem da_cons {ss : List SV} {tr : TA} (ha : DE K na ta sl cs s cs1) (hr : DA K na tr sl cs1 ss cs2) : DA K na (tCons ta tr) sl cs (s :: ss) cs2 := fun B G ps σ H hn C S Q q =>
  ha B G ps σ H hn C S _ fun v G1 ps1 H1 C1 u1 r1 => hr B G1 ps1 σ H1 hn C1 (Slots.mono u1 S) _ fun vs G2 ps2 H2 C2 u2 r2 => q (v :: vs) G2 ps2 H2 C2 (u1.trans u2) (.cons (RepV.mono u2 r1) r2)
theorem de_cb {r : List V → Hp → VK → Prop} {ta : TA} {ss : List SV} (ha : DA K na ta sl cs ss cs1) (hr : RC K na r ss cs1 u cs2) : DE K na (tCB r ta) sl cs u cs2 := fun B G ps σ H hn C S Q q =>
  ha B G ps σ H hn C S _ fun vs G1 ps1 H1 C1 u1 r1 => hr B G1 ps1 H1 vs hn C1 r1 Q fun z G3 ps3 H3 C3 u3 r3 => q z G3 ps3 H3 C3 (u1.trans u3) r3
end
theorem av_nil : AV X na [] sl cs [] cs := av_of pa_nil da_nil
theorem av_cons {e : Expr} {es : List Expr} {ss : List SV} (ha : EV X na e sl cs s cs1) (hr : AV X na es sl cs1 ss cs2) (hs : starEach (e :: es) X.env = (false, eval e X.env) :: starEach es X.env := by rfl) : AV X na (e :: es) sl cs (s :: ss) cs2 :=
  av_of (pa_cons pe_any pa_any hs) (da_cons ha hr)
theorem ev_op {a b : Expr} {op : Operator} {r : R2} (ho : OpR X (binaryOp op) r) (ha : EV X na a sl cs s cs1) (hb : EV X na b sl cs1 t cs2) (hr : RV X.K na r s t cs2 u cs3) : EV X na (.BinOp a op b pos) sl cs u cs3 :=
  ev_of (pe_op ho pe_any pe_any) (de_op ha hb hr)
theorem ev_cmp {a b : Expr} {op : CmpOp} {r : R2} (ho : OpR X (compareOp op) r) (hm : behindInMarks op b = false) (ha : EV X na a sl cs s cs1) (hb : EV X na b sl cs1 t cs2) (hr : RV X.K na r s t cs2 u cs3) : EV X na (.Compare a [op] [b] pos) sl cs u cs3 :=
  ev_of (pe_cmpR ho pe_any pe_any hm) (de_op ha hb hr)
theorem tv_cmp {a b : Expr} {op : CmpOp} {r : R2} {k : Bool} (ho : OpR X (compareOp op) r) (hm : behindInMarks op b = false) (ha : EV X na a sl cs s cs1) (hb : EV X na b sl cs1 t cs2) (hr : RV X.K na r s t cs2 (.val (.bool k)) cs3) : TV X na (.Compare a [op] [b] pos) sl cs k cs3 := by
  refine tv_of (pt_cmpR ho pe_any pe_any hm) fun B G ps σ H hn C S Q q => de_op ha hb hr B G ps σ H hn C S _ fun v G1 ps1 H1 C1 u1 r1 => ?_
  cases (r1 : Rep _ _ _ _)
  exact ⟨k, rfl, q G1 ps1 H1 C1 u1⟩
theorem ev_un {a : Expr} {op : UnaryOp} {r : V → Hp → VK → Prop} (ho : UnR X (unaryOp op) r) (ha : EV X na a sl cs s cs1) (hr : RU X.K na r s cs1 u cs2) : EV X na (.UnaryOp op a pos) sl cs u cs2 :=
  ev_of (pe_un ho pe_any) (de_un ha hr)
theorem tv_val {e : Expr} {b : Bool} (h : EV X na e sl cs (.val (.bool b)) cs1) (he : ∀ whole, isTrue e X.env whole = (do let v ← whole; standAt e.pos; holding [v] (truthy v)) := by intro _; rfl) : TV X na e sl cs b cs1 := by
  refine tv_of (pt_val pe_any he) fun B G ps σ H hn C S Q q => h B G ps σ H hn C S _ fun v G1 ps1 H1 C1 u1 r1 => ?_
  cases (r1 : Rep _ _ _ _)
  exact ⟨b, rfl, q G1 ps1 H1 C1 u1⟩
theorem tv_w {e : Expr} {b : Bool} (h : WV X na e sl cs b cs1) : TV X na e sl cs b cs1 := tv_of (PW.pt pw_any) h
theorem dt_and {K : PySem.W.Frag} {ta tb : TT} {a b : Bool} (ha : DT K na ta sl cs a cs1) (hb : a = true → DT K na tb sl cs1 b cs1) : DT K na (L2.tAnd ta tb) sl cs (a && b) cs1 := fun B G ps σ H hn C S Q q =>
  ha B G ps σ H hn C S _ fun G1 ps1 H1 C1 u1 => by
    cases a with
    | true => exact hb rfl B G1 ps1 σ H1 hn C1 (Slots.mono u1 S) Q fun G2 ps2 H2 C2 u2 => q G2 ps2 H2 C2 (u1.trans u2)
    | false => exact q G1 ps1 H1 C1 u1
theorem dt_or {K : PySem.W.Frag} {ta tb : TT} {a b : Bool} (ha : DT K na ta sl cs a cs1) (hb : a = false → DT K na tb sl cs1 b cs1) : DT K na (L2.tOr ta tb) sl cs (a || b) cs1 := fun B G ps σ H hn C S Q q =>
  ha B G ps σ H hn C S _ fun G1 ps1 H1 C1 u1 => by
    cases a with
    | true => exact q G1 ps1 H1 C1 u1
    | false => exact hb rfl B G1 ps1 σ H1 hn C1 (Slots.mono u1 S) Q fun G2 ps2 H2 C2 u2 => q G2 ps2 H2 C2 (u1.trans u2)
theorem dt_not {K : PySem.W.Frag} {ta : TT} {a : Bool} (ha : DT K na ta sl cs a cs1) : DT K na (L2.tNot ta) sl cs (!a) cs1 := fun B G ps σ H hn C S Q q => ha B G ps σ H hn C S _ q
theorem wv_and1 {a : Expr} {b : Bool} (h : TV X na a sl cs b cs1) : WV X na (.BoolOp .And [a] pos) sl cs b cs1 := wv_of (pw_and1 pt_any) h
theorem wv_or1 {a : Expr} {b : Bool} (h : TV X na a sl cs b cs1) : WV X na (.BoolOp .Or [a] pos) sl cs b cs1 := wv_of (pw_or1 pt_any) h
theorem wv_and {a b : Expr} {rest : List Expr} {k l : Bool} (ha : TV X na a sl cs k cs1) (hb : k = true → WV X na (.BoolOp .And (b :: rest) pos) sl cs1 l cs1) : WV X na (.BoolOp .And (a :: b :: rest) pos) sl cs (k && l) cs1 := wv_of (pw_and pt_any pw_any) (dt_and ha hb)
theorem wv_or {a b : Expr} {rest : List Expr} {k l : Bool} (ha : TV X na a sl cs k cs1) (hb : k = false → WV X na (.BoolOp .Or (b :: rest) pos) sl cs1 l cs1) : WV X na (.BoolOp .Or (a :: b :: rest) pos) sl cs (k || l) cs1 := wv_of (pw_or pt_any pw_any) (dt_or ha hb)
theorem tv_not {a : Expr} {k : Bool} (ha : TV X na a sl cs k cs1) : TV X na (.UnaryOp .Not a pos) sl cs (!k) cs1 := tv_of (pt_not pt_any) (dt_not ha)
theorem ev_not {a : Expr} {k : Bool} (ha : EV X na a sl cs (.val (.bool k)) cs1) : EV X na (.UnaryOp .Not a pos) sl cs (.val (.bool (!k))) cs1 :=
  ev_of (L2.pe_not pe_any) fun B G ps σ H hn C S Q q => ha B G ps σ H hn C S _ fun v G1 ps1 H1 C1 u1 r1 => by
    cases (r1 : Rep _ _ _ _)
    exact ⟨k, rfl, q _ G1 ps1 H1 C1 u1 (Rep.bl _)⟩
theorem ev_and1 {op : BoolOp} {a : Expr} (h : EV X na a sl cs s cs1) : EV X na (.BoolOp op [a] pos) sl cs s cs1 := ev_of (pe_one pe_any) h
theorem ev_and {a b : Expr} {rest : List Expr} {k l : Bool} (ha : EV X na a sl cs (.val (.bool k)) cs1) (hb : k = true → EV X na (.BoolOp .And (b :: rest) pos) sl cs1 (.val (.bool l)) cs1) : EV X na (.BoolOp .And (a :: b :: rest) pos) sl cs (.val (.bool (k && l))) cs1 :=
  ev_of (pe_and pe_any pe_any) fun B G ps σ H hn C S Q q => ha B G ps σ H hn C S _ fun v G1 ps1 H1 C1 u1 r1 => by
    cases (r1 : Rep _ _ _ _)
    refine ⟨k, rfl, ?_⟩
    cases k with
    | true => exact hb rfl B G1 ps1 σ H1 hn C1 (Slots.mono u1 S) Q fun v G2 ps2 H2 C2 u2 => q v G2 ps2 H2 C2 (u1.trans u2)
    | false => exact q _ G1 ps1 H1 C1 u1 (Rep.bl _)
theorem ev_or {a b : Expr} {rest : List Expr} {k l : Bool} (ha : EV X na a sl cs (.val (.bool k)) cs1) (hb : k = false → EV X na (.BoolOp .Or (b :: rest) pos) sl cs1 (.val (.bool l)) cs1) : EV X na (.BoolOp .Or (a :: b :: rest) pos) sl cs (.val (.bool (k || l))) cs1 :=
  ev_of (pe_or pe_any pe_any) fun B G ps σ H hn C S Q q => ha B G ps σ H hn C S _ fun v G1 ps1 H1 C1 u1 r1 => by
    cases (r1 : Rep _ _ _ _)
    refine ⟨k, rfl, ?_⟩
    cases k with
    | true => exact q _ G1 ps1 H1 C1 u1 (Rep.bl _)
    | false => exact hb rfl B G1 ps1 σ H1 hn C1 (Slots.mono u1 S) Q fun v G2 ps2 H2 C2 u2 => q v G2 ps2 H2 C2 (u1.trans u2)
theorem ev_ifExp {c a b : Expr} {k : Bool} (hc : TV X na c sl cs k cs1) (ha : k = true → EV X na a sl cs1 s cs2) (hb : k = false → EV X na b sl cs1 s cs2) : EV X na (.IfExp c a b pos) sl cs s cs2 :=
  ev_of (pe_ifExp pt_any pe_any pe_any) fun B G ps σ H hn C S Q q => hc B G ps σ H hn C S _ fun G1 ps1 H1 C1 u1 => by
    cases k with
    | true => exact ha rfl B G1 ps1 σ H1 hn C1 (Slots.mono u1 S) Q fun v G2 ps2 H2 C2 u2 => q v G2 ps2 H2 C2 (u1.trans u2)
    | false => exact hb rfl B G1 ps1 σ H1 hn C1 (Slots.mono u1 S) Q fun v G2 ps2 H2 C2 u2 => q v G2 ps2 H2 C2 (u1.trans u2)

/-! ### operators -/
section
variable {K : PySem.W.Frag} {i j : Int}
theorem Rep.intI {G : Hp} {v : V} (h : Rep K G v (.int i)) : v = .int i := by cases h; rfl
theorem Rep.strI {G : Hp} {v : V} {x : Str} (h : Rep K G v (.str x)) : v = .str x := by cases h; rfl
theorem Rep.boolI {G : Hp} {v : V} {b : Bool} (h : Rep K G v (.bool b)) : v = .bl b := by cases h; rfl
theorem Rep.noneI {G : Hp} {v : V} (h : Rep K G v .none) : v = .non := by cases h; rfl
theorem rv_int {g : Int → Int → Int} : RV K na (rI0 fun i j => .int (g i j)) (.val (.int i)) (.val (.int j)) cs (.val (.int (g i j))) cs := fun B G ps H v w hn C h1 h2 Q q =>
  ⟨i, j, Rep.intI h1, Rep.intI h2, q _ G ps H C (Up.refl _ _) (Rep.int _)⟩
theorem rv_intC {c : Int → Int → Prop} {g : Int → Int → Int} (hc : c i j) : RV K na (rI c fun i j => .int (g i j)) (.val (.int i)) (.val (.int j)) cs (.val (.int (g i j))) cs := fun B G ps H v w hn C h1 h2 Q q =>
  ⟨i, j, Rep.intI h1, Rep.intI h2, hc, q _ G ps H C (Up.refl _ _) (Rep.int _)⟩
theorem rv_bool {g : Int → Int → Bool} : RV K na (rI0 fun i j => .bl (g i j)) (.val (.int i)) (.val (.int j)) cs (.val (.bool (g i j))) cs := fun B G ps H v w hn C h1 h2 Q q =>
  ⟨i, j, Rep.intI h1, Rep.intI h2, q _ G ps H C (Up.refl _ _) (Rep.bl _)⟩
end
theorem ev_add {a b : Expr} {i j : Int} (ha : EV X na a sl cs (.val (.int i)) cs1) (hb : EV X na b sl cs1 (.val (.int j)) cs2) : EV X na (.BinOp a .Add b pos) sl cs (.val (.int (i + j))) cs2 := ev_op op_add ha hb rv_int
theorem ev_sub {a b : Expr} {i j : Int} (ha : EV X na a sl cs (.val (.int i)) cs1) (hb : EV X na b sl cs1 (.val (.int j)) cs2) : EV X na (.BinOp a .Sub b pos) sl cs (.val (.int (i - j))) cs2 := ev_op op_sub ha hb rv_int
theorem ev_mul {a b : Expr} {i j : Int} (ha : EV X na a sl cs (.val (.int i)) cs1) (hb : EV X na b sl cs1 (.val (.int j)) cs2) (hc : CMulX i j) : EV X na (.BinOp a .Mult b pos) sl cs (.val (.int (i * j))) cs2 := ev_op op_mulX ha hb (rv_intC hc)
theorem ev_div {a b : Expr} {i j : Int} (ha : EV X na a sl cs (.val (.int i)) cs1) (hb : EV X na b sl cs1 (.val (.int j)) cs2) (hc : CDivW i j) : EV X na (.BinOp a .FloorDiv b pos) sl cs (.val (.int (i / j))) cs2 := ev_op op_fdivW ha hb (rv_intC hc)
theorem ev_mod {a b : Expr} {i j : Int} (ha : EV X na a sl cs (.val (.int i)) cs1) (hb : EV X na b sl cs1 (.val (.int j)) cs2) (hc : 0 < j) : EV X na (.BinOp a .Mod b pos) sl cs (.val (.int (i % j))) cs2 := ev_op op_mod ha hb (rv_intC (c := fun _ j => 0 < j) hc)
theorem ev_pow {a b : Expr} {i j : Int} (ha : EV X na a sl cs (.val (.int i)) cs1) (hb : EV X na b sl cs1 (.val (.int j)) cs2) (hc : CPow i j) : EV X na (.BinOp a .Pow b pos) sl cs (.val (.int (i ^ j.toNat))) cs2 := ev_op op_pow ha hb (rv_intC hc)
theorem ev_neg {a : Expr} {i : Int} (ha : EV X na a sl cs (.val (.int i)) cs1) : EV X na (.UnaryOp .USub a pos) sl cs (.val (.int (-i))) cs1 :=
  ev_un un_neg ha fun B G ps H v hn C h Q q => ⟨i, Rep.intI h, q _ G ps H C (Up.refl _ _) (Rep.int _)⟩
theorem ev_lt {a b : Expr} {i j : Int} (ha : EV X na a sl cs (.val (.int i)) cs1) (hb : EV X na b sl cs1 (.val (.int j)) cs2) : EV X na (.Compare a [.Lt] [b] pos) sl cs (.val (.bool (decide (i < j)))) cs2 := ev_cmp op_lt (nomark _) ha hb rv_bool
theorem ev_le {a b : Expr} {i j : Int} (ha : EV X na a sl cs (.val (.int i)) cs1) (hb : EV X na b sl cs1 (.val (.int j)) cs2) : EV X na (.Compare a [.LtE] [b] pos) sl cs (.val (.bool (decide (i ≤ j)))) cs2 := ev_cmp op_le (nomark _) ha hb rv_bool
theorem ev_gt {a b : Expr} {i j : Int} (ha : EV X na a sl cs (.val (.int i)) cs1) (hb : EV X na b sl cs1 (.val (.int j)) cs2) : EV X na (.Compare a [.Gt] [b] pos) sl cs (.val (.bool (decide (j < i)))) cs2 := ev_cmp op_gt (nomark _) ha hb rv_bool
theorem ev_ge {a b : Expr} {i j : Int} (ha : EV X na a sl cs (.val (.int i)) cs1) (hb : EV X na b sl cs1 (.val (.int j)) cs2) : EV X na (.Compare a [.GtE] [b] pos) sl cs (.val (.bool (decide (j ≤ i)))) cs2 := ev_cmp op_ge (nomark _) ha hb rv_bool
theorem tv_lt {a b : Expr} {i j : Int} (ha : EV X na a sl cs (.val (.int i)) cs1) (hb : EV X na b sl cs1 (.val (.int j)) cs2) : TV X na (.Compare a [.Lt] [b] pos) sl cs (decide (i < j)) cs2 := tv_cmp op_lt (nomark _) ha hb rv_bool
theorem tv_le {a b : Expr} {i j : Int} (ha : EV X na a sl cs (.val (.int i)) cs1) (hb : EV X na b sl cs1 (.val (.int j)) cs2) : TV X na (.Compare a [.LtE] [b] pos) sl cs (decide (i ≤ j)) cs2 := tv_cmp op_le (nomark _) ha hb rv_bool
theorem tv_gt {a b : Expr} {i j : Int} (ha : EV X na a sl cs (.val (.int i)) cs1) (hb : EV X na b sl cs1 (.val (.int j)) cs2) : TV X na (.Compare a [.Gt] [b] pos) sl cs (decide (j < i)) cs2 := tv_cmp op_gt (nomark _) ha hb rv_bool
theorem tv_ge {a b : Expr} {i j : Int} (ha : EV X na a sl cs (.val (.int i)) cs1) (hb : EV X na b sl cs1 (.val (.int j)) cs2) : TV X na (.Compare a [.GtE] [b] pos) sl cs (decide (j ≤ i)) cs2 := tv_cmp op_ge (nomark _) ha hb rv_bool
end
end DL
namespace DL
open PySem PySem.Spec PyProof.Rows L2
section
variable {K : PySem.W.Frag} {G G' : Hp} {ps ps' : List Addr} {H H' : Hp} {B : Bs} {cs cs' : Cs}

/-! ### another base, and back -/
theorem Core.sub (C : Core K B G ps cs H) : Core K ⟨G, H, ps⟩ G ps cs H :=
  ⟨Same.refl _, fun _ _ e _ => e, C.gh, fun _ e => .inl e, C.len, List.prefix_refl _, C.nd, fun k p c e hc => by
    obtain ⟨h1, _, h2⟩ := C.cell k p c e hc
    exact ⟨h1, .inr (List.mem_of_getElem? e), h2⟩⟩
theorem Core.own (C : Core K B G ps cs H) {p : Addr} (h : p ∈ ps) : B.H0 p = none ∨ p ∈ B.As := by
  obtain ⟨k, ek⟩ := List.getElem?_of_mem h
  obtain ⟨c, hc⟩ := C.at ek
  exact (C.cell k p c ek hc).2.1
/-- from a base that lies between -/
theorem Core.back (C : Core K B G ps cs H) (C' : Core K ⟨G, H, ps⟩ G' ps' cs' H') : Core K B G' ps' cs' H' where
  g0 := C.g0.trans C'.g0
  h0 b o e m := C'.h0 b o (C.h0 b o e m) fun z => by
    rcases C.own z with h | h
    · rw [h] at e; cases e
    · exact m h
  gh := C'.gh
  nw b e := (C'.nw b e).elim (C.nw b) fun h => .inr (C.free0 h)
  len := C'.len
  pre := C.pre.trans C'.pre
  nd := C'.nd
  cell k p c e hc := by
    obtain ⟨h1, h2, h3⟩ := C'.cell k p c e hc
    exact ⟨h1, h2.elim (fun h => .inl (C.free0 h)) C.own, h3⟩
theorem Core.backUp (C' : Core K ⟨G, H, ps⟩ G' ps' cs' H') : Up G ps G' ps' := ⟨C'.g0, C'.pre⟩
/-- a thing that is neither data nor a cell becomes data -/
theorem Core.adopt (C : Core K B G ps cs H) {p : Addr} {o : HO} (hp : p ∉ ps) (hG : G p = none) (hB : B.H0 p = none) (hH : H p = some o) : Core K B (upd G p o) ps cs H where
  g0 := C.g0.trans (Same.new hG)
  h0 := C.h0
  gh b u e := by
    by_cases z : b = p
    · subst z
      rw [upd_same] at e
      rw [hH]
      exact e
    · rw [upd_ne z] at e
      exact C.gh b u e
  nw b e := by
    by_cases z : b = p
    · subst z
      exact .inr hB
    · rw [upd_ne z] at e
      exact C.nw b e
  len := C.len
  pre := C.pre
  nd := C.nd
  cell k q c e hc := by
    have z : q ≠ p := fun z => hp (z ▸ List.mem_of_getElem? e)
    obtain ⟨h1, h2, h3⟩ := C.cell k q c e hc
    refine ⟨RepC.mono ⟨Same.new hG, List.prefix_refl _⟩ rfl h1, h2, ?_⟩
    rw [upd_ne z]
    exact h3
/-! ### cells as data -/
def SV.data : SV → Option PyData
  | .val d => some d
  | .cell _ => none
  | .obj _ => none
def svData : List SV → Option (List PyData)
  | [] => some []
  | .val d :: r => (svData r).map (d :: ·)
  | .cell _ :: _ => none
  | .obj _ :: _ => none
def kvData : List (Key × SV) → Option (List (PyData × PyData))
  | [] => some []
  | (k, .val d) :: r => (kvData r).map ((kD k, d) :: ·)
  | (_, .cell _) :: _ => none
  | (_, .obj _) :: _ => none
def CC.data : CC → Option PyData
  | .lst xs => (svData xs).map .list
  | .dct kvs => (kvData kvs).map .dict
  | _ => none
theorem svData_map (ds : List PyData) : svData (ds.map SV.val) = some ds := by
  induction ds with
  | nil => rfl
  | cons d r ih => simp [svData, ih]
theorem kvData_map (ds : List (Key × PyData)) : kvData (ds.map fun kv => (kv.1, SV.val kv.2)) = some (ds.map fun kv => (kD kv.1, kv.2)) := by
  induction ds with
  | nil => rfl
  | cons d r ih => simp [kvData, ih]
theorem RepVs.data : ∀ {vs : List V} {xs : List SV} {ds : List PyData}, RepVs K G ps vs xs → svData xs = some ds → Reps K G vs ds
  | _, _, _, .nil, e => by cases e; exact .nil
  | _, .val d :: r, ds, .cons h t, e => by
    cases q : svData r with
    | none => simp [svData, q] at e
    | some es =>
      simp [svData, q] at e
      subst e
      exact .cons h (RepVs.data t q)
  | _, .cell _ :: _, _, .cons _ _, e => by simp [svData] at e
  | _, .obj _ :: _, _, .cons _ _, e => by simp [svData] at e
theorem RepKs.data : ∀ {vs : List (Key × V)} {xs : List (Key × SV)} {ds : List (PyData × PyData)}, RepKs K G ps vs xs → kvData xs = some ds → RepD K G vs ds
  | _, _, _, .nil, e => by cases e; exact .nil
  | (k, v) :: _, (k', .val d) :: r, ds, .cons h t, e => by
    cases q : kvData r with
    | none => simp [kvData, q] at e
    | some es =>
      simp [kvData, q] at e
      subst e
      obtain ⟨h1, h2⟩ := h
      cases (show k = k' from h1)
      exact .cons h2 (RepKs.data t q)
  | _, (_, .cell _) :: _, _, .cons _ _, e => by simp [kvData] at e
  | _, (_, .obj _) :: _, _, .cons _ _, e => by simp [kvData] at e
/-- the object at a cell that is all data -/
theorem RepC.data {p : Addr} {c : CC} {d : PyData} (h : RepC K G ps H p c) (e : c.data = some d) : ∃ o, H p = some o ∧ ∀ G' : Hp, Same G G' → G' p = some o → Rep K G' (.ref p) d := by
  cases c with
  | lst xs =>
    obtain ⟨vs, h1, h2⟩ := h
    cases q : svData xs with
    | none => simp [CC.data, q] at e
    | some ds =>
      simp [CC.data, q] at e
      subst e
      exact ⟨_, h1, fun G' s g => .lst (.inl (.inl g)) (Reps.mono s (RepVs.data h2 q))⟩
  | dct xs =>
    obtain ⟨vs, h1, h2⟩ := h
    cases q : kvData xs with
    | none => simp [CC.data, q] at e
    | some ds =>
      simp [CC.data, q] at e
      subst e
      exact ⟨_, h1, fun G' s g => .dct g (RepD.mono s (RepKs.data h2 q))⟩
  | ins _ _ => simp [CC.data] at e
  | dead => simp [CC.data] at e
  | frz _ _ _ => simp [CC.data] at e
  | tup _ => simp [CC.data] at e
/-- a cell of one's own becomes data for good -/
theorem Core.freeze (C : Core K B G ps cs H) {k : Nat} {p : Addr} {c : CC} {o : HO} (hk : B.As.length ≤ k) (e : ps[k]? = some p) (hc : cs[k]? = some c) (hd : c ≠ .dead) (hH : H p = some o) :
    Core K B (upd G p o) ps (cs.set k .dead) H := by
  obtain ⟨_, hB, h2⟩ := C.cell k p c e hc
  have hG : G p = none := h2.elim (fun z => (hd z).elim) id
  have hB' : B.H0 p = none := hB.elim id fun h => by
    obtain ⟨j, ej⟩ := List.getElem?_of_mem h
    have h1 := nd_at C.nd (pre_get C.pre ej) e
    have h2 := (List.getElem?_eq_some_iff.mp ej).1
    omega
  have hkl : k < cs.length := (List.getElem?_eq_some_iff.mp hc).1
  refine ⟨C.g0.trans (Same.new hG), C.h0, fun b u eb => ?_, fun b eb => ?_, by rw [List.length_set]; exact C.len, C.pre, C.nd, fun j q d ej hj => ?_⟩
  · by_cases z : b = p
    · subst z
      rw [upd_same] at eb
      rw [hH]
      exact eb
    · rw [upd_ne z] at eb
      exact C.gh b u eb
  · by_cases z : b = p
    · subst z
      exact .inr hB'
    · rw [upd_ne z] at eb
      exact C.nw b eb
  · by_cases hjk : j = k
    · subst hjk
      rw [List.getElem?_set_self hkl] at hj
      cases hj
      rw [e] at ej
      cases ej
      exact ⟨by show H p ≠ none; rw [hH]; exact Option.some_ne_none _, hB, .inl rfl⟩
    · rw [List.getElem?_set_ne (Ne.symm hjk)] at hj
      obtain ⟨h1, hb, h2⟩ := C.cell j q d ej hj
      have hq : q ≠ p := fun hq => hjk (nd_at C.nd ej (by rw [hq]; exact e))
      refine ⟨RepC.mono ⟨Same.new hG, List.prefix_refl _⟩ rfl h1, hb, ?_⟩
      rw [upd_ne hq]
      exact h2
/-! ### fewer cells -/
def SV.lt (n : Nat) : SV → Bool
  | .val _ => true
  | .cell k => decide (k < n)
  | .obj _ => true
def CC.lt (n : Nat) : CC → Bool
  | .lst xs => xs.all (SV.lt n)
  | .dct kvs => kvs.all fun kv => SV.lt n kv.2
  | .ins _ fs => fs.all fun kv => SV.lt n kv.2
  | .dead => true
  | .frz _ _ kvs => kvs.all fun kv => SV.lt n kv.2
  | .tup xs => xs.all (SV.lt n)
theorem RepV.take {n : Nat} {v : V} : ∀ {s : SV}, RepV K G ps v s → SV.lt n s = true → RepV K G (ps.take n) v s
  | .val _, h, _ => h
  | .cell k, ⟨p, e, hv⟩, l => ⟨p, by rw [List.getElem?_take_of_lt (of_decide_eq_true l)]; exact e, hv⟩
  | .obj _, h, _ => h
theorem RepVs.take {n : Nat} : ∀ {vs : List V} {ss : List SV}, RepVs K G ps vs ss → ss.all (SV.lt n) = true → RepVs K G (ps.take n) vs ss
  | _, _, .nil, _ => .nil
  | _, _, .cons h t, l => by
    rw [List.all_cons, Bool.and_eq_true] at l
    exact .cons (RepV.take h l.1) (RepVs.take t l.2)
theorem RepKs.take {κ : Type} {n : Nat} : ∀ {vs : List (κ × V)} {ss : List (κ × SV)}, RepKs K G ps vs ss → (ss.all fun kv => SV.lt n kv.2) = true → RepKs K G (ps.take n) vs ss
  | _, _, .nil, _ => .nil
  | _, _, .cons h t, l => by
    rw [List.all_cons, Bool.and_eq_true] at l
    exact .cons ⟨h.1, RepV.take h.2 l.1⟩ (RepKs.take t l.2)
theorem RepC.take {n : Nat} {p : Addr} {c : CC} (h : RepC K G ps H p c) (l : c.lt n = true) : RepC K G (ps.take n) H p c := by
  cases c with
  | lst xs => obtain ⟨vs, e, r⟩ := h; exact ⟨vs, e, RepVs.take r l⟩
  | dct xs => obtain ⟨vs, e, r⟩ := h; exact ⟨vs, e, RepKs.take r l⟩
  | ins _ _ => obtain ⟨dx, vs, e, r⟩ := h; exact ⟨dx, vs, e, RepKs.take r l⟩
  | dead => exact h
  | frz _ _ _ => exact ⟨h.1, RepKs.take h.2 l⟩
  | tup xs => obtain ⟨vs, e, r⟩ := h; exact ⟨vs, e, RepVs.take r l⟩
theorem Core.take (C : Core K B G ps cs H) {n : Nat} (hn : B.As.length ≤ n) (l : (cs.take n).all (CC.lt n) = true) : Core K B G (ps.take n) (cs.take n) H where
  g0 := C.g0
  h0 := C.h0
  gh := C.gh
  nw := C.nw
  len := by rw [List.length_take, List.length_take, C.len]
  pre := by
    obtain ⟨t, e⟩ := C.pre
    rw [← e, List.take_append, List.take_of_length_le hn]
    exact List.prefix_append _ _
  nd := C.nd.sublist (List.take_sublist _ _)
  cell k p c e hc := by
    have hk : k < n := by
      have := (List.getElem?_eq_some_iff.mp e).1
      rw [List.length_take] at this
      omega
    have hl : c.lt n = true := List.all_eq_true.mp l c (List.mem_of_getElem? hc)
    rw [List.getElem?_take_of_lt hk] at e hc
    obtain ⟨h1, h2, h3⟩ := C.cell k p c e hc
    exact ⟨RepC.take h1 hl, h2, h3⟩
end
end DL
namespace DL
open PySem PySem.Spec PyProof.Rows L2

/-! ### statements -/
section
variable {X : Cx} {na : NA} {sl sl' : Sl} {cs cs1 cs2 cs3 : Cs} {s t u : SV} {pos : Pos} {x : Str} {E : DEnds} {N : List Str}
theorem dle_nx {K : PySem.W.Frag} {B : Bs} {G : Hp} {ps : List Addr} {D : Ends} {R : Sl → Cs → Prop} {T : L2.St → Hp → Prop} (L : DLe K B G ps E D)
    (h : ∀ sl cs G' ps' σ H, Core K B G' ps' cs H → Up G ps G' ps' → Slots K G' ps' σ sl → R sl cs → T σ H) : DLe K B G ps { E with nx := R } { D with nx := T } :=
  ⟨h, L.rt, L.bk, L.ct⟩
theorem sx_nil (h : E.nx sl cs) : SX X na [] sl cs E := sx_of pss_nil fun B G ps σ H hn C S D L => L.nx sl cs G ps σ H C (Up.refl _ _) S h
theorem sx_cons {st : Stmt} {rest : List Stmt} (h : S1 X na st sl cs { E with nx := fun sl' cs' => SX X na rest sl' cs' E }) : SX X na (st :: rest) sl cs E :=
  sx_of (pss_cons ps_any pss_any) fun B G ps σ H hn C S D L => h B G ps σ H hn C S _ (dle_nx L fun sl' cs' G' ps' σ' H' C' u S' r => r B G' ps' σ' H' hn C' S' D (L.up u))
theorem sx_one {st : Stmt} (h : S1 X na st sl cs E) : SX X na [st] sl cs E := sx_of (pss_one ps_any) h
theorem s1_pass (h : E.nx sl cs) : S1 X na (.Pass pos) sl cs E := s1_of ps_pass fun B G ps σ H hn C S D L => L.nx sl cs G ps σ H C (Up.refl _ _) S h
theorem s1_break (h : E.bk sl cs) : S1 X na (.Break pos) sl cs E := s1_of ps_break fun B G ps σ H hn C S D L => L.bk sl cs G ps σ H C (Up.refl _ _) S h
theorem s1_continue (h : E.ct sl cs) : S1 X na (.Continue pos) sl cs E := s1_of ps_continue fun B G ps σ H hn C S D L => L.ct sl cs G ps σ H C (Up.refl _ _) S h
theorem s1_ret {e : Expr} (h : EV X na e sl cs s cs1) (q : E.rt s cs1) : S1 X na (.Return (some e) pos) sl cs E :=
  s1_of (ps_ret pe_any) fun B G ps σ H hn C S D L => h B G ps σ H hn C S _ fun v G1 ps1 H1 C1 u1 r1 => L.rt s cs1 G1 ps1 v H1 C1 u1 r1 q
theorem s1_retN (q : E.rt (.val .none) cs) : S1 X na (.Return none pos) sl cs E :=
  s1_of ps_retN fun B G ps σ H hn C S D L => L.rt (.val .none) cs G ps .non H C (Up.refl _ _) Rep.non q
theorem s1_expr {e : Expr} (h : EV X na e sl cs s cs1) (q : E.nx sl cs1) (hs : swapsWith e none pos.line X.env = pure false := by rfl) : S1 X na (.Expr e pos) sl cs E :=
  s1_of (ps_expr pe_any hs) fun B G ps σ H hn C S D L => h B G ps σ H hn C S _ fun v G1 ps1 H1 C1 u1 r1 => L.nx sl cs1 G1 ps1 σ H1 C1 u1 (Slots.mono u1 S) q
theorem s1_if {c : Expr} {a b : List Stmt} {k : Bool} (h : TV X na c sl cs k cs1) (h1 : k = true → SX X na a sl cs1 E) (h2 : k = false → SX X na b sl cs1 E) : S1 X na (.If c a b pos) sl cs E :=
  s1_of (ps_if pt_any pss_any pss_any) fun B G ps σ H hn C S D L => h B G ps σ H hn C S _ fun G1 ps1 H1 C1 u1 => by
    cases k with
    | true => exact h1 rfl B G1 ps1 σ H1 hn C1 (Slots.mono u1 S) D (L.up u1)
    | false => exact h2 rfl B G1 ps1 σ H1 hn C1 (Slots.mono u1 S) D (L.up u1)
/-- names that may be stored -/
structure TabL (X : Cx) (m : Nat) : Prop where
  nd : X.N.Nodup
  loc : ∀ x ∈ X.N.take m, Loc X.env.scope x
  fn : ∀ x, X.fn x = true
theorem Slots.set {K : PySem.W.Frag} {G : Hp} {ps : List Addr} {σ : L2.St} {v : V} (S : Slots K G ps σ sl) (r : RepV K G ps v s) (i : Nat) : Slots K G ps (σ.set i (some v)) (sl.set i (some s)) := pd_set (show SlotR K G ps (some v) (some s) from r) i S
theorem s1_set {e : Expr} {pos' : Pos} {i m : Nat} (T : TabL X m) (hN : X.N = N) (h : EV X na e sl cs s cs1) (p : Put N sl x i s sl') (q : E.nx sl' cs1) (hi : Nat.blt i m = true) (hs : swapsWith e (some (.Name x pos')) pos.line X.env = pure false := by rfl) :
    S1 X na (.Assign [.Name x pos'] e pos) sl cs E := by
  subst hN
  obtain ⟨h1, h2⟩ := p.at
  subst h2
  exact s1_of (ps_set T.nd h1 (T.loc x (mem_take h1 hi)) pe_any hs (.inl (T.fn x))) fun B G ps σ H hn C S D L => h B G ps σ H hn C S _ fun v G1 ps1 H1 C1 u1 r1 =>
    L.nx _ cs1 G1 ps1 _ H1 C1 u1 (Slots.set (Slots.mono u1 S) r1 i) q
theorem s1_aug {e : Expr} {pos' : Pos} {op : Operator} {f : Int → Int → Int} {i m : Nat} {a b : Int} (T : TabL X m) (hN : X.N = N) (ho : PIp X op (ipI f)) (l : Lk N sl x i (.val (.int a))) (h : EV X na e sl cs (.val (.int b)) cs1) (p : Put N sl x i (.val (.int (f a b))) sl') (q : E.nx sl' cs1) (hi : Nat.blt i m = true) :
    S1 X na (.AugAssign (.Name x pos') op e pos) sl cs E := by
  subst hN
  obtain ⟨h1, h2⟩ := p.at
  subst h2
  obtain ⟨_, h3⟩ := l.at
  refine s1_of (ps_aug T.nd h1 (T.loc x (mem_take h1 hi)) pe_any ho (.inl (T.fn x))) fun B G ps σ H hn C S D L => ?_
  obtain ⟨o, hso, hr⟩ := pd_get S h3
  cases o with
  | none => exact hr.elim
  | some w =>
    refine ⟨w, hso, h B G ps σ H hn C S _ fun v G1 ps1 H1 C1 u1 r1 => ⟨a, b, Rep.intI hr, Rep.intI r1, ?_⟩⟩
    exact L.nx _ cs1 G1 ps1 _ H1 C1 u1 (Slots.set (Slots.mono u1 S) (show RepV X.K G1 ps1 (.int (f a b)) (.val (.int (f a b))) from Rep.int _) i) q

/-! ### targets -/
def DG (K : PySem.W.Frag) (na : NA) (tg : TG) (s : SV) (sl : Sl) (cs : Cs) (R : Sl → Cs → Prop) : Prop := ∀ B G ps σ H v, na.ok B → Core K B G ps cs H → Slots K G ps σ sl → RepV K G ps v s → ∀ Q : L2.St → Hp → Prop,
  (∀ sl' cs' G' ps' σ' H', Core K B G' ps' cs' H' → Up G ps G' ps' → Slots K G' ps' σ' sl' → R sl' cs' → Q σ' H') → tg v σ H Q
def DGs (K : PySem.W.Frag) (na : NA) (tg : TGs) (ss : List SV) (sl : Sl) (cs : Cs) (R : Sl → Cs → Prop) : Prop := ∀ B G ps σ H vs, na.ok B → Core K B G ps cs H → Slots K G ps σ sl → RepVs K G ps vs ss → ∀ Q : L2.St → Hp → Prop,
  (∀ sl' cs' G' ps' σ' H', Core K B G' ps' cs' H' → Up G ps G' ps' → Slots K G' ps' σ' sl' → R sl' cs' → Q σ' H') → tg vs σ H Q
def anyG (X : Cx) (e : Expr) : TG := fun v σ H Q => ∃ t, PG X e t ∧ t v σ H Q
def anyGs (X : Cx) (es : List Expr) : TGs := fun v σ H Q => ∃ t, PGs X es t ∧ t v σ H Q
theorem pg_any {e : Expr} : PG X e (anyG X e) := ⟨fun pins s σ H v u Q I r ⟨_, p, h⟩ => p.run pins s σ H v u Q I r h⟩
theorem pgs_any {es : List Expr} : PGs X es (anyGs X es) := ⟨fun pins s σ H vs us Q I r ⟨_, p, h⟩ => p.run pins s σ H vs us Q I r h⟩
def GX (X : Cx) (na : NA) (e : Expr) (s : SV) (sl : Sl) (cs : Cs) (R : Sl → Cs → Prop) : Prop := DG X.K na (anyG X e) s sl cs R
def GXs (X : Cx) (na : NA) (es : List Expr) (ss : List SV) (sl : Sl) (cs : Cs) (R : Sl → Cs → Prop) : Prop := DGs X.K na (anyGs X es) ss sl cs R
variable {R : Sl → Cs → Prop}
theorem gx_of {e : Expr} {t : TG} (p : PG X e t) (d : DG X.K na t s sl cs R) : GX X na e s sl cs R := fun B G ps σ H v hn C S r Q q => ⟨t, p, d B G ps σ H v hn C S r Q q⟩
theorem gxs_of {e : List Expr} {t : TGs} {ss : List SV} (p : PGs X e t) (d : DGs X.K na t ss sl cs R) : GXs X na e ss sl cs R := fun B G ps σ H v hn C S r Q q => ⟨t, p, d B G ps σ H v hn C S r Q q⟩
theorem gx_name {i m : Nat} (T : TabL X m) (hN : X.N = N) (p : Put N sl x i s sl') (q : R sl' cs) (hi : Nat.blt i m = true) : GX X na (.Name x pos) s sl cs R := by
  subst hN
  obtain ⟨h1, h2⟩ := p.at
  subst h2
  exact gx_of (pg_name T.nd h1 (T.loc x (mem_take h1 hi)) (.inl (T.fn x))) fun B G ps σ H v hn C S r Q k => k _ cs G ps _ H C (Up.refl _ _) (Slots.set S r i) q
theorem gxs_nil (q : R sl cs) : GXs X na [] [] sl cs R := gxs_of pgs_nil fun B G ps σ H vs hn C S r Q k => by
  cases r
  exact ⟨rfl, k sl cs G ps σ H C (Up.refl _ _) S q⟩
theorem gxs_cons {e : Expr} {es : List Expr} {ss : List SV} (h : GX X na e s sl cs fun sl' cs' => GXs X na es ss sl' cs' R)
    (hs : (assignEach (e :: es) X.env).map (·.2) = assign e X.env :: (assignEach es X.env).map (·.2) := by rfl) : GXs X na (e :: es) (s :: ss) sl cs R :=
  gxs_of (pgs_cons pg_any pgs_any hs) fun B G ps σ H vs hn C S r Q k => by
    cases r with
    | cons r1 rr =>
      exact ⟨_, _, rfl, h B G ps σ H _ hn C S r1 _ fun sl' cs' G1 ps1 σ1 H1 C1 u1 S1 q => q B G1 ps1 σ1 H1 _ hn C1 S1 (RepVs.mono u1 rr) _ fun sl2 cs2 G2 ps2 σ2 H2 C2 u2 => k sl2 cs2 G2 ps2 σ2 H2 C2 (u1.trans u2)⟩
theorem Reps.vs {K : PySem.W.Frag} {G : Hp} {ps : List Addr} : ∀ {vs : List V} {ds : List PyData}, Reps K G vs ds → RepVs K G ps vs (ds.map SV.val)
  | _, _, .nil => .nil
  | _, _, .cons h t => .cons h (Reps.vs t)
theorem Reps.ofVs {K : PySem.W.Frag} {G : Hp} {ps : List Addr} : ∀ {vs : List V} {ds : List PyData}, RepVs K G ps vs (ds.map SV.val) → Reps K G vs ds
  | _, [], h => by cases h; exact .nil
  | _, d :: r, h => by
    cases h with
    | cons a b => exact .cons a (Reps.ofVs b)
theorem gx_tup {es : List Expr} {k : Nat} {ds : List PyData} {n : Nat} (hc : X.calm = true) (h : GXs X na es (ds.map SV.val) sl cs R) (hl : ds.length = n)
    (hn : (assignEach es X.env).length = n := by rfl) (hst : (assignEach es X.env).findIdx? (·.1) = none := by rfl) : GX X na (.Tuple es k pos) (.val (.tuple ds)) sl cs R :=
  gx_of (pg_tup hc pgs_any hn hst) fun B G ps σ H v hn C S r Q q => by
    cases (r : Rep _ _ _ _) with
    | tup h1 h2 => exact ⟨_, _, rfl, Same.seqT C.gh h1, h2.length.trans hl, h B G ps σ H _ hn C S (Reps.vs h2) Q q⟩
theorem s1_asg {tg e : Expr} (h : EV X na e sl cs s cs1) (g : GX X na tg s sl cs1 E.nx) (hs : swapsWithSole [tg] e pos.line X.env = pure false := by rfl) (hw : swappedStores [tg] e X.env = pure none := by rfl)
    (h1 : (assignEach [tg] X.env).map (·.2) = [assign tg X.env] := by rfl) : S1 X na (.Assign [tg] e pos) sl cs E :=
  s1_of (ps_asg pe_any pg_any hs hw h1) fun B G ps σ H hn C S D L => h B G ps σ H hn C S _ fun v G1 ps1 H1 C1 u1 r1 =>
    g B G1 ps1 σ H1 v hn C1 (Slots.mono u1 S) r1 _ fun sl' cs' G2 ps2 σ2 H2 C2 u2 S2 q => L.nx sl' cs' G2 ps2 σ2 H2 C2 (u1.trans u2) S2 q
end
end DL
namespace DL
open PySem PySem.Spec PyProof.Rows L2

/-! ### cells, by place -/
inductive PutC : Cs → Nat → CC → Cs → Prop
  | here {c c' : CC} {cs : Cs} : PutC (c :: cs) 0 c' (c' :: cs)
  | there {c c' : CC} {cs cs' : Cs} {k : Nat} : PutC cs k c' cs' → PutC (c :: cs) (k + 1) c' (c :: cs')
inductive AppC : Cs → CC → Nat → Cs → Prop
  | nil {c : CC} : AppC [] c 0 [c]
  | cons {c c' : CC} {cs cs' : Cs} {n : Nat} : AppC cs c n cs' → AppC (c' :: cs) c (n + 1) (c' :: cs')
theorem PutC.at : ∀ {cs cs' : Cs} {k : Nat} {c : CC}, PutC cs k c cs' → cs' = cs.set k c
  | _, _, _, _, .here => rfl
  | _, _, _, _, .there h => by rw [h.at]; rfl
theorem PutC.of {cs : Cs} {k : Nat} {c : CC} (h : k < cs.length) : PutC cs k c (cs.set k c) := by
  induction cs generalizing k with
  | nil => exact absurd h (Nat.not_lt_zero _)
  | cons d r ih =>
    cases k with
    | zero => exact .here
    | succ k => exact .there (ih (Nat.lt_of_succ_lt_succ h))
theorem AppC.at : ∀ {cs cs' : Cs} {n : Nat} {c : CC}, AppC cs c n cs' → n = cs.length ∧ cs' = cs ++ [c]
  | _, _, _, _, .nil => ⟨rfl, rfl⟩
  | _, _, _, _, .cons h => by
    obtain ⟨a, b⟩ := h.at
    exact ⟨congrArg (· + 1) a, by rw [b]; rfl⟩
theorem AppC.of (cs : Cs) (c : CC) : AppC cs c cs.length (cs ++ [c]) := by
  induction cs with
  | nil => exact .nil
  | cons d r ih => exact .cons ih

/-! ### what is read as a list -/
inductive IsL (cs : Cs) : SV → List SV → Prop
  | val {ds : List PyData} : IsL cs (.val (.list ds)) (ds.map SV.val)
  | cell {k : Nat} {xs : List SV} : cs[k]? = some (.lst xs) → IsL cs (.cell k) xs
section
variable {K : PySem.W.Frag} {B : Bs} {G : Hp} {ps : List Addr} {cs cs' : Cs} {H : Hp} {v : V} {s : SV} {xs : List SV}
theorem Core.cellAt (C : Core K B G ps cs H) {k : Nat} {c : CC} (r : RepV K G ps v (.cell k)) (h : cs[k]? = some c) : ∃ p, v = .ref p ∧ ps[k]? = some p ∧ RepC K G ps H p c := by
  obtain ⟨p, e, hv⟩ := r
  exact ⟨p, hv, e, (C.cell k p c e h).1⟩
theorem IsL.sq (C : Core K B G ps cs H) (r : RepV K G ps v s) (h : IsL cs s xs) : ∃ a vs, v = .ref a ∧ SqL K H a vs ∧ RepVs K G ps vs xs := by
  cases h with
  | val =>
    cases (r : Rep _ _ _ _) with
    | lst h1 h2 => exact ⟨_, _, rfl, C.gh.seq h1, Reps.vs h2⟩
  | cell h =>
    obtain ⟨p, hv, _, vs, h1, h2⟩ := C.cellAt r h
    exact ⟨p, vs, hv, SqL.of h1, h2⟩
theorem Rep.tupI {ds : List PyData} (r : Rep K G v (.tuple ds)) : ∃ a vs, v = .ref a ∧ SqT K G a vs ∧ Reps K G vs ds := by
  cases r with
  | tup h1 h2 => exact ⟨_, _, rfl, h1, h2⟩
theorem Rep.lstI {ds : List PyData} (r : Rep K G v (.list ds)) : ∃ a vs, v = .ref a ∧ SqL K G a vs ∧ Reps K G vs ds := by
  cases r with
  | lst h1 h2 => exact ⟨_, _, rfl, h1, h2⟩
theorem Core.newTup (C : Core K B G ps cs H) {vs : List V} {ds : List PyData} (r : Reps K G vs ds) {Q : VK} (q : ∀ v G' ps' H', Core K B G' ps' cs H' → Up G ps G' ps' → RepV K G' ps' v (.val (.tuple ds)) → Q v H') : ∀ p, H p = none → Q (.ref p) (upd H p (.tup vs)) := fun p hp =>
  q _ _ ps _ (C.alloc (.tup vs) hp) ⟨Same.new (C.freeG hp), List.prefix_refl _⟩ (Rep.tup (SqT.of upd_same) (Reps.mono (Same.new (C.freeG hp)) r))
theorem Core.newLst (C : Core K B G ps cs H) {vs : List V} {ds : List PyData} (r : Reps K G vs ds) {Q : VK} (q : ∀ v G' ps' H', Core K B G' ps' cs H' → Up G ps G' ps' → RepV K G' ps' v (.val (.list ds)) → Q v H') : ∀ p, H p = none → Q (.ref p) (upd H p (.lst vs)) := fun p hp =>
  q _ _ ps _ (C.alloc (.lst vs) hp) ⟨Same.new (C.freeG hp), List.prefix_refl _⟩ (Rep.lst (SqL.of upd_same) (Reps.mono (Same.new (C.freeG hp)) r))
theorem pre_snoc_get (ps : List Addr) (p : Addr) : (ps ++ [p])[ps.length]? = some p := by
  rw [List.getElem?_append_right (Nat.le_refl _), Nat.sub_self]
  rfl
theorem Core.newCell (C : Core K B G ps cs H) {o : HO} {c : CC} {n : Nat} (a : AppC cs c n cs') (r : ∀ p, H p = none → RepC K G (ps ++ [p]) (upd H p o) p c) {Q : VK} (q : ∀ v G' ps' H', Core K B G' ps' cs' H' → Up G ps G' ps' → RepV K G' ps' v (.cell n) → Q v H') : ∀ p, H p = none → Q (.ref p) (upd H p o) := fun p hp => by
  obtain ⟨rfl, rfl⟩ := a.at
  exact q _ _ _ _ (C.cellNew hp (r p hp)) ⟨Same.refl _, List.prefix_append _ _⟩ ⟨p, by rw [← C.len]; exact pre_snoc_get ps p, rfl⟩
end
theorem sz {n : Nat} (h : n ≤ 1000000) : n ≤ sizeLine := Nat.le_trans h (by rw [sizeLine_eq]; decide)
theorem szl {n : Nat} (h : n ≤ 1000000) : n < sizeLine := Nat.lt_of_le_of_lt h (by rw [sizeLine_eq]; decide)

section
variable {X : Cx} {na : NA} {sl sl' : Sl} {cs cs1 cs2 cs3 : Cs} {s t u : SV} {pos : Pos} {x : Str} {E : DEnds} {N : List Str}
/-! ### displays -/
def AD (X : Cx) (na : NA) (es : List Expr) (sl : Sl) (cs : Cs) (ds : List PyData) (cs' : Cs) : Prop := AV X na es sl cs (ds.map SV.val) cs'
theorem ad_nil : AD X na [] sl cs [] cs := av_nil
theorem ad_cons {e : Expr} {es : List Expr} {d : PyData} {ds : List PyData} (ha : EV X na e sl cs (.val d) cs1) (hr : AD X na es sl cs1 ds cs2) (hs : starEach (e :: es) X.env = (false, eval e X.env) :: starEach es X.env := by rfl) : AD X na (e :: es) sl cs (d :: ds) cs2 := av_cons ha hr hs
theorem ev_tup {es : List Expr} {k : Nat} {ds : List PyData} (h : AD X na es sl cs ds cs1) (hz : Nat.ble ds.length 1000000 = true) : EV X na (.Tuple es k pos) sl cs (.val (.tuple ds)) cs1 :=
  ev_of (pe_tup pa_any) fun B G ps σ H hn C S Q q => h B G ps σ H hn C S _ fun vs G1 ps1 H1 C1 u1 r1 => by
    have r := Reps.ofVs r1
    exact ⟨sz (by rw [r.length]; exact Nat.le_of_ble_eq_true hz), C1.newTup r fun v G2 ps2 H2 C2 u2 => q v G2 ps2 H2 C2 (u1.trans u2)⟩
theorem ev_lstV {es : List Expr} {ds : List PyData} (h : AD X na es sl cs ds cs1) (hz : Nat.ble ds.length 1000000 = true) : EV X na (.List es pos) sl cs (.val (.list ds)) cs1 :=
  ev_of (pe_lst pa_any) fun B G ps σ H hn C S Q q => h B G ps σ H hn C S _ fun vs G1 ps1 H1 C1 u1 r1 => by
    have r := Reps.ofVs r1
    exact ⟨sz (by rw [r.length]; exact Nat.le_of_ble_eq_true hz), C1.newLst r fun v G2 ps2 H2 C2 u2 => q v G2 ps2 H2 C2 (u1.trans u2)⟩
theorem ev_lstC {es : List Expr} {ss : List SV} {n : Nat} (h : AV X na es sl cs ss cs1) (a : AppC cs1 (.lst ss) n cs2) (hz : Nat.ble ss.length 1000000 = true) : EV X na (.List es pos) sl cs (.cell n) cs2 :=
  ev_of (pe_lst pa_any) fun B G ps σ H hn C S Q q => h B G ps σ H hn C S _ fun vs G1 ps1 H1 C1 u1 r1 =>
    ⟨sz (by rw [Paired.length r1]; exact Nat.le_of_ble_eq_true hz), C1.newCell a (fun p hp => ⟨vs, upd_same, RepVs.mono ⟨Same.refl _, List.prefix_append _ _⟩ r1⟩) fun v G2 ps2 H2 C2 u2 => q v G2 ps2 H2 C2 (u1.trans u2)⟩
theorem ev_dict0 {n : Nat} (a : AppC cs (.dct []) n cs1) : EV X na (.Dict [] [] pos) sl cs (.cell n) cs1 :=
  ev_of pe_dnewK fun B G ps σ H hn C S Q q => C.newCell a (fun p hp => ⟨[], upd_same, .nil⟩) q

/-! ### items -/
theorem ev_ixT {a b : Expr} {ds : List PyData} {i : Int} {d : PyData} (ha : EV X na a sl cs (.val (.tuple ds)) cs1) (hb : EV X na b sl cs1 (.val (.int i)) cs2) (h : atI ds i = some d) (hs : PlainIx b := by exact fun _ _ => rfl) : EV X na (.Subscript a b pos) sl cs (.val d) cs2 :=
  ev_of (pe_ix ix_tup pe_any pe_any hs) (de_op ha hb fun B G ps H v w hn C r1 r2 Q q => by
    obtain ⟨p, vs, rfl, h1, h2⟩ := Rep.tupI r1
    obtain ⟨j, e1, e2, e3, e4, e5⟩ := atI_get h
    have e6 : ixN ds.length i = some j ∧ ds[j]? = some d := by
      unfold atI at h
      cases q : ixN ds.length i with
      | none => rw [q] at h; cases h
      | some j' =>
        rw [q] at h
        have := (ixN_seq q).1
        rw [this] at e1
        cases e1
        exact ⟨rfl, h⟩
    obtain ⟨z, hz, rz⟩ := h2.get e6.2
    refine ⟨p, vs, i, z, rfl, Rep.intI r2, Same.seqT C.gh h1, ?_, q z G ps H C (Up.refl _ _) rz⟩
    unfold atI
    rw [h2.length, e6.1]
    exact hz)
theorem ev_ixL {a b : Expr} {xs : List SV} {i : Int} (ha : EV X na a sl cs s cs1) (hb : EV X na b sl cs1 (.val (.int i)) cs2) (hl : IsL cs2 s xs) (h : atI xs i = some t) (hs : PlainIx b := by exact fun _ _ => rfl) : EV X na (.Subscript a b pos) sl cs t cs2 :=
  ev_of (pe_ix ix_list pe_any pe_any hs) (de_op ha hb fun B G ps H v w hn C r1 r2 Q q => by
    obtain ⟨p, vs, rfl, h1, h2⟩ := hl.sq C r1
    cases q' : ixN xs.length i with
    | none => unfold atI at h; rw [q'] at h; cases h
    | some j =>
      have h' : xs[j]? = some t := by unfold atI at h; rw [q'] at h; exact h
      obtain ⟨z, hz, rz⟩ := pd_get h2 h'
      refine ⟨p, vs, i, z, rfl, Rep.intI r2, h1, ?_, q z G ps H C (Up.refl _ _) rz⟩
      unfold atI
      rw [Paired.length h2, q']
      exact hz)
theorem atI_map {ds : List PyData} {i : Int} {d : PyData} (h : atI ds i = some d) : atI (ds.map SV.val) i = some (.val d) := by
  unfold atI at h ⊢
  rw [List.length_map]
  cases q : ixN ds.length i with
  | none => rw [q] at h; cases h
  | some j =>
    rw [q] at h
    show (ds.map SV.val)[j]? = _
    rw [List.getElem?_map, show ds[j]? = some d from h]
    rfl
theorem ev_ixLv {a b : Expr} {ds : List PyData} {i : Int} {d : PyData} (ha : EV X na a sl cs (.val (.list ds)) cs1) (hb : EV X na b sl cs1 (.val (.int i)) cs2) (h : atI ds i = some d) (hs : PlainIx b := by exact fun _ _ => rfl) : EV X na (.Subscript a b pos) sl cs (.val d) cs2 :=
  ev_ixL ha hb .val (atI_map h) hs
/-! ### built-ins by name -/
theorem ev_callB {e : Expr} {es : List Expr} {p : Pos} {id : String} {r : List V → Hp → VK → Prop} {ss : List SV} (hc : CallR X (.builtin id) r) (hv : bootBuiltins x = some (.builtin id)) (hg : Gl X x) (hm : X.mg x = none) (ha : AV X na (e :: es) sl cs ss cs1) (hr : RC X.K na r ss cs1 u cs2)
    (hn : x ≠ "__name__" := by decide) (hdb : (x == ("__debug__" : Str)) = false := by decide) (he : starEach (e :: es) X.env = (false, eval e X.env) :: starEach es X.env := by rfl) (hpl : (backTo pos (starEach es X.env)).any (·.1) = false := by rfl) : EV X na (.Call (.Name x p) (e :: es) [] pos) sl cs u cs2 :=
  ev_of (pe_callB hc hg hm hv pa_any hn hdb he hpl) (de_cb ha hr)
theorem ev_callTy {e : Expr} {es : List Expr} {p : Pos} {T : String} {r : List V → Hp → VK → Prop} {ss : List SV} (hc : CallR X (.type T) r) (hv : bootBuiltins x = some (.type T)) (hg : Gl X x) (hm : X.mg x = none) (ha : AV X na (e :: es) sl cs ss cs1) (hr : RC X.K na r ss cs1 u cs2)
    (hn : x ≠ "__name__" := by decide) (hdb : (x == ("__debug__" : Str)) = false := by decide) (he : starEach (e :: es) X.env = (false, eval e X.env) :: starEach es X.env := by rfl) (hpl : (backTo pos (starEach es X.env)).any (·.1) = false := by rfl) : EV X na (.Call (.Name x p) (e :: es) [] pos) sl cs u cs2 :=
  ev_of (pe_callTy hc hg hm hv pa_any hn hdb he hpl) (de_cb ha hr)
section
variable {a : Expr} {p : Pos}
theorem rc1 {K : PySem.W.Frag} {r : List V → Hp → VK → Prop} (h : ∀ B G ps H v, na.ok B → Core K B G ps cs H → RepV K G ps v s → ∀ Q : VK, (∀ z G' ps' H', Core K B G' ps' cs1 H' → Up G ps G' ps' → RepV K G' ps' z u → Q z H') → r [v] H Q) : RC K na r [s] cs u cs1 := fun B G ps H vs hn C rr Q q => by
  cases rr with
  | cons r1 r2 =>
    cases r2
    exact h B G ps H _ hn C r1 Q q
theorem rc_lenL {xs : List SV} (hl : IsL cs s xs) : RC X.K na (fun xs H Q => ∃ p ys, xs = [.ref p] ∧ (SqL X.K H p ys ∨ SqT X.K H p ys) ∧ Q (.int ys.length) H) [s] cs (.val (.int (xs.length : Int))) cs := rc1 fun B G ps H v hn C r1 Q q => by
  obtain ⟨p, ws, rfl, h1, h2⟩ := hl.sq C r1
  exact ⟨p, ws, rfl, .inl h1, q _ G ps H C (Up.refl _ _) (by rw [Paired.length h2]; exact Rep.int _)⟩
theorem rc_lenLv {ds : List PyData} : RC X.K na (fun xs H Q => ∃ p ys, xs = [.ref p] ∧ (SqL X.K H p ys ∨ SqT X.K H p ys) ∧ Q (.int ys.length) H) [.val (.list ds)] cs (.val (.int (ds.length : Int))) cs := by
  have h := rc_lenL (X := X) (na := na) (IsL.val (cs := cs) (ds := ds))
  rw [List.length_map] at h
  exact h
theorem rc_lenT {ds : List PyData} : RC X.K na (fun xs H Q => ∃ p ys, xs = [.ref p] ∧ (SqL X.K H p ys ∨ SqT X.K H p ys) ∧ Q (.int ys.length) H) [.val (.tuple ds)] cs (.val (.int (ds.length : Int))) cs := rc1 fun B G ps H v hn C r1 Q q => by
  obtain ⟨p, ws, rfl, h1, h2⟩ := Rep.tupI r1
  exact ⟨p, ws, rfl, .inr (Same.seqT C.gh h1), q _ G ps H C (Up.refl _ _) (by rw [h2.length]; exact Rep.int _)⟩
theorem ev_len (hm : X.mg "len" = none) (hg : Gl X "len") (ha : EV X na a sl cs s cs1) (hr : RC X.K na (fun xs H Q => ∃ p ys, xs = [.ref p] ∧ (SqL X.K H p ys ∨ SqT X.K H p ys) ∧ Q (.int ys.length) H) [s] cs1 u cs1)
    (hs : starEach [a] X.env = (false, eval a X.env) :: starEach [] X.env := by rfl) : EV X na (.Call (.Name "len" p) [a] [] pos) sl cs u cs1 :=
  ev_callB call_len_seq boot_len hg hm (av_cons ha av_nil hs) hr (by decide) (by decide) hs
/-- tuple(x) of a list, of a tuple -/
theorem ev_tupleL {ds : List PyData} (hm : X.mg "tuple" = none) (hg : Gl X "tuple") (ha : EV X na a sl cs s cs1) (hl : IsL cs1 s (ds.map SV.val)) (hs : starEach [a] X.env = (false, eval a X.env) :: starEach [] X.env := by rfl) : EV X na (.Call (.Name "tuple" p) [a] [] pos) sl cs (.val (.tuple ds)) cs1 :=
  ev_callTy call_tuple_of (by decide +kernel) hg hm (av_cons ha av_nil hs) (rc1 fun B G ps H v hn C r1 Q q => by
    obtain ⟨p, ws, rfl, h1, h2⟩ := hl.sq C r1
    exact ⟨p, ws, rfl, .inl ⟨h1, C.newTup (Reps.ofVs h2) q⟩⟩) (by decide) (by decide) hs
theorem ev_tupleT {ds : List PyData} (hm : X.mg "tuple" = none) (hg : Gl X "tuple") (ha : EV X na a sl cs (.val (.tuple ds)) cs1) (hs : starEach [a] X.env = (false, eval a X.env) :: starEach [] X.env := by rfl) : EV X na (.Call (.Name "tuple" p) [a] [] pos) sl cs (.val (.tuple ds)) cs1 :=
  ev_callTy call_tuple_of (by decide +kernel) hg hm (av_cons ha av_nil hs) (rc1 fun B G ps H v hn C r1 Q q => by
    have r0 := r1
    obtain ⟨p, ws, rfl, h1, h2⟩ := Rep.tupI r1
    exact ⟨p, ws, rfl, .inr ⟨Same.seqT C.gh h1, q _ G ps H C (Up.refl _ _) r0⟩⟩) (by decide) (by decide) hs
/-- list(x): of a list or a tuple -/
inductive IsQ (cs : Cs) : SV → List SV → Prop
  | l {s : SV} {xs : List SV} : IsL cs s xs → IsQ cs s xs
  | t {ds : List PyData} : IsQ cs (.val (.tuple ds)) (ds.map SV.val)
theorem IsQ.sq {K : PySem.W.Frag} {B : Bs} {G : Hp} {ps : List Addr} {H : Hp} {v : V} {xs : List SV} (C : Core K B G ps cs H) (r : RepV K G ps v s) (h : IsQ cs s xs) : ∃ a vs, v = .ref a ∧ (SqL K H a vs ∨ SqT K H a vs) ∧ RepVs K G ps vs xs := by
  cases h with
  | l h =>
    obtain ⟨a, vs, e, h1, h2⟩ := h.sq C r
    exact ⟨a, vs, e, .inl h1, h2⟩
  | t =>
    obtain ⟨a, vs, e, h1, h2⟩ := Rep.tupI r
    exact ⟨a, vs, e, .inr (Same.seqT C.gh h1), Reps.vs h2⟩
theorem ev_listC {xs : List SV} {n : Nat} (hm : X.mg "list" = none) (hg : Gl X "list") (ha : EV X na a sl cs s cs1) (hl : IsQ cs1 s xs) (ac : AppC cs1 (.lst xs) n cs2) (hs : starEach [a] X.env = (false, eval a X.env) :: starEach [] X.env := by rfl) : EV X na (.Call (.Name "list" p) [a] [] pos) sl cs (.cell n) cs2 :=
  ev_callTy call_list_of (by decide +kernel) hg hm (av_cons ha av_nil hs) (rc1 fun B G ps H v hn C r1 Q q => by
    obtain ⟨p, ws, rfl, h1, h2⟩ := hl.sq C r1
    exact ⟨p, ws, rfl, h1, C.newCell ac (fun p hp => ⟨ws, upd_same, RepVs.mono ⟨Same.refl _, List.prefix_append _ _⟩ h2⟩) q⟩) (by decide) (by decide) hs
theorem ev_listV {ds : List PyData} (hm : X.mg "list" = none) (hg : Gl X "list") (ha : EV X na a sl cs s cs1) (hl : IsQ cs1 s (ds.map SV.val)) (hs : starEach [a] X.env = (false, eval a X.env) :: starEach [] X.env := by rfl) : EV X na (.Call (.Name "list" p) [a] [] pos) sl cs (.val (.list ds)) cs1 :=
  ev_callTy call_list_of (by decide +kernel) hg hm (av_cons ha av_nil hs) (rc1 fun B G ps H v hn C r1 Q q => by
    obtain ⟨p, ws, rfl, h1, h2⟩ := hl.sq C r1
    exact ⟨p, ws, rfl, h1, C.newLst (Reps.ofVs h2) q⟩) (by decide) (by decide) hs
theorem rc_ints2 {K : PySem.W.Frag} {i j : Int} {f : Int → Int → Int} : RC K na (fun xs H Q => ∃ i j, xs = [.int i, .int j] ∧ Q (.int (f i j)) H) [.val (.int i), .val (.int j)] cs (.val (.int (f i j))) cs := fun B G ps H vs hn C r Q q => by
  cases r with
  | cons r1 r2 =>
    cases r2 with
    | cons r2 r3 =>
      cases r3
      exact ⟨i, j, by rw [Rep.intI r1, Rep.intI r2], q _ G ps H C (Up.refl _ _) (Rep.int _)⟩
theorem ev_max2 {b : Expr} {i j : Int} (hc : X.calm = true) (hm : X.mg "max" = none) (hg : Gl X "max") (ha : EV X na a sl cs (.val (.int i)) cs1) (hb : EV X na b sl cs1 (.val (.int j)) cs2) (hs : starEach [a, b] X.env = (false, eval a X.env) :: starEach [b] X.env := by rfl)
    (hs2 : starEach [b] X.env = (false, eval b X.env) :: starEach [] X.env := by rfl) (hpl : (backTo pos (starEach [b] X.env)).any (·.1) = false := by rfl) : EV X na (.Call (.Name "max" p) [a, b] [] pos) sl cs (.val (.int (if j > i then j else i))) cs2 :=
  ev_callB (call_max2 hc) (by decide +kernel) hg hm (av_cons ha (av_cons hb av_nil hs2) hs) (rc_ints2 (f := fun i j => if j > i then j else i)) (by decide) (by decide) hs hpl
theorem ev_min2 {b : Expr} {i j : Int} (hc : X.calm = true) (hm : X.mg "min" = none) (hg : Gl X "min") (ha : EV X na a sl cs (.val (.int i)) cs1) (hb : EV X na b sl cs1 (.val (.int j)) cs2) (hs : starEach [a, b] X.env = (false, eval a X.env) :: starEach [b] X.env := by rfl)
    (hs2 : starEach [b] X.env = (false, eval b X.env) :: starEach [] X.env := by rfl) (hpl : (backTo pos (starEach [b] X.env)).any (·.1) = false := by rfl) : EV X na (.Call (.Name "min" p) [a, b] [] pos) sl cs (.val (.int (if j < i then j else i))) cs2 :=
  ev_callB (call_min2 hc) (by decide +kernel) hg hm (av_cons ha (av_cons hb av_nil hs2) hs) (rc_ints2 (f := fun i j => if j < i then j else i)) (by decide) (by decide) hs hpl
/-- int(x) of a truth, of an int -/
theorem ev_intB {k : Bool} (hm : X.mg "int" = none) (hg : Gl X "int") (ha : EV X na a sl cs (.val (.bool k)) cs1) (hs : starEach [a] X.env = (false, eval a X.env) :: starEach [] X.env := by rfl) : EV X na (.Call (.Name "int" p) [a] [] pos) sl cs (.val (.int (if k then 1 else 0))) cs1 :=
  ev_callTy call_int1 (by decide +kernel) hg hm (av_cons ha av_nil hs) (rc1 fun B G ps H v hn C r1 Q q => .inr ⟨k, by rw [Rep.boolI r1], q _ G ps H C (Up.refl _ _) (Rep.int _)⟩) (by decide) (by decide) hs
end
/-! ### methods of a list, stores -/
theorem ev_append {o e : Expr} {apos : Pos} {k : Nat} {xs ys : List SV} (ho : EV X na o sl cs (.cell k) cs1) (he : EV X na e sl cs1 s cs2) (hc1 : cs1[k]? = some (.lst ys)) (hc : cs2[k]? = some (.lst xs)) (p : PutC cs2 k (.lst (xs ++ [s])) cs3) (hz : xs.length ≤ 1000000)
    (hs : starEach [e] X.env = (false, eval e X.env) :: starEach [] X.env := by rfl)
    (hbase : attributeBase o "append" X.env (eval o X.env) = eval o X.env := by rfl) (hfew : ((backTo pos (starEach (e :: []) X.env)).all (fun x => !x.1) && (backToKw pos (keywordEach [] X.env)).all (fun x => x.1.isSome)
      && decide ((e :: []).length + ([] : List Keyword).length + (if ([] : List Keyword).isEmpty then 0 else 1) < 30)) = true := by rfl)
    (hline : (apos.endLine == pos.line) = true := by rfl) (hplain : (backTo pos (starEach [] X.env)).any (·.1) = false := by rfl) :
    EV X na (.Call (.Attribute o "append" apos) [e] [] pos) sl cs (.val .none) cs3 :=
  ev_of (pe_bm PySem.F.plainAttrs_list PySem.F.slot_list_append PySem.F.type_list_append mt_append pe_any pa_any hbase hfew hline hs hplain) fun B G ps σ H hn C S Q q => ho B G ps σ H hn C S _ fun v G1 ps1 H1 C1 u1 r1 => by
    obtain ⟨a, ea, rfl⟩ := r1
    obtain ⟨ws, hw, _⟩ := (C1.cell k a _ ea hc1).1
    refine ⟨.inl ⟨rfl, ws, SqL.of hw⟩, av_cons he av_nil hs B G1 ps1 σ H1 hn C1 (Slots.mono u1 S) _ fun vs G2 ps2 H2 C2 u2 r2 => ?_⟩
    cases r2 with
    | cons r2 r3 =>
      cases r3
      have ea2 := pre_get u2.p ea
      obtain ⟨zs, hz2, rz⟩ := (C2.cell k a _ ea2 hc).1
      rw [p.at] at q
      exact ⟨a, zs, _, rfl, rfl, hz2, szl (by rw [Paired.length rz]; exact hz), q _ G2 ps2 _ (C2.put ea2 hc (by intro z; cases z) ⟨_, upd_same, pd_app rz (.cons r2 .nil)⟩) (u1.trans u2) Rep.non⟩
/-- xs[i] = v -/
theorem s1_lput {o i v : Expr} {p2 : Pos} {k j : Nat} {xs : List SV} {z : Int} (hv : EV X na v sl cs s cs1) (ho : EV X na o sl cs1 (.cell k) cs2) (hi : EV X na i sl cs2 (.val (.int z)) cs2) (hc : cs2[k]? = some (.lst xs)) (hj : ixN xs.length z = some j) (p : PutC cs2 k (.lst (xs.set j s)) cs3) (q : E.nx sl cs3)
    (hs : swapsWithSole [.Subscript o i p2] v pos.line X.env = pure false := by rfl) (hw : swappedStores [.Subscript o i p2] v X.env = pure none := by rfl)
    (h1 : (assignEach [.Subscript o i p2] X.env).map (·.2) = [assign (.Subscript o i p2) X.env] := by rfl)
    (ha : ∀ v, assign (.Subscript o i p2) X.env v = (do
      let ov ← holding [v] (eval o X.env)
      let iv ← holding [v, ov] (eval i X.env)
      standAt p2
      holding [v, ov, iv] (setItem ov iv v)
      release [v, ov, iv] []) := by intro _; rfl) : S1 X na (.Assign [.Subscript o i p2] v pos) sl cs E :=
  s1_of (ps_asg pe_any (pg_sub pe_any pe_any set_list ha) hs hw h1) fun B G ps σ H hn C S D L => hv B G ps σ H hn C S _ fun w G1 ps1 H1 C1 u1 r1 =>
    ho B G1 ps1 σ H1 hn C1 (Slots.mono u1 S) _ fun w2 G2 ps2 H2 C2 u2 r2 => hi B G2 ps2 σ H2 hn C2 (Slots.mono (u1.trans u2) S) _ fun w3 G3 ps3 H3 C3 u3 r3 => by
      have r2' := RepV.mono u3 r2
      obtain ⟨a, rfl, ea, ws, hws, rws⟩ := C3.cellAt r2' hc
      refine ⟨a, ws, z, j, rfl, Rep.intI r3, hws, by rw [Paired.length rws]; exact hj, ?_⟩
      rw [p.at] at q
      exact L.nx sl _ G3 ps3 σ _ (C3.put (c' := .lst (xs.set j s)) ea hc (by intro z; cases z) ⟨_, upd_same, pd_set (RepV.mono (u2.trans u3) r1) j rws⟩) ((u1.trans u2).trans u3) (Slots.mono ((u1.trans u2).trans u3) S) q
end
end DL
namespace DL
open PySem PySem.Spec PyProof.Rows L2

/-! ### cells that hold data alone -/
def SV.isVal : SV → Bool
  | .val _ => true
  | .cell _ => false
  | .obj _ => true
def CC.flat : CC → Bool
  | .lst xs => xs.all SV.isVal
  | .dct kvs => kvs.all fun kv => SV.isVal kv.2
  | .ins _ fs => fs.all fun kv => SV.isVal kv.2
  | .dead => true
  | .frz _ _ kvs => kvs.all fun kv => SV.isVal kv.2
  | .tup xs => xs.all SV.isVal
section
variable {K : PySem.W.Frag} {G G' : Hp} {ps ps' : List Addr} {H H' : Hp} {B : Bs} {cs cs' : Cs}
theorem RepV.flat {v : V} : ∀ {s : SV}, RepV K G ps v s → s.isVal = true → RepV K G ps' v s
  | .val _, h, _ => h
  | .cell _, _, l => by cases l
  | .obj _, h, _ => h
theorem RepVs.flat : ∀ {vs : List V} {ss : List SV}, RepVs K G ps vs ss → ss.all SV.isVal = true → RepVs K G ps' vs ss
  | _, _, .nil, _ => .nil
  | _, _, .cons h t, l => by
    rw [List.all_cons, Bool.and_eq_true] at l
    exact .cons (RepV.flat h l.1) (RepVs.flat t l.2)
theorem RepKs.flat {κ : Type} : ∀ {vs : List (κ × V)} {ss : List (κ × SV)}, RepKs K G ps vs ss → (ss.all fun kv => SV.isVal kv.2) = true → RepKs K G ps' vs ss
  | _, _, .nil, _ => .nil
  | _, _, .cons h t, l => by
    rw [List.all_cons, Bool.and_eq_true] at l
    exact .cons ⟨h.1, RepV.flat h.2 l.1⟩ (RepKs.flat t l.2)
theorem RepC.flat {p : Addr} {c : CC} (h : RepC K G ps H p c) (l : c.flat = true) : RepC K G ps' H p c := by
  cases c with
  | lst xs => obtain ⟨vs, e, r⟩ := h; exact ⟨vs, e, RepVs.flat r l⟩
  | dct xs => obtain ⟨vs, e, r⟩ := h; exact ⟨vs, e, RepKs.flat r l⟩
  | ins _ _ => obtain ⟨dx, vs, e, r⟩ := h; exact ⟨dx, vs, e, RepKs.flat r l⟩
  | dead => exact h
  | frz _ _ _ => exact ⟨h.1, RepKs.flat h.2 l⟩
  | tup xs => obtain ⟨vs, e, r⟩ := h; exact ⟨vs, e, RepVs.flat r l⟩
end
def pick (ps : List Addr) (κ : List Nat) : List Addr := κ.map fun k => ps.getD k 0
/-! ### cells within cells: numbers exchanged -/
def SV.ren (f : Nat → Nat) : SV → SV
  | .val d => .val d
  | .cell k => .cell (f k)
  | .obj a => .obj a
def CC.ren (f : Nat → Nat) : CC → CC
  | .lst xs => .lst (xs.map (SV.ren f))
  | .dct kvs => .dct (kvs.map fun kv => (kv.1, SV.ren f kv.2))
  | .ins C fs => .ins C (fs.map fun kv => (kv.1, SV.ren f kv.2))
  | .dead => .dead
  | .frz od us kvs => .frz od us (kvs.map fun kv => (kv.1, SV.ren f kv.2))
  | .tup xs => .tup (xs.map (SV.ren f))
/-- all cells within are among these -/
def SV.amid (P : Nat → Bool) : SV → Bool
  | .val _ => true
  | .cell k => P k
  | .obj _ => true
def CC.amid (P : Nat → Bool) : CC → Bool
  | .lst xs => xs.all (SV.amid P)
  | .dct kvs => kvs.all fun kv => SV.amid P kv.2
  | .ins _ fs => fs.all fun kv => SV.amid P kv.2
  | .dead => true
  | .frz _ _ kvs => kvs.all fun kv => SV.amid P kv.2
  | .tup xs => xs.all (SV.amid P)
section
variable {K : PySem.W.Frag} {G G' : Hp} {ps ps' : List Addr} {H H' : Hp} {B : Bs} {cs cs' : Cs} {f : Nat → Nat} {P : Nat → Bool}
theorem RepV.ren (hf : ∀ k p, P k = true → ps[k]? = some p → ps'[f k]? = some p) {v : V} : ∀ {s : SV}, RepV K G ps v s → s.amid P = true → RepV K G ps' v (s.ren f)
  | .val _, h, _ => h
  | .cell k, ⟨p, e, hv⟩, l => ⟨p, hf k p l e, hv⟩
  | .obj _, h, _ => h
theorem RepVs.ren (hf : ∀ k p, P k = true → ps[k]? = some p → ps'[f k]? = some p) : ∀ {vs : List V} {ss : List SV}, RepVs K G ps vs ss → ss.all (SV.amid P) = true → RepVs K G ps' vs (ss.map (SV.ren f))
  | _, _, .nil, _ => .nil
  | _, _, .cons h t, l => by
    rw [List.all_cons, Bool.and_eq_true] at l
    exact .cons (RepV.ren hf h l.1) (RepVs.ren hf t l.2)
theorem RepKs.ren {κ : Type} (hf : ∀ k p, P k = true → ps[k]? = some p → ps'[f k]? = some p) : ∀ {vs : List (κ × V)} {ss : List (κ × SV)}, RepKs K G ps vs ss → (ss.all fun kv => SV.amid P kv.2) = true → RepKs K G ps' vs (ss.map fun kv => (kv.1, SV.ren f kv.2))
  | _, _, .nil, _ => .nil
  | _, _, .cons h t, l => by
    rw [List.all_cons, Bool.and_eq_true] at l
    exact .cons ⟨h.1, RepV.ren hf h.2 l.1⟩ (RepKs.ren hf t l.2)
theorem RepC.ren (hf : ∀ k p, P k = true → ps[k]? = some p → ps'[f k]? = some p) {p : Addr} {c : CC} (h : RepC K G ps H p c) (l : c.amid P = true) : RepC K G ps' H p (c.ren f) := by
  cases c with
  | lst xs => obtain ⟨vs, e, r⟩ := h; exact ⟨vs, e, RepVs.ren hf r l⟩
  | dct xs => obtain ⟨vs, e, r⟩ := h; exact ⟨vs, e, RepKs.ren hf r l⟩
  | ins _ _ => obtain ⟨dx, vs, e, r⟩ := h; exact ⟨dx, vs, e, RepKs.ren hf r l⟩
  | dead => exact h
  | frz _ _ _ => exact ⟨h.1, RepKs.ren hf h.2 l⟩
  | tup xs => obtain ⟨vs, e, r⟩ := h; exact ⟨vs, e, RepVs.ren hf r l⟩
theorem ren_flat {c : CC} (h : c.flat = true) : c.ren f = c ∧ c.amid P = true := by
  have s1 : ∀ s : SV, s.isVal = true → s.ren f = s ∧ s.amid P = true := fun s h => by
    cases s with
    | val _ => exact ⟨rfl, rfl⟩
    | obj _ => exact ⟨rfl, rfl⟩
    | cell _ => cases h
  have l1 : ∀ xs : List SV, xs.all SV.isVal = true → xs.map (SV.ren f) = xs ∧ xs.all (SV.amid P) = true := fun xs h => by
    rw [List.all_eq_true] at h
    refine ⟨?_, List.all_eq_true.mpr fun x hx => (s1 x (h x hx)).2⟩
    rw [List.map_congr_left (g := id) fun x hx => (s1 x (h x hx)).1, List.map_id]
  have k1 : ∀ {κ : Type} (xs : List (κ × SV)), (xs.all fun kv => SV.isVal kv.2) = true → (xs.map fun kv => (kv.1, SV.ren f kv.2)) = xs ∧ (xs.all fun kv => SV.amid P kv.2) = true := fun xs h => by
    rw [List.all_eq_true] at h
    refine ⟨?_, List.all_eq_true.mpr fun x hx => (s1 x.2 (h x hx)).2⟩
    rw [List.map_congr_left (g := id) fun x hx => by rw [(s1 x.2 (h x hx)).1]; rfl, List.map_id]
  cases c with
  | lst xs => exact ⟨congrArg CC.lst (l1 xs h).1, (l1 xs h).2⟩
  | dct xs => exact ⟨congrArg CC.dct (k1 xs h).1, (k1 xs h).2⟩
  | ins C xs => exact ⟨congrArg (CC.ins C) (k1 xs h).1, (k1 xs h).2⟩
  | dead => exact ⟨rfl, rfl⟩
  | frz a b xs => exact ⟨congrArg (CC.frz a b) (k1 xs h).1, (k1 xs h).2⟩
  | tup xs => exact ⟨congrArg CC.tup (l1 xs h).1, (l1 xs h).2⟩
/-- c is told as c' when cells are numbered by f; only those of P stand within -/
inductive RenC (P : Nat → Bool) (f : Nat → Nat) : CC → CC → Prop
  | flat {c : CC} : c.flat = true → RenC P f c c
  | ren {c c' : CC} : c.amid P = true → c.ren f = c' → RenC P f c c'
theorem RenC.rep (hf : ∀ k p, P k = true → ps[k]? = some p → ps'[f k]? = some p) {p : Addr} {c c' : CC} (r : RenC P f c c') (h : RepC K G ps H p c) : RepC K G ps' H p c' := by
  cases r with
  | flat l => exact RepC.flat h l
  | ren l e => subst e; exact RepC.ren hf h l
theorem RenC.dead {c c' : CC} (r : RenC P f c c') : c = .dead ↔ c' = .dead := by
  cases r with
  | flat l => exact Iff.rfl
  | ren l e =>
    subst e
    cases c <;> simp [CC.ren]
end

/-- some cells alone, numbered anew -/
inductive SelR (cs : Cs) (κ0 : List Nat) : List Nat → Cs → Prop
  | nil : SelR cs κ0 [] []
  | cons {k : Nat} {c c' : CC} {κ : List Nat} {d : Cs} : cs[k]? = some c → RenC (fun k => κ0.contains k) (fun k => κ0.idxOf k) c c' → SelR cs κ0 κ d → SelR cs κ0 (k :: κ) (c' :: d)
section
variable {K : PySem.W.Frag} {G G' : Hp} {ps ps' : List Addr} {H H' : Hp} {B : Bs} {cs cs' : Cs}
theorem SelR.length {κ0 : List Nat} : ∀ {κ : List Nat} {d : Cs}, SelR cs κ0 κ d → κ.length = d.length
  | _, _, .nil => rfl
  | _, _, .cons _ _ t => congrArg (· + 1) t.length
theorem SelR.get {κ0 : List Nat} : ∀ {κ : List Nat} {d : Cs}, SelR cs κ0 κ d → ∀ {j k : Nat}, κ[j]? = some k → ∃ c c', d[j]? = some c' ∧ cs[k]? = some c ∧ RenC (fun k => κ0.contains k) (fun k => κ0.idxOf k) c c'
  | _, _, .nil, j, k, h => by simp at h
  | _, _, .cons a b t, 0, k, h => by
    simp at h
    subst h
    exact ⟨_, _, rfl, a, b⟩
  | _, _, .cons a b t, j + 1, k, h => by
    obtain ⟨c, c', h1, h2⟩ := t.get (j := j) (k := k) (by simpa using h)
    exact ⟨c, c', by simpa using h1, h2⟩
theorem pick_at (C : Core K B G ps cs H) {κ0 κ : List Nat} {d : Cs} (S : SelR cs κ0 κ d) {j : Nat} {p : Addr} (h : (pick ps κ)[j]? = some p) : ∃ k c c', κ[j]? = some k ∧ ps[k]? = some p ∧ d[j]? = some c' ∧ cs[k]? = some c ∧ RenC (fun k => κ0.contains k) (fun k => κ0.idxOf k) c c' := by
  unfold pick at h
  rw [List.getElem?_map] at h
  cases hk : κ[j]? with
  | none => rw [hk] at h; cases h
  | some k =>
    rw [hk] at h
    obtain ⟨c, c', h1, h2, h3⟩ := S.get hk
    obtain ⟨q, hq⟩ := C.addr h2
    have e : ps.getD k 0 = q := by simp [List.getD, hq]
    have h' : some (ps.getD k 0) = some p := h
    rw [e] at h'
    cases h'
    exact ⟨k, c, c', rfl, hq, h1, h2, h3⟩
theorem pickR_nd (C : Core K B G ps cs H) {κ0 : List Nat} : ∀ {κ : List Nat} {d : Cs}, SelR cs κ0 κ d → κ.Nodup → (pick ps κ).Nodup
  | _, _, .nil, _ => List.Pairwise.nil
  | k :: κ, _ :: d, .cons a b t, nd => by
    obtain ⟨n1, n2⟩ := List.nodup_cons.mp nd
    refine List.nodup_cons.mpr ⟨fun m => ?_, pickR_nd C t n2⟩
    obtain ⟨j, hj⟩ := List.getElem?_of_mem m
    obtain ⟨k', c', _, h1, h2, _⟩ := pick_at C t hj
    obtain ⟨q, hq⟩ := C.addr a
    have e : ps.getD k 0 = q := by simp [List.getD, hq]
    have h2' : ps[k']? = some (ps.getD k 0) := h2
    rw [e] at h2'
    have := nd_at C.nd hq h2'
    subst this
    exact n1 (List.mem_of_getElem? h1)
theorem pick_idx {κ : List Nat} {k : Nat} {p : Addr} (hk : κ.contains k = true) (e : ps[k]? = some p) : (pick ps κ)[κ.idxOf k]? = some p := by
  have hm : k ∈ κ := by simpa using hk
  have hl := List.idxOf_lt_length_iff.mpr hm
  unfold pick
  rw [List.getElem?_map, List.getElem?_eq_getElem hl, List.getElem_idxOf hl]
  show some (ps.getD k 0) = some p
  simp [List.getD, e]
theorem Core.subG (C : Core K B G ps cs H) {κ : List Nat} {d : Cs} (S : SelR cs κ κ d) (nd : κ.Nodup) (pre : B.As <+: pick ps κ) : Core K B G (pick ps κ) d H where
  g0 := C.g0
  h0 := C.h0
  gh := C.gh
  nw := C.nw
  len := by rw [← S.length]; exact List.length_map _
  pre := pre
  nd := pickR_nd C S nd
  cell j p c e hc := by
    obtain ⟨k, c0, c', h1, h2, h3, h4, h5⟩ := pick_at C S e
    rw [hc] at h3
    cases h3
    obtain ⟨g1, g2, g3⟩ := C.cell k p c0 h2 h4
    exact ⟨RenC.rep (fun k p hk e => pick_idx hk e) h5 g1, g2, g3.imp h5.dead.mp id⟩
end
/-! ### what is walked -/
/-- the items xs come one after another, while the cells are as GC says -/
def DI (K : PySem.W.Frag) (na : NA) (wi : TI) (sl : Sl) (cs : Cs) (xs : List SV) (GC : Cs → Prop) (cs1 : Cs) : Prop := ∀ B G ps σ H, na.ok B → Core K B G ps cs H → Slots K G ps σ sl → ∀ R : It → Hp → Prop,
  (∀ (J : It) (HG : Hp → Prop) (Y : Nat → Hp → V → Hp → Prop) G1 ps1 H1, Core K B G1 ps1 cs1 H1 → Up G ps G1 ps1 → Walk J xs.length HG Y →
    (∀ G' ps' cs' H', Core K B G' ps' cs' H' → Up G1 ps1 G' ps' → GC cs' → HG H') →
    (∀ i H' x H'' G' ps' cs', Y i H' x H'' → Core K B G' ps' cs' H' → Up G1 ps1 G' ps' → GC cs' → ∃ s G'', xs[i]? = some s ∧ Core K B G'' ps' cs' H'' ∧ Up G' ps' G'' ps' ∧ RepV K G'' ps' x s ∧ Same H' H'' ∧ ∀ b, G'' b ≠ none → G' b ≠ none ∨ H' b = none) → R J H1) → wi σ H R
def anyI (X : Cx) (tg iter : Expr) : TI := fun σ H R => ∃ wi, PI X tg iter wi ∧ wi σ H R
theorem pi_any {X : Cx} {tg iter : Expr} : PI X tg iter (anyI X tg iter) := ⟨fun pins s σ H R I ⟨_, p, h⟩ => p.run pins s σ H R I h⟩
def IV (X : Cx) (na : NA) (tg iter : Expr) (sl : Sl) (cs : Cs) (xs : List SV) (GC : Cs → Prop) (cs1 : Cs) : Prop := DI X.K na (anyI X tg iter) sl cs xs GC cs1
section
variable {X : Cx} {na : NA} {sl sl' : Sl} {cs cs1 cs2 cs3 : Cs} {s t u : SV} {pos : Pos} {x : Str} {E : DEnds} {N : List Str} {tg iter : Expr} {xs : List SV} {GC : Cs → Prop}
theorem iv_of {wi : TI} (p : PI X tg iter wi) (d : DI X.K na wi sl cs xs GC cs1) : IV X na tg iter sl cs xs GC cs1 := fun B G ps σ H hn C S R r => ⟨wi, p, d B G ps σ H hn C S R r⟩
/-! ### less is known -/
inductive Le : Sl → Sl → Prop
  | nil : Le [] []
  | same {o : Option SV} {a b : Sl} : Le a b → Le (o :: a) (o :: b)
  | lose {o : Option SV} {a b : Sl} : Le a b → Le (none :: a) (o :: b)
theorem Le.refl : ∀ a : Sl, Le a a
  | [] => .nil
  | _ :: r => .same (Le.refl r)
theorem Le.slots {K : PySem.W.Frag} {G : Hp} {ps : List Addr} : ∀ {a b : Sl} {σ : L2.St}, Le a b → Slots K G ps σ b → Slots K G ps σ a
  | _, _, _, .nil, h => h
  | _, _, _, .same l, .cons h t => .cons h (Le.slots l t)
  | _, _, _, .lose l, .cons _ t => .cons (by rename_i a _; cases a <;> trivial) (Le.slots l t)
theorem sx_weak {st : List Stmt} (l : Le sl' sl) (h : SX X na st sl' cs E) : SX X na st sl cs E := fun B G ps σ H hn C S D L => h B G ps σ H hn C (l.slots S) D L
theorem s1_weak {st : Stmt} (l : Le sl' sl) (h : S1 X na st sl' cs E) : S1 X na st sl cs E := fun B G ps σ H hn C S D L => h B G ps σ H hn C (l.slots S) D L
def okS (n : Nat) : Option SV → Bool
  | some s => SV.lt n s
  | none => true
def okA (κ : List Nat) : Option SV → Bool
  | some s => s.amid fun k => κ.contains k
  | none => true
/-- what holds of the slots and of the first n cells -/
inductive At (n : Nat) (a : Sl) (c : Cs) : Sl → Cs → Prop
  | same {b : Sl} : Le a b → At n a c b c
  | drop {b : Sl} {d : Cs} : Le a b → a.all (okS n) = true → c.all (CC.lt n) = true → d.take n = c → At n a c b d
  | gen {a' b : Sl} {d : Cs} (κs κ : List Nat) : Le a' b → List.range n ++ κs = κ → κ.Nodup → SelR d κ κ c → a'.all (okA κ) = true → a'.map (Option.map (SV.ren fun k => κ.idxOf k)) = a → At n a c b d
theorem Slots.ren {K : PySem.W.Frag} {G : Hp} {ps : List Addr} {κ : List Nat} : ∀ {σ : L2.St} {a : Sl}, Slots K G ps σ a → a.all (okA κ) = true → Slots K G (pick ps κ) σ (a.map (Option.map (SV.ren fun k => κ.idxOf k)))
  | _, _, .nil, _ => .nil
  | _, o :: _, .cons h t, l => by
    rw [List.all_cons, Bool.and_eq_true] at l
    refine .cons ?_ (Slots.ren t l.2)
    rename_i v _
    cases o with
    | none => cases v <;> trivial
    | some s =>
      cases v with
      | none => exact h
      | some v => exact RepV.ren (fun k p hk e => pick_idx hk e) h l.1
theorem pick_range {ps1 ps : List Addr} (h : ps1 <+: ps) : pick ps (List.range ps1.length) = ps1 := by
  obtain ⟨t, ht⟩ := h
  apply List.ext_getElem?
  intro i
  unfold pick
  rw [List.getElem?_map]
  by_cases hi : i < ps1.length
  · rw [List.getElem?_range hi, ← ht]
    show some ((ps1 ++ t).getD i 0) = _
    rw [List.getD_eq_getElem?_getD, List.getElem?_append_left hi, List.getElem?_eq_getElem hi]
    rfl
  · rw [List.getElem?_eq_none (by rw [List.length_range]; omega), List.getElem?_eq_none (by omega)]
    rfl
theorem Slots.take {K : PySem.W.Frag} {G : Hp} {ps : List Addr} {n : Nat} : ∀ {σ : L2.St} {a : Sl}, Slots K G ps σ a → a.all (okS n) = true → Slots K G (ps.take n) σ a
  | _, _, .nil, _ => .nil
  | _, o :: _, .cons h t, l => by
    rw [List.all_cons, Bool.and_eq_true] at l
    refine .cons ?_ (Slots.take t l.2)
    rename_i v _
    cases o with
    | none => cases v <;> trivial
    | some s =>
      cases v with
      | none => exact h
      | some v => exact RepV.take h l.1
theorem At.go {K : PySem.W.Frag} {B : Bs} {G1 G : Hp} {ps1 ps : List Addr} {n : Nat} {a b : Sl} {c d : Cs} {σ : L2.St} {H : Hp} (h : At n a c b d) (hn : ps1.length = n) (C : Core K B G ps d H) (hA : B.As.length ≤ n) (u : Up G1 ps1 G ps) (S : Slots K G ps σ b) :
    ∃ G' ps', Core K B G' ps' c H ∧ Up G1 ps1 G' ps' ∧ Slots K G' ps' σ a := by
  cases h with
  | same l => exact ⟨G, ps, C, u, l.slots S⟩
  | drop l h1 h2 h3 =>
    subst h3
    refine ⟨G, ps.take n, C.take hA h2, ⟨u.s, ?_⟩, Slots.take (l.slots S) h1⟩
    obtain ⟨t, e⟩ := u.p
    rw [← e, List.take_append, List.take_of_length_le (Nat.le_of_eq hn)]
    exact List.prefix_append _ _
  | gen κs κ l e nd S0 am e2 =>
    subst e
    subst e2
    subst hn
    have hp := pick_range u.p
    have pre2 : ps1 <+: pick ps (List.range ps1.length ++ κs) := by
      refine ⟨κs.map fun k => ps.getD k 0, ?_⟩
      conv => lhs; rw [← hp]
      unfold pick
      rw [List.map_append]
    have preB : B.As <+: ps1 := List.prefix_of_prefix_length_le C.pre u.p hA
    exact ⟨G, _, C.subG S0 nd (preB.trans pre2), ⟨u.s, pre2⟩, Slots.ren (l.slots S) am⟩
/-- a for; at a turn's end what was made within it is forgotten -/
theorem s1_for {body : List Stmt} (hp : PassesOwn (model X.prog X.w) X.A X.env X.xe) (hc : X.calm = true) (h : IV X na tg iter sl cs xs GC cs1) (I : Nat → Sl → Cs → Prop) (h0 : I 0 sl cs1) (hG : ∀ i sl' cs', I i sl' cs' → GC cs')
    (hs : ∀ i s sl' cs', xs[i]? = some s → I i sl' cs' → GX X na tg s sl' cs' fun sl2 cs2 => SX X na body sl2 cs2 { E with nx := fun sl3 cs3 => ∃ a c, I (i + 1) a c ∧ At cs1.length a c sl3 cs3, ct := fun sl3 cs3 => ∃ a c, I (i + 1) a c ∧ At cs1.length a c sl3 cs3, bk := E.nx })
    (hd : ∀ sl' cs', I xs.length sl' cs' → E.nx sl' cs')
    (hf : ∀ x, foldedSetIterable iter X.env x = pure x := by intro _; rfl) : S1 X na (.For tg iter body [] pos) sl cs E :=
  s1_of (ps_for hp hc pi_any pg_any pss_any hf) fun B G ps σ H hn C S D L => h B G ps σ H hn C S _ fun J HG Y G1 ps1 H1 C1 u1 W hHG hY =>
    have hA : B.As.length ≤ cs1.length := by
      rw [← C1.len]
      exact C1.pre.length_le
    for_it W (fun i σ' H' => ∃ G' ps' sl' cs', Core X.K B G' ps' cs' H' ∧ Up G1 ps1 G' ps' ∧ Slots X.K G' ps' σ' sl' ∧ I i sl' cs')
      ⟨G1, ps1, sl, cs1, C1, Up.refl _ _, Slots.mono u1 S, h0⟩
      (fun i σ' H' hi ⟨G', ps', sl', cs', C', u', S', q⟩ => hHG G' ps' cs' H' C' u' (hG i sl' cs' q))
      (fun i w σ' H' H'' hi ⟨G', ps', sl', cs', C', u', S', q⟩ y => by
        obtain ⟨s, G2, e, C2, u2, r2, _, _⟩ := hY i H' w H'' G' ps' cs' y C' u' (hG i sl' cs' q)
        refine hs i s sl' cs' e q B G2 ps' σ' H'' w hn C2 (Slots.mono u2 S') r2 _ fun sl3 cs3 G3 ps3 σ3 H3 C3 u3 S3 q3 => q3 B G3 ps3 σ3 H3 hn C3 S3 _ ?_
        have u13 : Up G1 ps1 G3 ps3 := (u'.trans u2).trans u3
        have nxt : ∀ sl4 cs4 G4 ps4 σ4 H4, Core X.K B G4 ps4 cs4 H4 → Up G3 ps3 G4 ps4 → Slots X.K G4 ps4 σ4 sl4 → (∃ a c, I (i + 1) a c ∧ At cs1.length a c sl4 cs4) → ∃ G' ps' sl' cs', Core X.K B G' ps' cs' H4 ∧ Up G1 ps1 G' ps' ∧ Slots X.K G' ps' σ4 sl' ∧ I (i + 1) sl' cs' := fun sl4 cs4 G4 ps4 σ4 H4 C4 u4 S4 ⟨a, c, qi, qa⟩ => by
          obtain ⟨G', ps', C', u', S'⟩ := qa.go C1.len C4 hA (u13.trans u4) S4
          exact ⟨G', ps', a, c, C', u', S', qi⟩
        exact ⟨nxt, fun s4 cs4 G4 ps4 v4 H4 C4 u4 r4 q4 => L.rt s4 cs4 G4 ps4 v4 H4 C4 ((u1.trans u13).trans u4) r4 q4,
          fun sl4 cs4 G4 ps4 σ4 H4 C4 u4 S4 q4 => L.nx sl4 cs4 G4 ps4 σ4 H4 C4 ((u1.trans u13).trans u4) S4 q4, nxt⟩)
      (fun σ' H' ⟨G', ps', sl', cs', C', u', S', q⟩ => L.nx sl' cs' G' ps' σ' H' C' (u1.trans u') S' (hd sl' cs' q))
/-- .. the state told by the turn -/
theorem s1_forF {body : List Stmt} (hp : PassesOwn (model X.prog X.w) X.A X.env X.xe) (hc : X.calm = true) (h : IV X na tg iter sl cs xs GC cs1) (a : Nat → Sl) (c : Nat → Cs) (h0 : Le (a 0) sl) (h1 : c 0 = cs1) (hG : ∀ i, i ≤ xs.length → GC (c i))
    (hs : ∀ i s, xs[i]? = some s → GX X na tg s (a i) (c i) fun sl2 cs2 => SX X na body sl2 cs2 { E with nx := At cs1.length (a (i + 1)) (c (i + 1)), ct := At cs1.length (a (i + 1)) (c (i + 1)), bk := E.nx })
    (hd : ∀ sl', Le (a xs.length) sl' → E.nx sl' (c xs.length))
    (hf : ∀ x, foldedSetIterable iter X.env x = pure x := by intro _; rfl) : S1 X na (.For tg iter body [] pos) sl cs E := by
  refine s1_for hp hc h (fun i sl' cs' => i ≤ xs.length ∧ Le (a i) sl' ∧ cs' = c i) ⟨Nat.zero_le _, h0, h1.symm⟩ (fun i sl' cs' ⟨hi, _, e⟩ => e ▸ hG i hi) (fun i s sl' cs' hx ⟨hi, l, e⟩ => ?_) (fun sl' cs' ⟨_, l, e⟩ => ?_) hf
  · subst e
    have hi1 : i + 1 ≤ xs.length := (List.getElem?_eq_some_iff.mp hx).1
    intro B G ps σ H v hn C S r Q q
    refine hs i s hx B G ps σ H v hn C (l.slots S) r Q fun sl3 cs3 G3 ps3 σ3 H3 C3 u3 S3 q3 => q sl3 cs3 G3 ps3 σ3 H3 C3 u3 S3 ?_
    intro B4 G4 ps4 σ4 H4 hn4 C4 S4 D4 L4
    exact q3 B4 G4 ps4 σ4 H4 hn4 C4 S4 D4 ⟨fun sl5 cs5 G5 ps5 σ5 H5 C5 u5 S5 q5 => L4.nx sl5 cs5 G5 ps5 σ5 H5 C5 u5 S5 ⟨_, _, ⟨hi1, Le.refl _, rfl⟩, q5⟩, L4.rt, L4.bk, fun sl5 cs5 G5 ps5 σ5 H5 C5 u5 S5 q5 => L4.ct sl5 cs5 G5 ps5 σ5 H5 C5 u5 S5 ⟨_, _, ⟨hi1, Le.refl _, rfl⟩, q5⟩⟩
  · subst e
    exact hd sl' l
/-- a list, a tuple -/
theorem iv_cell {k : Nat} (h : EV X na iter sl cs (.cell k) cs1) (hl : cs1[k]? = some (.lst xs)) : IV X na tg iter sl cs xs (fun cs' => cs'[k]? = some (.lst xs)) cs1 :=
  iv_of (pi_list pe_any) fun B G ps σ H hn C S R r => h B G ps σ H hn C S _ fun v G1 ps1 H1 C1 u1 r1 => by
    obtain ⟨a, rfl, ea, vs, h1, h2⟩ := C1.cellAt r1 hl
    refine ⟨a, rfl, ⟨vs, SqL.of h1⟩, r _ (fun H => ∃ vs, SqL X.K H a vs ∧ vs.length = xs.length) (fun i H x H' => H' = H ∧ ∀ vs, SqL X.K H a vs → vs[i]? = some x) G1 ps1 H1 C1 u1 ?_ ?_ ?_⟩
    · exact ⟨fun i H hi ⟨vs, q, l⟩ => ⟨vs, vs[i]'(by omega), q, by simp [show i < vs.length by omega]⟩, fun H ⟨vs, q, l⟩ => ⟨vs, q, Nat.le_of_eq l⟩, fun i H x H' hi q y => y⟩
    · intro G' ps' cs' H' C' u' g
      obtain ⟨vs', h1', h2'⟩ := (C'.cell k a _ (pre_get u'.p ea) g).1
      exact ⟨vs', SqL.of h1', Paired.length h2'⟩
    · intro i H' x H'' G' ps' cs' y C' u' g
      obtain ⟨rfl, e⟩ := y
      obtain ⟨vs', h1', h2'⟩ := (C'.cell k a _ (pre_get u'.p ea) g).1
      obtain ⟨s, es, rs⟩ := pd_getL h2' (e vs' (SqL.of h1'))
      exact ⟨s, G', es, C', Up.refl _ _, rs, Same.refl _, fun _ z => .inl z⟩
theorem iv_listV {ds : List PyData} (h : EV X na iter sl cs (.val (.list ds)) cs1) : IV X na tg iter sl cs (ds.map SV.val) (fun _ => True) cs1 :=
  iv_of (pi_list pe_any) fun B G ps σ H hn C S R r => h B G ps σ H hn C S _ fun v G1 ps1 H1 C1 u1 r1 => by
    obtain ⟨a, vs, rfl, h1, h2⟩ := Rep.lstI r1
    refine ⟨a, rfl, ⟨vs, C1.gh.seq h1⟩, r _ _ _ G1 ps1 H1 C1 u1 (by rw [List.length_map, ← h2.length]; exact walk_list) (fun G' ps' cs' H' C' u' g => C'.gh.seq (u'.s.seq h1)) ?_⟩
    intro i H' x H'' G' ps' cs' y C' u' g
    obtain ⟨rfl, e⟩ := y
    obtain ⟨d, ed, rd⟩ := h2.getV e
    exact ⟨.val d, G', by rw [List.getElem?_map, ed]; rfl, C', Up.refl _ _, Rep.mono u'.s rd, Same.refl _, fun _ z => .inl z⟩
theorem iv_tup {ds : List PyData} (h : EV X na iter sl cs (.val (.tuple ds)) cs1) : IV X na tg iter sl cs (ds.map SV.val) (fun _ => True) cs1 :=
  iv_of (pi_tup pe_any) fun B G ps σ H hn C S R r => h B G ps σ H hn C S _ fun v G1 ps1 H1 C1 u1 r1 => by
    obtain ⟨a, vs, rfl, h1, h2⟩ := Rep.tupI r1
    refine ⟨a, rfl, ⟨vs, Same.seqT C1.gh h1⟩, r _ _ _ G1 ps1 H1 C1 u1 (by rw [List.length_map, ← h2.length]; exact walk_tup) (fun G' ps' cs' H' C' u' g => Same.seqT C'.gh (Same.seqT u'.s h1)) ?_⟩
    intro i H' x H'' G' ps' cs' y C' u' g
    obtain ⟨rfl, e⟩ := y
    obtain ⟨d, ed, rd⟩ := h2.getV e
    exact ⟨.val d, G', by rw [List.getElem?_map, ed]; rfl, C', Up.refl _ _, Rep.mono u'.s rd, Same.refl _, fun _ z => .inl z⟩
theorem iv_range1 {a : Expr} {p : Pos} {n : Int} (hm : X.mg "range" = none) (hg : Gl X "range") (h : EV X na a sl cs (.val (.int n)) cs1) (h1 : -(2 ^ 62) ≤ n) (h2 : n < 2 ^ 62) (hs : starEach [a] X.env = [(false, eval a X.env)] := by rfl) :
    IV X na tg (.Call (.Name "range" p) [a] [] pos) sl cs ((List.range n.toNat).map fun i => SV.val (.int (i : Nat))) (fun _ => True) cs1 :=
  iv_of (pi_range1 hg hm pa_any hs) fun B G ps σ H hn C S R r => (av_cons h av_nil hs) B G ps σ H hn C S _ fun vs G1 ps1 H1 C1 u1 r1 => by
    cases r1 with
    | cons r1 r2 =>
      cases r2
      refine ⟨n, by rw [Rep.intI r1], h1, h2, r _ _ _ G1 ps1 H1 C1 u1 (by rw [List.length_map, List.length_range]; exact walk_range.mono (Y' := fun i H x H' => i < n.toNat ∧ YFn (fun i => V.int (0 + i)) i H x H') (fun _ _ => trivial) fun i H x H' hi _ y => ⟨hi, y⟩) (fun _ _ _ _ _ _ _ => trivial) ?_⟩
      intro i H' x H'' G' ps' cs' y C' u' g
      obtain ⟨hi, rfl, e⟩ := y
      exact ⟨.val (.int (i : Nat)), G', by rw [List.getElem?_map, List.getElem?_range hi]; rfl, C', Up.refl _ _, by rw [e]; show RepV X.K G' ps' (.int (0 + (i : Int))) _; rw [Int.zero_add]; exact Rep.int _, Same.refl _, fun _ z => .inl z⟩
theorem iv_range2 {a b : Expr} {p : Pos} {m n : Int} (hm : X.mg "range" = none) (hg : Gl X "range") (h : EV X na a sl cs (.val (.int m)) cs1) (h' : EV X na b sl cs1 (.val (.int n)) cs2) (h1 : -(2 ^ 62) ≤ m ∧ m < 2 ^ 62 ∧ -(2 ^ 62) ≤ n ∧ n < 2 ^ 62)
    (hs : starEach [a, b] X.env = [(false, eval a X.env), (false, eval b X.env)] := by rfl) (hs2 : starEach [b] X.env = [(false, eval b X.env)] := by rfl) :
    IV X na tg (.Call (.Name "range" p) [a, b] [] pos) sl cs ((List.range (n - m).toNat).map fun i => SV.val (.int (m + (i : Nat)))) (fun _ => True) cs2 :=
  iv_of (pi_range2 hg hm pa_any hs hs2) fun B G ps σ H hn C S R r => (av_cons h (av_cons h' av_nil hs2) (by rw [hs, hs2])) B G ps σ H hn C S _ fun vs G1 ps1 H1 C1 u1 r1 => by
    cases r1 with
    | cons r1 r2 =>
      cases r2 with
      | cons r2 r3 =>
      cases r3
      refine ⟨m, n, by rw [Rep.intI r1, Rep.intI r2], h1, r _ _ _ G1 ps1 H1 C1 u1 (by rw [List.length_map, List.length_range]; exact walk_range.mono (Y' := fun i H x H' => i < (n - m).toNat ∧ YFn (fun i => V.int (m + i)) i H x H') (fun _ _ => trivial) fun i H x H' hi _ y => ⟨hi, y⟩) (fun _ _ _ _ _ _ _ => trivial) ?_⟩
      intro i H' x H'' G' ps' cs' y C' u' g
      obtain ⟨hi, rfl, e⟩ := y
      exact ⟨.val (.int (m + (i : Nat))), G', by rw [List.getElem?_map, List.getElem?_range hi]; rfl, C', Up.refl _ _, by rw [e]; exact Rep.int _, Same.refl _, fun _ z => .inl z⟩
/-- while; at a turn's end what was made within it is forgotten -/
theorem s1_while {c : Expr} {body : List Stmt} (hp : PassesOwn (model X.prog X.w) X.A X.env X.xe) (I : Nat → Sl → Cs → Prop) (m0 : Nat) (h0 : I m0 sl cs)
    (hs : ∀ m sl' cs', I m sl' cs' → ∃ k cs2, TV X na c sl' cs' k cs2 ∧ (k = true → SX X na body sl' cs2 { E with nx := fun sl3 cs3 => ∃ m' a c, m' < m ∧ I m' a c ∧ At cs.length a c sl3 cs3, ct := fun sl3 cs3 => ∃ m' a c, m' < m ∧ I m' a c ∧ At cs.length a c sl3 cs3, bk := E.nx }) ∧ (k = false → E.nx sl' cs2)) :
    S1 X na (.While c body [] pos) sl cs E :=
  s1_of (ps_while hp pt_any pss_any) fun B G ps σ H hn C S D L =>
    have hA : B.As.length ≤ cs.length := by
      rw [← C.len]
      exact C.pre.length_le
    ⟨fun m σ' H' => ∃ G' ps' sl' cs', Core X.K B G' ps' cs' H' ∧ Up G ps G' ps' ∧ Slots X.K G' ps' σ' sl' ∧ I m sl' cs', ⟨m0, G, ps, sl, cs, C, Up.refl _ _, S, h0⟩, fun m σ' H' ⟨G', ps', sl', cs', C', u', S', q⟩ => by
      obtain ⟨k, cs2, ht, h1, h2⟩ := hs m sl' cs' q
      refine ht B G' ps' σ' H' hn C' S' _ fun G2 ps2 H2 C2 u2 => ?_
      cases k with
      | false => exact L.nx sl' cs2 G2 ps2 σ' H2 C2 (u'.trans u2) (Slots.mono u2 S') (h2 rfl)
      | true =>
        have u02 := u'.trans u2
        have nxt : ∀ sl4 cs4 G4 ps4 σ4 H4, Core X.K B G4 ps4 cs4 H4 → Up G2 ps2 G4 ps4 → Slots X.K G4 ps4 σ4 sl4 → (∃ m' a c, m' < m ∧ I m' a c ∧ At cs.length a c sl4 cs4) → ∃ m', m' < m ∧ ∃ G' ps' sl' cs', Core X.K B G' ps' cs' H4 ∧ Up G ps G' ps' ∧ Slots X.K G' ps' σ4 sl' ∧ I m' sl' cs' := fun sl4 cs4 G4 ps4 σ4 H4 C4 u4 S4 ⟨m', a, c, l, qi, qa⟩ => by
          obtain ⟨G', ps', C', u', S'⟩ := qa.go C.len C4 hA (u02.trans u4) S4
          exact ⟨m', l, G', ps', a, c, C', u', S', qi⟩
        refine ⟨fun σ3 H3 => ∃ m', m' < m ∧ ∃ G' ps' sl' cs', Core X.K B G' ps' cs' H3 ∧ Up G ps G' ps' ∧ Slots X.K G' ps' σ3 sl' ∧ I m' sl' cs', fun σ3 H3 h => h, h1 rfl B G2 ps2 σ' H2 hn C2 (Slots.mono u2 S') _ ?_⟩
        exact ⟨nxt, fun s4 cs4 G4 ps4 v4 H4 C4 u4 r4 q4 => L.rt s4 cs4 G4 ps4 v4 H4 C4 (u02.trans u4) r4 q4,
          fun sl4 cs4 G4 ps4 σ4 H4 C4 u4 S4 q4 => L.nx sl4 cs4 G4 ps4 σ4 H4 C4 (u02.trans u4) S4 q4, nxt⟩⟩
end
end DL
namespace DL
open PySem PySem.Spec PyProof.Rows L2

/-! ### what a def promises -/
/-- for arguments and cells as told the def gives s, the cells are cs' then -/
abbrev Spec := List SV → Cs → SV → Cs → Prop
def spM (K : PySem.W.Frag) (n : Nat) (spec : Spec) : Sp := fun vs H Q _ => ∃ G ps svs cs s cs', spec svs cs s cs' ∧ svs.length = n ∧ Core K ⟨G, H, ps⟩ G ps cs H ∧ RepVs K G ps vs svs ∧
  ∀ v G' ps' H', Core K ⟨G, H, ps⟩ G' ps' cs' H' → Up G ps G' ps' → RepV K G' ps' v s → Q v H'
structure Cal (P : Program) (w : World) (K : PySem.W.Frag) (mg : Str → Option Value) (base : Heap) (k : Nat) (x : Str) (n : Nat) (spec : Spec) : Prop where
  ex : ∃ (f : Addr) (fd : FuncData) (ps : List Str), FnOk P w K mg base CX0 k f fd ps (spM K n spec) ∧ mg x = some (.ref f) ∧ PySem.W.keepIn K (.ref f) = true ∧ Binds K fd ps []
theorem Cal.mono {P : Program} {w : World} {K : PySem.W.Frag} {mg : Str → Option Value} {base : Heap} {j k n : Nat} {x : Str} {spec : Spec} (c : Cal P w K mg base j x n spec) (h : j ≤ k) : Cal P w K mg base k x n spec := by
  obtain ⟨f, fd, ps, F, r⟩ := c.ex
  exact ⟨f, fd, ps, F.mono h, r⟩
theorem Cal.imp {P : Program} {w : World} {K : PySem.W.Frag} {mg : Str → Option Value} {base : Heap} {k n : Nat} {x : Str} {spec spec' : Spec} (c : Cal P w K mg base k x n spec) (h : ∀ a b s d, spec' a b s d → spec a b s d) : Cal P w K mg base k x n spec' := by
  obtain ⟨f, fd, ps, F, r⟩ := c.ex
  exact ⟨f, fd, ps, F.imp fun vs H Q E ⟨G, qs, svs, cs, s, cs', q, r⟩ => ⟨G, qs, svs, cs, s, cs', h _ _ _ _ q, r⟩, r⟩

section
variable {K : PySem.W.Frag} {G G' : Hp} {ps ps' : List Addr} {H H' : Hp} {B : Bs} {cs cs' : Cs}
/-! ### some of the cells are handed on -/
inductive Sel (cs : Cs) : List Nat → Cs → Prop
  | nil : Sel cs [] []
  | cons {k : Nat} {c : CC} {κ : List Nat} {d : Cs} : cs[k]? = some c → c.flat = true → c ≠ .dead → Sel cs κ d → Sel cs (k :: κ) (c :: d)
inductive SetA : Cs → List Nat → Cs → Cs → Prop
  | nil {cs : Cs} : SetA cs [] [] cs
  | cons {cs cs1 cs2 : Cs} {k : Nat} {c : CC} {κ : List Nat} {d : Cs} : PutC cs k c cs1 → SetA cs1 κ d cs2 → SetA cs (k :: κ) (c :: d) cs2
theorem SetA.get : ∀ {cs cs2 : Cs} {κ : List Nat} {d : Cs}, SetA cs κ d cs2 → κ.Nodup → ∀ {i : Nat} {c : CC}, cs2[i]? = some c → (∃ j : Nat, κ[j]? = some i ∧ d[j]? = some c) ∨ (i ∉ κ ∧ cs[i]? = some c)
  | _, _, _, _, .nil, _, i, c, h => .inr ⟨List.not_mem_nil, h⟩
  | _, _, k :: κ, _ :: d, .cons p t, nd, i, c, h => by
    obtain ⟨n1, n2⟩ := List.nodup_cons.mp nd
    rcases t.get n2 h with ⟨j, h1, h2⟩ | ⟨h1, h2⟩
    · exact .inl ⟨j + 1, by simpa using h1, by simpa using h2⟩
    · rw [p.at] at h2
      by_cases e : i = k
      · subst e
        have hl : i < _ := (List.getElem?_eq_some_iff.mp h2).1
        rw [List.length_set] at hl
        rw [List.getElem?_set_self hl] at h2
        exact .inl ⟨0, rfl, h2⟩
      · rw [List.getElem?_set_ne (Ne.symm e)] at h2
        exact .inr ⟨fun m => (List.mem_cons.mp m).elim e h1, h2⟩
theorem SetA.length : ∀ {cs cs2 : Cs} {κ : List Nat} {d : Cs}, SetA cs κ d cs2 → cs2.length = cs.length ∧ κ.length = d.length
  | _, _, _, _, .nil => ⟨rfl, rfl⟩
  | _, _, _, _, .cons p t => by
    obtain ⟨a, b⟩ := t.length
    rw [p.at, List.length_set] at a
    exact ⟨a, congrArg (· + 1) b⟩
theorem Sel.get : ∀ {κ : List Nat} {d : Cs}, Sel cs κ d → ∀ {j k : Nat}, κ[j]? = some k → ∃ c, d[j]? = some c ∧ cs[k]? = some c ∧ c.flat = true ∧ c ≠ .dead
  | _, _, .nil, j, k, h => by simp at h
  | _, _, .cons a b c t, 0, k, h => by
    simp at h
    subst h
    exact ⟨_, rfl, a, b, c⟩
  | _, _, .cons a b c t, j + 1, k, h => by
    obtain ⟨c, h1, h2⟩ := t.get (j := j) (k := k) (by simpa using h)
    exact ⟨c, by simpa using h1, h2⟩
theorem Sel.length : ∀ {κ : List Nat} {d : Cs}, Sel cs κ d → κ.length = d.length
  | _, _, .nil => rfl
  | _, _, .cons _ _ _ t => congrArg (· + 1) t.length
theorem pick_get (C : Core K B G ps cs H) {κ : List Nat} {d : Cs} (S : Sel cs κ d) {j : Nat} {p : Addr} (h : (pick ps κ)[j]? = some p) : ∃ k c, κ[j]? = some k ∧ ps[k]? = some p ∧ d[j]? = some c ∧ cs[k]? = some c ∧ c.flat = true ∧ c ≠ .dead := by
  unfold pick at h
  rw [List.getElem?_map] at h
  cases hk : κ[j]? with
  | none => rw [hk] at h; cases h
  | some k =>
    rw [hk] at h
    obtain ⟨c, h1, h2, h3, h4⟩ := S.get hk
    obtain ⟨q, hq⟩ := C.addr h2
    have e : ps.getD k 0 = q := by simp [List.getD, hq]
    have h' : some (ps.getD k 0) = some p := h
    rw [e] at h'
    cases h'
    exact ⟨k, c, rfl, hq, h1, h2, h3, h4⟩
theorem pick_nd (C : Core K B G ps cs H) : ∀ {κ : List Nat} {d : Cs}, Sel cs κ d → κ.Nodup → (pick ps κ).Nodup
  | _, _, .nil, _ => List.Pairwise.nil
  | k :: κ, _ :: d, .cons a b c t, nd => by
    obtain ⟨n1, n2⟩ := List.nodup_cons.mp nd
    refine List.nodup_cons.mpr ⟨fun m => ?_, pick_nd C t n2⟩
    obtain ⟨j, hj⟩ := List.getElem?_of_mem m
    obtain ⟨k', c', h1, h2, _⟩ := pick_get C t hj
    obtain ⟨q, hq⟩ := C.addr a
    have e : ps.getD k 0 = q := by simp [List.getD, hq]
    have h2' : ps[k']? = some (ps.getD k 0) := h2
    rw [e] at h2'
    have := nd_at C.nd hq h2'
    subst this
    exact n1 (List.mem_of_getElem? h1)
/-- the cells of a call -/
theorem Core.enter (C : Core K B G ps cs H) {κ : List Nat} {d : Cs} (S : Sel cs κ d) (nd : κ.Nodup) : Core K ⟨G, H, pick ps κ⟩ G (pick ps κ) d H where
  g0 := Same.refl _
  h0 _ _ e _ := e
  gh := C.gh
  nw _ e := .inl e
  len := by rw [← S.length]; exact List.length_map _
  pre := List.prefix_refl _
  nd := pick_nd C S nd
  cell j p c e hc := by
    obtain ⟨k, c', h1, h2, h3, h4, h5, h6⟩ := pick_get C S e
    rw [hc] at h3
    cases h3
    obtain ⟨g1, g2, g3⟩ := C.cell k p c h2 h4
    exact ⟨RepC.flat g1 h5, .inr (List.mem_of_getElem? e), .inr (g3.elim (fun z => (h6 z).elim) id)⟩
/-- .. and behind it -/
theorem Core.leave (C : Core K B G ps cs H) {κ : List Nat} {d d' : Cs} {cs2 : Cs} (S : Sel cs κ d) (nd : κ.Nodup) (C' : Core K ⟨G, H, pick ps κ⟩ G' ps' cs' H') (hp : d' <+: cs') (hf : d'.all CC.flat = true) (hs : SetA cs κ d' cs2) : Core K B G' ps cs2 H' := by
  have inPick : ∀ {k p}, k ∈ κ → ps[k]? = some p → p ∈ pick ps κ := fun {k p} hk hp => List.mem_map.mpr ⟨k, hk, by simp [List.getD, hp]⟩
  have ofPick : ∀ {p}, p ∈ pick ps κ → p ∈ ps := fun {p} m => by
    obtain ⟨j, hj⟩ := List.getElem?_of_mem m
    obtain ⟨k, _, _, h, _⟩ := pick_get C S hj
    exact List.mem_of_getElem? h
  refine ⟨C.g0.trans C'.g0, fun b o e m => C'.h0 b o (C.h0 b o e m) fun z => ?_, C'.gh, fun b e => (C'.nw b e).elim (C.nw b) fun h => .inr (C.free0 h), by rw [C.len, hs.length.1], C.pre, C.nd, fun i p c e hc => ?_⟩
  · rcases C.own (ofPick z) with h | h
    · rw [h] at e; cases e
    · exact m h
  · rcases hs.get nd hc with ⟨j, h1, h2⟩ | ⟨h1, h2⟩
    · obtain ⟨c0, g1, g2, g3, g4⟩ := S.get h1
      have hcs : cs'[j]? = some c := pre_get hp h2
      have hps : ps'[j]? = some p := by
        refine pre_get C'.pre ?_
        show (pick ps κ)[j]? = some p
        unfold pick
        rw [List.getElem?_map, h1]
        show some (ps.getD i 0) = some p
        simp [List.getD, e]
      obtain ⟨q1, q2, q3⟩ := C'.cell j p c hps hcs
      have hfl : c.flat = true := List.all_eq_true.mp hf c (List.mem_of_getElem? h2)
      exact ⟨RepC.flat q1 hfl, C.own (List.mem_of_getElem? e), q3⟩
    · obtain ⟨g1, g2, g3⟩ := C.cell i p c e h2
      have hnp : p ∉ pick ps κ := fun m => by
        obtain ⟨j, hj⟩ := List.getElem?_of_mem m
        obtain ⟨k, _, hk, hp2, _⟩ := pick_get C S hj
        have := nd_at C.nd e hp2
        subst this
        exact h1 (List.mem_of_getElem? hk)
      have hH : H' p = H p := by
        cases q : H p with
        | none => exact (C.live (List.mem_of_getElem? e) q).elim
        | some o => exact C'.h0 p o q hnp
      refine ⟨RepC.mono ⟨C'.g0, List.prefix_refl _⟩ hH g1, g2, g3.imp id fun hG => ?_⟩
      cases q : G' p with
      | none => rfl
      | some o =>
        rcases C'.nw p (by rw [q]; exact Option.some_ne_none _) with z | z
        · exact (z hG).elim
        · exact (C.live (List.mem_of_getElem? e) z).elim
end
section
variable {K : PySem.W.Frag} {G G' : Hp} {ps ps' : List Addr} {H H' : Hp} {B : Bs} {cs cs' : Cs}
theorem Core.enterG (C : Core K B G ps cs H) {κ : List Nat} {d : Cs} (S : SelR cs κ κ d) (nd : κ.Nodup) : Core K ⟨G, H, pick ps κ⟩ G (pick ps κ) d H where
  g0 := Same.refl _
  h0 _ _ e _ := e
  gh := C.gh
  nw _ e := .inl e
  len := by rw [← S.length]; exact List.length_map _
  pre := List.prefix_refl _
  nd := pickR_nd C S nd
  cell j p c e hc := by
    obtain ⟨k, c0, c', h1, h2, h3, h4, h5⟩ := pick_at C S e
    rw [hc] at h3
    cases h3
    obtain ⟨g1, g2, g3⟩ := C.cell k p c0 h2 h4
    exact ⟨RenC.rep (fun k p hk e => pick_idx hk e) h5 g1, .inr (List.mem_of_getElem? e), g3.imp h5.dead.mp id⟩
/-- the callee's numbers, as the caller's -/
def backOf (κ : List Nat) (n : Nat) (j : Nat) : Nat := if j < κ.length then κ.getD j 0 else n + (j - κ.length)
theorem Core.leaveG (C : Core K B G ps cs H) {κ : List Nat} {d da db : Cs} {csm : Cs} (S : SelR cs κ κ d) (nd : κ.Nodup) (C' : Core K ⟨G, H, pick ps κ⟩ G' ps' cs' H') (hq : Paired (RenC (fun _ => true) (backOf κ cs.length)) cs' (da ++ db)) (hda : da.length = κ.length) (hs : SetA cs κ da csm) :
    Core K B G' (ps ++ ps'.drop κ.length) (csm ++ db) H' ∧ ∀ j p, ps'[j]? = some p → (ps ++ ps'.drop κ.length)[backOf κ cs.length j]? = some p := by
  have hpl : (pick ps κ).length = κ.length := List.length_map _
  have hkl : κ.length ≤ ps'.length := by rw [← hpl]; exact C'.pre.length_le
  have inPick : ∀ {k p}, k ∈ κ → ps[k]? = some p → p ∈ pick ps κ := fun {k p} hk hp => List.mem_map.mpr ⟨k, hk, by simp [List.getD, hp]⟩
  have ofPick : ∀ {p}, p ∈ pick ps κ → p ∈ ps := fun {p} m => by
    obtain ⟨j, hj⟩ := List.getElem?_of_mem m
    obtain ⟨k, _, _, _, h, _⟩ := pick_at C S hj
    exact List.mem_of_getElem? h
  have newF : ∀ {j p}, κ.length ≤ j → ps'[j]? = some p → H p = none := fun {j p} hj e => by
    obtain ⟨c, hc⟩ := C'.at e
    refine (C'.cell j p c e hc).2.1.elim id fun m => ?_
    obtain ⟨i, hi⟩ := List.getElem?_of_mem (show p ∈ pick ps κ from m)
    have h1 := nd_at C'.nd (pre_get C'.pre hi) e
    have h2 := (List.getElem?_eq_some_iff.mp hi).1
    omega
  have back : ∀ j p, ps'[j]? = some p → (ps ++ ps'.drop κ.length)[backOf κ cs.length j]? = some p := fun j p e => by
    unfold backOf
    split
    · rename_i hj
      obtain ⟨t, ht⟩ := C'.pre
      have e2 : (pick ps κ)[j]? = some p := by
        rw [← ht, List.getElem?_append_left (by show j < (pick ps κ).length; omega)] at e
        exact e
      obtain ⟨k, _, _, h1, h2, _⟩ := pick_at C S e2
      have : κ.getD j 0 = k := by simp [List.getD, h1]
      rw [this, List.getElem?_append_left (List.getElem?_eq_some_iff.mp h2).1]
      exact h2
    · rw [← C.len, List.getElem?_append_right (by omega), List.getElem?_drop]
      rw [← e]
      congr 1
      omega
  refine ⟨⟨C.g0.trans C'.g0, fun b o e m => C'.h0 b o (C.h0 b o e m) fun z => ?_, C'.gh, fun b e => (C'.nw b e).elim (C.nw b) fun h => .inr (C.free0 h), ?_, C.pre.trans (List.prefix_append _ _), ?_, fun i p c e hc => ?_⟩, back⟩
  · rcases C.own (ofPick z) with h | h
    · rw [h] at e; cases e
    · exact m h
  · have h1 := Paired.length hq
    have h2 := C'.len
    have h3 := hs.length.1
    have h4 := C.len
    rw [List.length_append] at h1
    rw [List.length_append, List.length_append, List.length_drop]
    omega
  · refine List.nodup_append.mpr ⟨C.nd, C'.nd.sublist (List.drop_sublist _ _), fun a ha b hb e => ?_⟩
    subst e
    obtain ⟨i, hi⟩ := List.getElem?_of_mem hb
    rw [List.getElem?_drop] at hi
    exact C.live ha (newF (by omega) hi)
  · by_cases hi : i < ps.length
    · rw [List.getElem?_append_left hi] at e
      have hi2 : i < csm.length := by rw [hs.length.1, ← C.len]; exact hi
      rw [List.getElem?_append_left hi2] at hc
      rcases hs.get nd hc with ⟨j, h1, h2⟩ | ⟨h1, h2⟩
      · obtain ⟨c', h3, h4⟩ := pd_get hq (i := j) (b := c) (by rw [List.getElem?_append_left (List.getElem?_eq_some_iff.mp h2).1]; exact h2)
        have hps : ps'[j]? = some p := by
          refine pre_get C'.pre ?_
          show (pick ps κ)[j]? = some p
          unfold pick
          rw [List.getElem?_map, h1]
          show some (ps.getD i 0) = some p
          simp [List.getD, e]
        obtain ⟨q1, q2, q3⟩ := C'.cell j p c' hps h3
        exact ⟨RenC.rep (fun k p _ e => back k p e) h4 q1, C.own (List.mem_of_getElem? e), q3.imp h4.dead.mp id⟩
      · obtain ⟨g1, g2, g3⟩ := C.cell i p c e h2
        have hnp : p ∉ pick ps κ := fun m => by
          obtain ⟨j, hj⟩ := List.getElem?_of_mem m
          obtain ⟨k, _, _, hk, hp2, _⟩ := pick_at C S hj
          have := nd_at C.nd e hp2
          subst this
          exact h1 (List.mem_of_getElem? hk)
        have hH : H' p = H p := by
          cases q : H p with
          | none => exact (C.live (List.mem_of_getElem? e) q).elim
          | some o => exact C'.h0 p o q hnp
        refine ⟨RepC.mono ⟨C'.g0, List.prefix_append _ _⟩ hH g1, g2, g3.imp id fun hG => ?_⟩
        cases q : G' p with
        | none => rfl
        | some o =>
          rcases C'.nw p (by rw [q]; exact Option.some_ne_none _) with z | z
          · exact (z hG).elim
          · exact (C.live (List.mem_of_getElem? e) z).elim
    · have hge : ps.length ≤ i := by omega
      rw [List.getElem?_append_right hge, List.getElem?_drop] at e
      have hcl : csm.length = ps.length := by rw [hs.length.1, C.len]
      rw [List.getElem?_append_right (by omega), hcl] at hc
      obtain ⟨c', h3, h4⟩ := pd_get hq (i := κ.length + (i - ps.length)) (b := c) (by rw [List.getElem?_append_right (by omega), hda, Nat.add_sub_cancel_left]; exact hc)
      obtain ⟨q1, q2, q3⟩ := C'.cell _ p c' e h3
      exact ⟨RenC.rep (fun k p _ e => back k p e) h4 q1, .inl (C.free0 (newF (by omega) e)), q3.imp h4.dead.mp id⟩
end
/-- the arguments as the callee sees them -/
inductive RenA (κ : List Nat) : List SV → List SV → Prop
  | nil : RenA κ [] []
  | val {d : PyData} {a b : List SV} : RenA κ a b → RenA κ (.val d :: a) (.val d :: b)
  | cell {j k : Nat} {a b : List SV} : κ[j]? = some k → RenA κ a b → RenA κ (.cell j :: a) (.cell k :: b)
theorem RenA.reps {K : PySem.W.Frag} {B : Bs} {G : Hp} {ps : List Addr} {cs : Cs} {H : Hp} {κ : List Nat} {d : Cs} (C : Core K B G ps cs H) (S : Sel cs κ d) : ∀ {a b : List SV} {vs : List V}, RenA κ a b → RepVs K G ps vs b → RepVs K G (pick ps κ) vs a
  | _, _, _, .nil, h => by cases h; exact .nil
  | _, _, _, .val t, h => by
    cases h with
    | cons h r => exact .cons h (RenA.reps C S t r)
  | _, _, _, .cell (j := j) (k := k) e t, h => by
    cases h with
    | cons h r =>
      obtain ⟨p, hp, hv⟩ := h
      refine .cons ⟨p, ?_, hv⟩ (RenA.reps C S t r)
      unfold pick
      rw [List.getElem?_map, e]
      show some (ps.getD k 0) = some p
      simp [List.getD, hp]
theorem RenA.length {κ : List Nat} : ∀ {a b : List SV}, RenA κ a b → a.length = b.length
  | _, _, .nil => rfl
  | _, _, .val t => congrArg (· + 1) t.length
  | _, _, .cell _ t => congrArg (· + 1) t.length
section
variable {X : Cx} {na : NA} {sl sl' : Sl} {cs cs1 cs2 cs3 : Cs} {s t u : SV} {pos : Pos} {x : Str} {E : DEnds} {N : List Str} {k j n : Nat} {spec : Spec} {e : Expr} {es : List Expr} {p : Pos}
theorem ev_callR (c : Cal X.prog X.w X.K X.mg X.base k x n spec) (hr : Room j X.A) (hk : k ≤ j) (hg : Gl X x)
    (h : DE X.K na (tCall (spM X.K n spec) [] E0 (anyA X (e :: es))) sl cs s cs1)
    (hdb : (x == ("__debug__" : Str)) = false := by decide) (he : starEach (e :: es) X.env = (false, eval e X.env) :: starEach es X.env := by rfl) (hpl : (backTo pos (starEach es X.env)).any (·.1) = false := by rfl) :
    EV X na (.Call (.Name x p) (e :: es) [] pos) sl cs s cs1 := by
  obtain ⟨f, fd, ps, F, hm, kp, b⟩ := c.ex
  exact ev_of (pe_call F (hr.mono hk) hg hm kp b .nil pass0 pa_any hdb he hpl) h
/-- a call; some cells are handed on, the answer is data -/
theorem ev_callM {ss svs : List SV} {κ : List Nat} {d d' d2 : Cs} {r : PyData} (c : Cal X.prog X.w X.K X.mg X.base k x n spec) (hr : Room j X.A) (hk : k ≤ j) (hg : Gl X x)
    (ha : AV X na (e :: es) sl cs ss cs1) (S : Sel cs1 κ d) (hren : RenA κ svs ss) (h : spec svs d (.val r) d2) (hs : SetA cs1 κ d' cs2) (hp : d' <+: d2) (hf : d'.all CC.flat = true) (nd : κ.Nodup) (hn : Nat.beq svs.length n = true)
    (hdb : (x == ("__debug__" : Str)) = false := by decide) (he : starEach (e :: es) X.env = (false, eval e X.env) :: starEach es X.env := by rfl) (hpl : (backTo pos (starEach es X.env)).any (·.1) = false := by rfl) :
    EV X na (.Call (.Name x p) (e :: es) [] pos) sl cs (.val r) cs2 :=
  ev_callR c hr hk hg (fun B G ps σ H hna C Sl Q q => ha B G ps σ H hna C Sl _ fun vs G1 ps1 H1 C1 u1 r1 => by
    show spM X.K n spec (vs ++ []) H1 Q E0
    rw [List.append_nil]
    refine ⟨G1, pick ps1 κ, svs, d, .val r, d2, h, Nat.eq_of_beq_eq_true hn, C1.enter S nd, RenA.reps C1 S hren r1, fun v G' ps' H' C' u' r' => ?_⟩
    exact q v G' ps1 H' (C1.leave S nd C' hp hf hs) (u1.trans ⟨u'.s, List.prefix_refl _⟩) r') hdb he hpl
end
end DL
namespace DL
open PySem PySem.Spec PyProof.Rows L2

/-! ### how a body ends -/
inductive RetOk (na : Nat) : SV → Cs → SV → Cs → Prop
  | val {d : PyData} {c c2 : Cs} : c <+: c2 → c.length = na → c.all (CC.lt na) = true → RetOk na (.val d) c (.val d) c2
  | frz {d : PyData} {k : Nat} {o : CC} {c c2 : Cs} : na ≤ k → c2[k]? = some o → o.data = some d → c <+: c2 → c.length = na → c.all (CC.lt na) = true → RetOk na (.val d) c (.cell k) c2
  | new {k : Nat} {o : CC} {c c2 : Cs} : na ≤ k → c2[k]? = some o → o.flat = true → o ≠ .dead → c <+: c2 → c.length = na → c.all (CC.lt na) = true → RetOk na (.cell na) (c ++ [o]) (.cell k) c2
  | gen {s s2 : SV} {κs : List Nat} {d c2 : Cs} : (List.range na ++ κs).Nodup → SelR c2 (List.range na ++ κs) (List.range na ++ κs) d → s2.amid (fun k => (List.range na ++ κs).contains k) = true → s2.ren (fun k => (List.range na ++ κs).idxOf k) = s → RetOk na s d s2 c2
  | all {s : SV} {c : Cs} : RetOk na s c s c
section
variable {K : PySem.W.Frag} {G G' G1 : Hp} {ps ps' ps1 : List Addr} {H H' : Hp} {B : Bs} {cs cs' : Cs}
theorem take_pre {α : Type} {a b : List α} {n : Nat} (h : a <+: b) (hl : a.length = n) : b.take n = a := by
  obtain ⟨t, rfl⟩ := h
  rw [← hl, List.take_append, Nat.sub_self, List.take_zero, List.append_nil, List.take_of_length_le (Nat.le_refl _)]
theorem Core.atTake (C : Core K B G ps cs H) {n : Nat} {c : Cs} (hA : B.As.length = n) (hp : c <+: cs) (hl : c.length = n) (lt : c.all (CC.lt n) = true) : Core K B G (ps.take n) c H := by
  have e := take_pre hp hl
  have := C.take (n := n) (Nat.le_of_eq hA) (by rw [e]; exact lt)
  rw [e] at this
  exact this
theorem RetOk.go {na : Nat} {s s2 : SV} {c c2 : Cs} {v : V} (h : RetOk na s c s2 c2) (C : Core K B G ps c2 H) (hA : B.As.length = na) (u : Up G1 B.As G ps) (r : RepV K G ps v s2) : ∃ G' ps', Core K B G' ps' c H ∧ Up G1 B.As G' ps' ∧ RepV K G' ps' v s := by
  have pre : B.As <+: ps.take na := by
    obtain ⟨t, e⟩ := u.p
    rw [← e, ← hA, List.take_append, List.take_of_length_le (Nat.le_refl _)]
    exact List.prefix_append _ _
  cases h with
  | val hp hl lt => exact ⟨G, ps.take na, C.atTake hA hp hl lt, ⟨u.s, pre⟩, r⟩
  | frz hk ho hd hp hl lt =>
    rename_i d k o
    obtain ⟨p, rfl, ep, rc⟩ := C.cellAt r ho
    obtain ⟨ob, hH, hr⟩ := rc.data hd
    have hnd : o ≠ .dead := fun z => by subst z; cases hd
    have hG : G p = none := (C.cell k p o ep ho).2.2.elim (fun z => (hnd z).elim) id
    have C2 := C.freeze (by rw [hA]; exact hk) ep ho hnd hH
    have hp2 : c <+: c2.set k .dead := by
      obtain ⟨t, e⟩ := hp
      refine ⟨t.set (k - c.length) .dead, ?_⟩
      rw [← e, List.set_append_right _ _ (by omega)]
    exact ⟨_, ps.take na, C2.atTake hA hp2 hl lt, ⟨u.s.trans (Same.new hG), pre⟩, hr _ (Same.new hG) upd_same⟩
  | new hk ho hf hnd hp hl lt =>
    rename_i k o c
    obtain ⟨p, rfl, ep, rc⟩ := C.cellAt r ho
    have hG : G p = none := (C.cell k p o ep ho).2.2.elim (fun z => (hnd z).elim) id
    have hB : B.H0 p = none := (C.cell k p o ep ho).2.1.elim id fun m => by
      obtain ⟨j, ej⟩ := List.getElem?_of_mem m
      have h1 := nd_at C.nd (pre_get C.pre ej) ep
      have h2 := (List.getElem?_eq_some_iff.mp ej).1
      omega
    have C2 := C.atTake hA hp hl lt
    have hn : p ∉ ps.take na := fun m => by
      obtain ⟨j, ej⟩ := List.getElem?_of_mem m
      have hj := (List.getElem?_eq_some_iff.mp ej).1
      rw [List.length_take] at hj
      rw [List.getElem?_take_of_lt (by omega)] at ej
      have := nd_at C.nd ej ep
      omega
    refine ⟨G, ps.take na ++ [p], C2.adoptCell hn hG hB (RepC.flat rc hf), ⟨u.s, pre.trans (List.prefix_append _ _)⟩, p, ?_, rfl⟩
    have hl2 : (ps.take na).length = na := by
      rw [C2.len, hl]
    rw [List.getElem?_append_right (by omega), hl2, Nat.sub_self]
    rfl
  | all => exact ⟨G, ps, C, u, r⟩
  | gen nd S am e =>
    rename_i κs
    have hle : B.As.length ≤ ps.length := C.pre.length_le
    have hpk : pick ps (List.range na) = B.As := by
      obtain ⟨t, ht⟩ := C.pre
      apply List.ext_getElem?
      intro i
      unfold pick
      rw [List.getElem?_map]
      by_cases hi : i < na
      · rw [List.getElem?_range hi, ← ht]
        show some ((B.As ++ t).getD i 0) = _
        rw [List.getD_eq_getElem?_getD, List.getElem?_append_left (by omega), List.getElem?_eq_getElem (by omega)]
        rfl
      · rw [List.getElem?_eq_none (by rw [List.length_range]; omega), List.getElem?_eq_none (by omega)]
        rfl
    have pre2 : B.As <+: pick ps (List.range na ++ κs) := by
      unfold pick
      rw [List.map_append]
      exact ⟨_, by rw [← hpk]; rfl⟩
    subst e
    exact ⟨G, _, C.subG S nd pre2, ⟨u.s, pre2⟩, RepV.ren (fun k p hk e => pick_idx hk e) r am⟩
end
/-! ### THE RULE for a def -/
abbrev cxN (P : Program) (w : World) (K : PySem.W.Frag) (mg : Str → Option Value) (base : Heap) (N : List Str) (x : Str) (sc : Scope) (f : Addr) (cdv : Value) (A : Around) (outer : List Env) (s : Shared) (H : Hp) (E : XK) : Cx := (cxOf CX0 P w K mg base N x sc f cdv A outer s H E).nox
theorem slots_start {K : PySem.W.Frag} {G : Hp} {ps : List Addr} {vs : List V} {svs : List SV} {N : List Str} (r : RepVs K G ps vs svs) : Slots K G ps (L2.start N vs) (svs.map some ++ List.replicate (N.length - svs.length) none) := by
  unfold L2.start
  rw [Paired.length r]
  refine pd_app ?_ ?_
  · induction r with
    | nil => exact .nil
    | cons h _ ih => exact .cons h ih
  · generalize N.length - svs.length = n
    induction n with
    | zero => exact .nil
    | succ n ih => exact .cons trivial ih
theorem cal_mk {P : Program} {w : World} {K : PySem.W.Frag} {mg : Str → Option Value} {base : Heap} {x : Str} {st : Stmt} {f : Addr} {fd : FuncData} {N ps : List Str} {k : Nat} {spec : Spec} (F : Fun K x x st f fd) (hm : mg x = some (.ref f)) (b : Binds K fd ps []) (S : FnScope N ps (defScope st))
    (body : ∀ (cdv : Value) (A : Around) (outer : List Env) (s : Shared) (H : Hp) (E : XK), Room k (A.deeper (envOfC x (defScope st) s.heap.objs.size f cdv)) → ∀ svs cs sv cs', spec svs cs sv cs' → svs.length = ps.length →
      SX (cxN P w K mg base N x (defScope st) f cdv A outer s H E) (lenB cs.length) (defBody st) (svs.map some ++ List.replicate (N.length - svs.length) none) cs { nx := fun _ cs2 => RetOk cs.length sv cs' (.val .none) cs2, rt := fun s2 cs2 => RetOk cs.length sv cs' s2 cs2 }) :
    Cal P w K mg base (k + 1) x ps.length spec := by
  refine ⟨f, fd, ps, F.ok S (fun vs H Q E ⟨G, qs, svs, cs, s, cs', h, hl, C, r, q⟩ => by rw [Paired.length r, hl]) (fun cdv A outer s H vs Q E hr ⟨G, qs, svs, cs, sv, cs', h, hl, C, r, q⟩ => ⟨_, pss_any, ?_⟩), hm, F.kp, b⟩
  have hb := body cdv A outer s H E hr svs cs sv cs' h hl
  refine hb ⟨G, H, qs⟩ G qs _ H C.len C (slots_start r) _ ⟨fun sl2 cs2 G' ps' σ' H' C' u' S' e => ?_, fun s2 cs2 G' ps' v H' C' u' r' e => ?_, fun _ _ _ _ _ _ _ _ _ e => e.elim, fun _ _ _ _ _ _ _ _ _ e => e.elim⟩
  · obtain ⟨G2, ps2, C2, u2, r2⟩ := e.go C' C.len u' (show RepV K G' ps' .non (.val .none) from Rep.non)
    exact q .non G2 ps2 H' C2 u2 r2
  · obtain ⟨G2, ps2, C2, u2, r2⟩ := e.go C' C.len u' r'
    exact q v G2 ps2 H' C2 u2 r2
/-- nothing is promised -/
theorem cal_none {P : Program} {w : World} {K : PySem.W.Frag} {mg : Str → Option Value} {base : Heap} {x : Str} {st : Stmt} {f : Addr} {fd : FuncData} {ps : List Str} {k n : Nat} {spec : Spec} (F : Fun K x x st f fd) (hm : mg x = some (.ref f)) (b : Binds K fd ps []) (no : ∀ a c s d, ¬ spec a c s d) : Cal P w K mg base k x n spec :=
  ⟨f, fd, ps, ⟨fun vs H Q E ⟨_, _, _, _, _, _, h, _⟩ => (no _ _ _ _ h).elim, fun A outer s H args us vs Q E _ _ _ _ ⟨_, _, _, _, _, _, h, _⟩ => (no _ _ _ _ h).elim⟩, hm, F.kp, b⟩
section
variable {X : Cx} {na : NA} {sl sl' : Sl} {cs cs1 cs2 cs3 : Cs} {s t u : SV} {pos : Pos} {x : Str} {E : DEnds} {N : List Str} {k j n : Nat} {spec : Spec} {e : Expr} {es : List Expr} {p : Pos}
/-- a call that gives a new cell, some cells are handed on -/
theorem ev_callN {ss svs : List SV} {κ : List Nat} {d d' : Cs} {o : CC} {m i : Nat} (c : Cal X.prog X.w X.K X.mg X.base k x n spec) (hr : Room j X.A) (hk : k ≤ j) (hg : Gl X x)
    (ha : AV X na (e :: es) sl cs ss cs1) (S : Sel cs1 κ d) (hren : RenA κ svs ss) (h : spec svs d (.cell i) (d' ++ [o])) (hi : d'.length = i) (hs : SetA cs1 κ d' cs2) (ac : AppC cs2 o m cs3) (hf : d'.all CC.flat = true) (hfo : o.flat = true) (hod : o ≠ .dead) (nd : κ.Nodup) (hn : Nat.beq svs.length n = true)
    (hdb : (x == ("__debug__" : Str)) = false := by decide) (he : starEach (e :: es) X.env = (false, eval e X.env) :: starEach es X.env := by rfl) (hpl : (backTo pos (starEach es X.env)).any (·.1) = false := by rfl) :
    EV X na (.Call (.Name x p) (e :: es) [] pos) sl cs (.cell m) cs3 :=
  ev_callR c hr hk hg (fun B G ps σ H hna C Sl Q q => ha B G ps σ H hna C Sl _ fun vs G1 ps1 H1 C1 u1 r1 => by
    show spM X.K n spec (vs ++ []) H1 Q E0
    rw [List.append_nil]
    refine ⟨G1, pick ps1 κ, svs, d, _, _, h, Nat.eq_of_beq_eq_true hn, C1.enter S nd, RenA.reps C1 S hren r1, fun v G' ps' H' C' u' r' => ?_⟩
    have C2 := C1.leave S nd C' (List.prefix_append d' [o]) hf hs
    have lpick : (pick ps1 κ).length = i := by
      rw [show (pick ps1 κ).length = κ.length from List.length_map _, hs.length.2, hi]
    obtain ⟨q1, hq1, rfl⟩ := r'
    have ho : (d' ++ [o])[i]? = some o := by rw [List.getElem?_append_right (by omega), hi, Nat.sub_self]; rfl
    obtain ⟨g1, g2, g3⟩ := C'.cell i q1 o hq1 ho
    have hG : G' q1 = none := g3.elim (fun z => (hod z).elim) id
    have hH1 : H1 q1 = none := g2.elim id fun m => by
      obtain ⟨l, el⟩ := List.getElem?_of_mem (show q1 ∈ pick ps1 κ from m)
      have h1 := nd_at C'.nd (pre_get u'.p el) hq1
      have h2 := (List.getElem?_eq_some_iff.mp el).1
      omega
    have C3 := C2.adoptCell (c := o) (C1.notMem hH1) hG (C1.free0 hH1) (RepC.flat g1 hfo)
    obtain ⟨rfl, rfl⟩ := ac.at
    exact q (.ref q1) G' (ps1 ++ [q1]) H' C3 (u1.trans ⟨u'.s, List.prefix_append _ _⟩) ⟨q1, by rw [← C2.len]; exact pre_snoc_get ps1 q1, rfl⟩) hdb he hpl
/-- .. the new cell is taken as data -/
theorem ev_callNV {ss svs : List SV} {κ : List Nat} {d d' : Cs} {o : CC} {r : PyData} {i : Nat} (c : Cal X.prog X.w X.K X.mg X.base k x n spec) (hr : Room j X.A) (hk : k ≤ j) (hg : Gl X x)
    (ha : AV X na (e :: es) sl cs ss cs1) (S : Sel cs1 κ d) (hren : RenA κ svs ss) (h : spec svs d (.cell i) (d' ++ [o])) (hi : d'.length = i) (hs : SetA cs1 κ d' cs2) (ho' : o.data = some r) (hf : d'.all CC.flat = true) (nd : κ.Nodup) (hn : Nat.beq svs.length n = true)
    (hdb : (x == ("__debug__" : Str)) = false := by decide) (he : starEach (e :: es) X.env = (false, eval e X.env) :: starEach es X.env := by rfl) (hpl : (backTo pos (starEach es X.env)).any (·.1) = false := by rfl) :
    EV X na (.Call (.Name x p) (e :: es) [] pos) sl cs (.val r) cs2 :=
  ev_callR c hr hk hg (fun B G ps σ H hna C Sl Q q => ha B G ps σ H hna C Sl _ fun vs G1 ps1 H1 C1 u1 r1 => by
    show spM X.K n spec (vs ++ []) H1 Q E0
    rw [List.append_nil]
    refine ⟨G1, pick ps1 κ, svs, d, _, _, h, Nat.eq_of_beq_eq_true hn, C1.enter S nd, RenA.reps C1 S hren r1, fun v G' ps' H' C' u' r' => ?_⟩
    have C2 := C1.leave S nd C' (List.prefix_append d' [o]) hf hs
    have lpick : (pick ps1 κ).length = i := by
      rw [show (pick ps1 κ).length = κ.length from List.length_map _, hs.length.2, hi]
    obtain ⟨q1, hq1, rfl⟩ := r'
    have ho : (d' ++ [o])[i]? = some o := by rw [List.getElem?_append_right (by omega), hi, Nat.sub_self]; rfl
    obtain ⟨g1, g2, g3⟩ := C'.cell i q1 o hq1 ho
    have hod : o ≠ .dead := fun z => by subst z; cases ho'
    have hG : G' q1 = none := g3.elim (fun z => (hod z).elim) id
    have hH1 : H1 q1 = none := g2.elim id fun m => by
      obtain ⟨l, el⟩ := List.getElem?_of_mem (show q1 ∈ pick ps1 κ from m)
      have h1 := nd_at C'.nd (pre_get u'.p el) hq1
      have h2 := (List.getElem?_eq_some_iff.mp el).1
      omega
    obtain ⟨ob, hH, hrr⟩ := g1.data ho'
    exact q (.ref q1) _ ps1 H' (C2.adopt (o := ob) (C1.notMem hH1) hG (C1.free0 hH1) hH) (u1.trans ⟨u'.s.trans (Same.new hG), List.prefix_refl _⟩) (hrr _ (Same.new hG) upd_same)) hdb he hpl
/-! ### what the module's names hold -/
structure Glo (K : PySem.W.Frag) (mg : Str → Option Value) (x : Str) (d : PyData) : Prop where
  ex : ∃ u v, mg x = some u ∧ RelV v u ∧ ∀ G, Rep K G v d
theorem ev_glo {d : PyData} (h : Glo X.K X.mg x d) (hg : Gl X x) (hdb : (x == ("__debug__" : Str)) = false := by decide) : EV X na (.Name x pos) sl cs (.val d) cs := by
  obtain ⟨u, v, h1, h2, h3⟩ := h.ex
  exact ev_of (pe_glob hg h1 h2 hdb) (de_c h3)
/-! ### the slots' names, looked at once -/
def tabOk (N : List Str) (sc : Scope) : Bool := N.all fun x => (match sc.names.lookup x with
  | some .local => true
  | some .cell => true
  | _ => false) && !(x == ("__debug__" : Str)) && !(x == ("__classdict__" : Str))
theorem tab_of {sc : Scope} {m : Nat} (h : tabOk (N.take m) sc = true) (hN : X.N = N) (hs : X.env.scope = sc) (nd : N.Nodup) (hf : ∀ x, X.fn x = true) : Tab X m ∧ TabL X m := by
  subst hN hs
  have key : ∀ x ∈ X.N.take m, Loc X.env.scope x ∧ (x == ("__debug__" : Str)) = false ∧ (x == ("__classdict__" : Str)) = false := fun x hx => by
    have := List.all_eq_true.mp h x hx
    simp only [Bool.and_eq_true, Bool.not_eq_true'] at this
    refine ⟨?_, this.1.2, this.2⟩
    have q := this.1.1
    unfold L2.Loc
    revert q
    cases X.env.scope.names.lookup x with
    | none => intro q; cases q
    | some k => cases k <;> intro q <;> first | exact .inl rfl | exact .inr rfl | cases q
  exact ⟨⟨nd, fun x hx => ⟨(key x hx).1.elim .inl fun h => .inr (.inl h), (key x hx).2⟩⟩, ⟨nd, fun x hx => (key x hx).1, hf⟩⟩
/-- a def of the module's top, as it stands behind it -/
structure DefAt (K : PySem.W.Frag) (mg : Str → Option Value) (x : Str) (st : Stmt) (ps : List Str) : Prop where
  ex : ∃ (f : Addr) (fd : FuncData), Fun K x x st f fd ∧ mg x = some (.ref f) ∧ Binds K fd ps []
theorem cal_def {P : Program} {w : World} {K : PySem.W.Frag} {mg : Str → Option Value} {base : Heap} {x : Str} {st : Stmt} {N ps : List Str} {k m : Nat} {spec : Spec} (D : DefAt K mg x st ps) (S : FnScope N ps (defScope st)) (tb : tabOk (N.take m) (defScope st) = true)
    (body : ∀ (f : Addr) (cdv : Value) (A : Around) (outer : List Env) (s : Shared) (H : Hp) (E : XK), Room k (cxN P w K mg base N x (defScope st) f cdv A outer s H E).A → Tab (cxN P w K mg base N x (defScope st) f cdv A outer s H E) m → TabL (cxN P w K mg base N x (defScope st) f cdv A outer s H E) m →
      ∀ svs cs sv cs', spec svs cs sv cs' → svs.length = ps.length →
      SX (cxN P w K mg base N x (defScope st) f cdv A outer s H E) (lenB cs.length) (defBody st) (svs.map some ++ List.replicate (N.length - svs.length) none) cs { nx := fun _ cs2 => RetOk cs.length sv cs' (.val .none) cs2, rt := fun s2 cs2 => RetOk cs.length sv cs' s2 cs2 }) :
    Cal P w K mg base (k + 1) x ps.length spec := by
  obtain ⟨f, fd, F, hm, b⟩ := D.ex
  refine cal_mk F hm b S fun cdv A outer s H E hr svs cs sv cs' h hl => ?_
  obtain ⟨T, TL⟩ := tab_of (X := cxN P w K mg base N x (defScope st) f cdv A outer s H E) tb rfl rfl S.nd (fun _ => rfl)
  exact body f cdv A outer s H E hr T TL svs cs sv cs' h hl
theorem cal_zero {P : Program} {w : World} {K : PySem.W.Frag} {mg : Str → Option Value} {base : Heap} {x : Str} {st : Stmt} {ps : List Str} {k n : Nat} {spec : Spec} (D : DefAt K mg x st ps) (no : ∀ a c s d, ¬ spec a c s d) : Cal P w K mg base k x n spec := by
  obtain ⟨f, fd, F, hm, b⟩ := D.ex
  exact cal_none F hm b no
end
end DL
namespace DL
open PySem PySem.Spec PyProof.Rows L2

/-! ### comprehensions -/
def wipeS (sl : Sl) : List Nat → Sl
  | [] => sl
  | v :: vs => (wipeS sl vs).set v none
theorem wipe_get (σ : L2.St) (i : Nat) : ∀ vs : List Nat, (wipe σ vs)[i]? = if i ∈ vs then (σ[i]?).map fun _ => none else σ[i]?
  | [] => by simp [wipe]
  | v :: vs => by
    have ih := wipe_get σ i vs
    unfold wipe
    by_cases h : i = v
    · subst h
      rw [if_pos List.mem_cons_self]
      by_cases hl : i < σ.length
      · rw [List.getElem?_set_self (by rw [wipe_length]; exact hl), List.getElem?_eq_getElem hl]
        rfl
      · rw [List.getElem?_eq_none (by rw [List.length_set, wipe_length]; omega), List.getElem?_eq_none (by omega)]
        rfl
    · rw [List.getElem?_set_ne (Ne.symm h), ih]
      by_cases m : i ∈ vs
      · rw [if_pos m, if_pos (List.mem_cons_of_mem _ m)]
      · rw [if_neg m, if_neg (fun z => (List.mem_cons.mp z).elim h m)]
theorem wipe_set {σ : L2.St} {i : Nat} {o : Option V} {vs : List Nat} (h : i ∈ vs) : wipe (σ.set i o) vs = wipe σ vs := by
  apply List.ext_getElem?
  intro j
  rw [wipe_get, wipe_get]
  by_cases e : j = i
  · subst e
    rw [if_pos h, if_pos h]
    by_cases hl : j < σ.length
    · rw [List.getElem?_set_self hl, List.getElem?_eq_getElem hl]
      rfl
    · rw [List.getElem?_eq_none (by rw [List.length_set]; omega), List.getElem?_eq_none (by omega)]
  · rw [List.getElem?_set_ne (Ne.symm e)]
theorem wipe_idem (σ : L2.St) (vs : List Nat) : wipe (wipe σ vs) vs = wipe σ vs := by
  apply List.ext_getElem?
  intro j
  rw [wipe_get, wipe_get]
  by_cases h : j ∈ vs
  · rw [if_pos h, if_pos h]
    cases σ[j]? <;> rfl
  · rw [if_neg h, if_neg h]
theorem pd_setNone {K : PySem.W.Frag} {G : Hp} {ps : List Addr} : ∀ {σ : L2.St} {sl : Sl} (i : Nat), Slots K G ps σ sl → Slots K G ps (σ.set i none) (sl.set i none)
  | _, _, _, .nil => .nil
  | _, _, 0, .cons _ t => .cons trivial t
  | _, _, i + 1, .cons q t => .cons q (pd_setNone i t)
theorem Slots.wipe {K : PySem.W.Frag} {G : Hp} {ps : List Addr} {σ : L2.St} {sl : Sl} (S : Slots K G ps σ sl) : ∀ vs : List Nat, Slots K G ps (L2.wipe σ vs) (wipeS sl vs)
  | [] => S
  | v :: vs => pd_setNone v (Slots.wipe S vs)
def DGW (K : PySem.W.Frag) (na : NA) (tg : TG) (s : SV) (sl : Sl) (cs : Cs) (vs : List Nat) (R : Sl → Cs → Prop) : Prop := ∀ B G ps σ H v, na.ok B → Core K B G ps cs H → Slots K G ps σ sl → RepV K G ps v s → ∀ Q : L2.St → Hp → Prop,
  (∀ sl' cs' G' ps' σ' H', Core K B G' ps' cs' H' → Up G ps G' ps' → Slots K G' ps' σ' sl' → L2.wipe σ' vs = L2.wipe σ vs → R sl' cs' → Q σ' H') → tg v σ H Q
def DGWs (K : PySem.W.Frag) (na : NA) (tg : TGs) (ss : List SV) (sl : Sl) (cs : Cs) (vs : List Nat) (R : Sl → Cs → Prop) : Prop := ∀ B G ps σ H ws, na.ok B → Core K B G ps cs H → Slots K G ps σ sl → RepVs K G ps ws ss → ∀ Q : L2.St → Hp → Prop,
  (∀ sl' cs' G' ps' σ' H', Core K B G' ps' cs' H' → Up G ps G' ps' → Slots K G' ps' σ' sl' → L2.wipe σ' vs = L2.wipe σ vs → R sl' cs' → Q σ' H') → tg ws σ H Q
/-- the block of a comprehension -/
abbrev blkOf (X : Cx) (scope : Scope) (st : Shared) (H : Hp) (C : Addr) (cl : List (Str × Addr)) (fp : List Addr) : Cx := X.blk st H scope (compEnvC scope cl C X.env) fp
section
variable {X : Cx} {na : NA} {sl sl' : Sl} {cs cs1 cs2 cs3 : Cs} {s t u : SV} {pos : Pos} {x : Str} {E : DEnds} {N : List Str} {vs : List Nat} {R : Sl → Cs → Prop}
def GW (X : Cx) (na : NA) (e : Expr) (s : SV) (sl : Sl) (cs : Cs) (vs : List Nat) (R : Sl → Cs → Prop) : Prop := DGW X.K na (anyG X e) s sl cs vs R
def GWs (X : Cx) (na : NA) (es : List Expr) (ss : List SV) (sl : Sl) (cs : Cs) (vs : List Nat) (R : Sl → Cs → Prop) : Prop := DGWs X.K na (anyGs X es) ss sl cs vs R
theorem gw_name {i : Nat} (nd : X.N.Nodup) (hN : X.N = N) (p : Put N sl x i s sl') (hi : i ∈ vs) (q : R sl' cs) (hl : L2.Loc X.env.scope x := by first | exact Or.inl rfl | exact Or.inr rfl) (hf : X.fn x = true ∨ X.env.scope.names.lookup x = some .local := by first | exact .inl rfl | exact .inr rfl) : GW X na (.Name x pos) s sl cs vs R := by
  subst hN
  obtain ⟨h1, h2⟩ := p.at
  subst h2
  exact fun B G ps σ H v hn C S r Q k => ⟨_, pg_name nd h1 hl hf, k _ cs G ps _ H C (Up.refl _ _) (Slots.set S r i) (wipe_set hi) q⟩
theorem gws_nil (q : R sl cs) : GWs X na [] [] sl cs vs R := fun B G ps σ H ws hn C S r Q k => by
  cases r
  exact ⟨_, pgs_nil, rfl, k sl cs G ps σ H C (Up.refl _ _) S rfl q⟩
theorem gws_cons {e : Expr} {es : List Expr} {ss : List SV} (h : GW X na e s sl cs vs fun sl' cs' => GWs X na es ss sl' cs' vs R)
    (hs : (assignEach (e :: es) X.env).map (·.2) = assign e X.env :: (assignEach es X.env).map (·.2) := by rfl) : GWs X na (e :: es) (s :: ss) sl cs vs R := fun B G ps σ H ws hn C S r Q k => by
  cases r with
  | cons r1 rr =>
    exact ⟨_, pgs_cons pg_any pgs_any hs, _, _, rfl, h B G ps σ H _ hn C S r1 _ fun sl' cs' G1 ps1 σ1 H1 C1 u1 S1 w1 q => q B G1 ps1 σ1 H1 _ hn C1 S1 (RepVs.mono u1 rr) _ fun sl2 cs2 G2 ps2 σ2 H2 C2 u2 S2 w2 => k sl2 cs2 G2 ps2 σ2 H2 C2 (u1.trans u2) S2 (w2.trans w1)⟩
theorem gw_tup {es : List Expr} {k : Nat} {ds : List PyData} {n : Nat} (hc : X.calm = true) (h : GWs X na es (ds.map SV.val) sl cs vs R) (hl : ds.length = n)
    (hn : (assignEach es X.env).length = n := by rfl) (hst : (assignEach es X.env).findIdx? (·.1) = none := by rfl) : GW X na (.Tuple es k pos) (.val (.tuple ds)) sl cs vs R := fun B G ps σ H v hna C S r Q q => by
  cases (r : Rep _ _ _ _) with
  | tup h1 h2 => exact ⟨_, pg_tup hc pgs_any hn hst, _, _, rfl, Same.seqT C.gh h1, h2.length.trans hl, h B G ps σ H _ hna C S (Reps.vs h2) Q q⟩
def anyTs (X : Cx) (es : List Expr) : TT := fun σ H Q => ∃ te, PTs X es te ∧ te σ H Q
def TVs (X : Cx) (na : NA) (es : List Expr) (sl : Sl) (cs : Cs) (b : Bool) (cs' : Cs) : Prop := DT X.K na (anyTs X es) sl cs b cs'
theorem tvs_nil : TVs X na [] sl cs true cs := fun B G ps σ H hn C S Q q => ⟨_, pts_nil, q G ps H C (Up.refl _ _)⟩
theorem tvs_one {e : Expr} {b : Bool} (h : TV X na e sl cs b cs1) : TVs X na [e] sl cs b cs1 := fun B G ps σ H hn C S Q q => ⟨_, pts_one pt_any, h B G ps σ H hn C S Q q⟩
/-- the first n cells as told -/
inductive AtC (n : Nat) (c : Cs) : Cs → Prop
  | same : AtC n c c
  | drop {d : Cs} : c.all (CC.lt n) = true → d.take n = c → AtC n c d
theorem AtC.go {K : PySem.W.Frag} {B : Bs} {G1 G : Hp} {ps1 ps : List Addr} {n : Nat} {c d : Cs} {H : Hp} (h : AtC n c d) (hn : ps1.length = n) (C : Core K B G ps d H) (hA : B.As.length ≤ n) (u : Up G1 ps1 G ps) : ∃ ps', Core K B G ps' c H ∧ Up G1 ps1 G ps' ∧ ∀ p, p ∈ ps' → p ∈ ps := by
  cases h with
  | same => exact ⟨ps, C, u, fun _ h => h⟩
  | drop h2 h3 =>
    subst h3
    refine ⟨ps.take n, C.take hA h2, ⟨u.s, ?_⟩, fun p h => (List.take_sublist n ps).subset h⟩
    obtain ⟨t, e⟩ := u.p
    rw [← e, List.take_append, List.take_of_length_le (Nat.le_of_eq hn)]
    exact List.prefix_append _ _
def famG (X : Cx) (scope : Scope) (e : Expr) : TG := fun v σ H Q => ∀ st H0 C cl fp, anyG (blkOf X scope st H0 C cl fp) e v σ H Q
def famT (X : Cx) (scope : Scope) (es : List Expr) : TT := fun σ H Q => ∀ st H0 C cl fp, anyTs (blkOf X scope st H0 C cl fp) es σ H Q
def famE (X : Cx) (scope : Scope) (e : Expr) : TE := fun σ H Q => ∀ st H0 C cl fp, anyE (blkOf X scope st H0 C cl fp) e σ H Q
/-- what a comprehension does: a new list of data -/
def LC (X : Cx) (na : NA) (elt tg iter : Expr) (ifs : List Expr) (scope : Scope) (own : List (Str × Nat)) (sl : Sl) (cs : Cs) (ds : List PyData) (cs' : Cs) : Prop := ∀ B G ps σ H, na.ok B → Core X.K B G ps cs H → Slots X.K G ps σ sl → ∀ Q : VK,
      (∀ D vs G' ps' H', Core X.K B G' ps' cs' H' → Up G ps G' ps' → D ∉ ps' → G' D = none → B.H0 D = none → H' D = some (.lst vs) → Reps X.K G' vs ds → Q (.ref D) H') → tLc (anyI X tg iter) (famG X scope tg) (famT X scope ifs) (famE X scope elt) (own.map (·.2)) σ H Q
/-- [elt for tg in iter if ..]: a new list of data -/
theorem lc_gen {elt tg iter : Expr} {ifs : List Expr} {scope : Scope} {own : List (Str × Nat)} {xs : List SV} {GC : Cs → Prop} (h : IV X na tg iter sl cs xs GC cs1)
    (a : Nat → Sl) (c c2 : Nat → Cs) (b : Nat → Bool) (v : Nat → PyData) (out : Nat → List PyData) (c0 : c 0 = cs1) (o0 : out 0 = []) (hz : xs.length ≤ 100000) (hG : ∀ i, i ≤ xs.length → GC (c i))
    (hg : ∀ i s, xs[i]? = some s → ∀ st H C cl fp, GW (blkOf X scope st H C cl fp) (lenB (c i).length) tg s (wipeS sl (own.map (·.2))) (c i) (own.map (·.2)) fun sl2 cs2 => sl2 = a i ∧ cs2 = c i)
    (ht : ∀ i s, xs[i]? = some s → ∀ st H C cl fp, TVs (blkOf X scope st H C cl fp) (lenB (c i).length) ifs (a i) (c i) (b i) (c i))
    (he : ∀ i s, xs[i]? = some s → b i = true → (∀ st H C cl fp, EV (blkOf X scope st H C cl fp) (lenB (c i).length) elt (a i) (c i) (.val (v i)) (c2 i)) ∧ AtC cs1.length (c (i + 1)) (c2 i) ∧ out (i + 1) = out i ++ [v i])
    (hn : ∀ i s, xs[i]? = some s → b i = false → c (i + 1) = c i ∧ out (i + 1) = out i)
    : LC X na elt tg iter ifs scope own sl cs (out xs.length) (c xs.length) := by
  intro B G ps σ H hna C S Q q
  refine h B G ps σ H hna C S _ fun J HG Y G1 ps1 H1 C1 u1 W hHG hY => fun D hD => ?_
  have hA : B.As.length ≤ cs1.length := by
    rw [← C1.len]
    exact C1.pre.length_le
  have hB : B.H0 D = none := C1.free0 hD
  refine lc_it W (g := famG X scope tg) (tt := famT X scope ifs) (te := famE X scope elt) (vs := own.map (·.2)) (σ := σ) (Qd := fun H => Q (.ref D) H) (fun i H' => ∃ G' ps' vs, Core X.K B G' ps' (c i) H' ∧ Up G1 ps1 G' ps' ∧ D ∉ ps' ∧ G' D = none ∧ H' D = some (.lst vs) ∧ Reps X.K G' vs (out i) ∧ (out i).length ≤ i)
    ⟨G1, ps1, [], by rw [c0]; exact C1.outside (C1.notMem hD) (C1.freeG hD) hB, Up.refl _ _, C1.notMem hD, C1.freeG hD, upd_same, by rw [o0]; exact .nil, by rw [o0]; exact Nat.le_refl _⟩ ?_ ?_ ?_
  · intro i H' hi ⟨G', ps', vs', C', u', d1, d2, d3, r, _⟩
    exact hHG G' ps' (c i) H' C' u' (hG i hi)
  · intro i w H' H'' hi ⟨G', ps', vs', C', u', d1, d2, d3, r, hlen⟩ y
    obtain ⟨s, G2, es, C2, u2, r2, sm, nw⟩ := hY i H' w H'' G' ps' (c i) y C' u' (hG i (Nat.le_of_lt hi))
    have e2 : H'' D = some (.lst vs') := sm _ _ d3
    have g2 : G2 D = none := by
      cases q0 : G2 D with
      | none => rfl
      | some o =>
        rcases nw D (by rw [q0]; exact Option.some_ne_none _) with z | z
        · exact (z d2).elim
        · rw [d3] at z; cases z
    -- the turn is run from where it stands
    have C2s := C2.sub
    have keep : ∀ {G3 ps3 cs3 H3}, Core X.K ⟨G2, H'', ps'⟩ G3 ps3 cs3 H3 → H3 D = some (.lst vs') ∧ G3 D = none ∧ D ∉ ps3 := fun {G3 ps3 cs3 H3} C3 => by
      refine ⟨C3.h0 D _ e2 d1, ?_, fun m => ?_⟩
      · cases q0 : G3 D with
        | none => rfl
        | some o =>
          rcases C3.nw D (by rw [q0]; exact Option.some_ne_none _) with z | z
          · exact (z g2).elim
          · have z' : H'' D = none := z
            rw [e2] at z'; cases z'
      · rcases C3.own m with z | z
        · have z' : H'' D = none := z
          rw [e2] at z'; cases z'
        · exact d1 z
    have Sw : Slots X.K G2 ps' (L2.wipe σ (own.map (·.2))) (wipeS sl (own.map (·.2))) := (Slots.mono ((u1.trans u').trans u2) S).wipe _
    intro st H0 Cc cl fp
    refine hg i s es st H0 Cc cl fp ⟨G2, H'', ps'⟩ G2 ps' _ H'' w C2.len C2s Sw r2 _ fun sl3 cs3 G3 ps3 σ3 H3 C3 u3 S3 w3 ⟨ea, ec⟩ => ?_
    subst ea ec
    refine ⟨w3.trans (wipe_idem _ _), fun st H0 Cc cl fp => ?_⟩
    refine ht i s es st H0 Cc cl fp ⟨G2, H'', ps'⟩ G3 ps3 σ3 H3 C2.len C3 S3 _ fun G4 ps4 H4 C4 u4 => ?_
    cases hb : b i with
    | false =>
      obtain ⟨k1, k2, k3⟩ := keep C4
      obtain ⟨n1, n2⟩ := hn i s es hb
      show ∃ _, _
      refine ⟨G4, ps4, vs', by rw [n1]; exact C2.back C4, ((u'.trans u2).trans u3).trans u4, k3, k2, k1, by rw [n2]; exact Reps.mono ((u2.trans u3).trans u4).s r, by rw [n2]; omega⟩
    | true =>
      obtain ⟨n1, n2, n3⟩ := he i s es hb
      show ∀ _, _
      intro st H0 Cc cl fp
      refine n1 st H0 Cc cl fp ⟨G2, H'', ps'⟩ G4 ps4 σ3 H4 C2.len C4 (Slots.mono u4 S3) _ fun z G5 ps5 H5 C5 u5 r5 => ?_
      obtain ⟨k1, k2, k3⟩ := keep C5
      have u05 : Up G1 ps1 G5 ps5 := (((u'.trans u2).trans u3).trans u4).trans u5
      obtain ⟨ps6, C6, u6, sub⟩ := n2.go C1.len (C2.back C5) hA u05
      have hv : (out i).length = vs'.length := r.length.symm
      refine ⟨vs', k1, szl (by omega), G5, ps6, vs' ++ [z], C6.outside (fun m => k3 (sub _ m)) k2 hB, u6, fun m => k3 (sub _ m), k2, upd_same, ?_, ?_⟩
      · rw [n3]
        exact (Reps.mono (((u2.trans u3).trans u4).trans u5).s r).append (.cons r5 .nil)
      · rw [n3, List.length_append]
        show (out i).length + 1 ≤ i + 1
        omega
  · intro H' ⟨G', ps', vs', C', u', d1, d2, d3, r, _⟩
    exact q D vs' G' ps' H' C' (u1.trans u') d1 d2 hB d3 r
theorem pe_LC {elt tg iter : Expr} {ifs : List Expr} {scope : Scope} {own : List (Str × Nat)} (hc : X.calm = true) (nd : X.N.Nodup) (ok : BlkOk X.N X.env.scope scope own) (hs : ∀ x, foldedSetIterable iter X.env x = pure x := by intro _; rfl) : PE X (.ListComp elt [⟨tg, iter, ifs, 0⟩] scope pos) (tLc (anyI X tg iter) (famG X scope tg) (famT X scope ifs) (famE X scope elt) (own.map (·.2))) :=
  pe_lc (wi := anyI X tg iter) (g := famG X scope tg) (tt := famT X scope ifs) (te := famE X scope elt) hc nd pi_any ok
    (fun st H0 C cl fp => ⟨fun pins s σ H v u Q I r h => pg_any.run pins s σ H v u Q I r (h st H0 C cl fp)⟩) (fun st H0 C cl fp => ⟨fun pins s σ H Q I h => by obtain ⟨te, p, h⟩ := h st H0 C cl fp; exact p.run pins s σ H Q I h⟩)
    (fun st H0 C cl fp => ⟨fun pins s σ H Q I h => pe_any.run pins s σ H Q I (h st H0 C cl fp)⟩) hs
/-- as data -/
theorem ev_LC {elt tg iter : Expr} {ifs : List Expr} {scope : Scope} {own : List (Str × Nat)} {ds : List PyData} (hc : X.calm = true) (nd : X.N.Nodup) (ok : BlkOk X.N X.env.scope scope own) (d : LC X na elt tg iter ifs scope own sl cs ds cs1) (hs : ∀ x, foldedSetIterable iter X.env x = pure x := by intro _; rfl) : EV X na (.ListComp elt [⟨tg, iter, ifs, 0⟩] scope pos) sl cs (.val (.list ds)) cs1 :=
  ev_of (pe_LC hc nd ok hs) fun B G ps σ H hna C S Q q => d B G ps σ H hna C S Q fun D vs G' ps' H' C' u' d1 d2 d3 d4 r =>
    q (.ref D) _ ps' H' (C'.adopt d1 d2 d3 d4) (u'.trans ⟨Same.new d2, List.prefix_refl _⟩) (Rep.lst (SqL.of upd_same) (Reps.mono (Same.new d2) r))
theorem ev_lc {elt tg iter : Expr} {ifs : List Expr} {scope : Scope} {own : List (Str × Nat)} {xs : List SV} {GC : Cs → Prop} (hc : X.calm = true) (nd : X.N.Nodup) (ok : BlkOk X.N X.env.scope scope own) (h : IV X na tg iter sl cs xs GC cs1)
    (a : Nat → Sl) (c c2 : Nat → Cs) (b : Nat → Bool) (v : Nat → PyData) (out : Nat → List PyData) (c0 : c 0 = cs1) (o0 : out 0 = []) (hz : xs.length ≤ 100000) (hG : ∀ i, i ≤ xs.length → GC (c i))
    (hg : ∀ i s, xs[i]? = some s → ∀ st H C cl fp, GW (blkOf X scope st H C cl fp) (lenB (c i).length) tg s (wipeS sl (own.map (·.2))) (c i) (own.map (·.2)) fun sl2 cs2 => sl2 = a i ∧ cs2 = c i)
    (ht : ∀ i s, xs[i]? = some s → ∀ st H C cl fp, TVs (blkOf X scope st H C cl fp) (lenB (c i).length) ifs (a i) (c i) (b i) (c i))
    (he : ∀ i s, xs[i]? = some s → b i = true → (∀ st H C cl fp, EV (blkOf X scope st H C cl fp) (lenB (c i).length) elt (a i) (c i) (.val (v i)) (c2 i)) ∧ AtC cs1.length (c (i + 1)) (c2 i) ∧ out (i + 1) = out i ++ [v i])
    (hn : ∀ i s, xs[i]? = some s → b i = false → c (i + 1) = c i ∧ out (i + 1) = out i)
    (hs : ∀ x, foldedSetIterable iter X.env x = pure x := by intro _; rfl) : EV X na (.ListComp elt [⟨tg, iter, ifs, 0⟩] scope pos) sl cs (.val (.list (out xs.length))) (c xs.length) := by
  exact ev_LC hc nd ok (lc_gen h a c c2 b v out c0 o0 hz hG hg ht he hn) hs
end
end DL
namespace DL
open PySem PySem.Spec PyProof.Rows L2

/-! ### equal data -/
section
variable {K : PySem.W.Frag} {G H : Hp}
mutual
theorem Rep.dp (g : Same G H) : ∀ {v : V} {d : PyData}, Rep K G v d → d.canLay0 = true → Dp K H v d
  | _, _, .non, _ => .non
  | _, _, .bl b, _ => .bl b
  | _, _, .int i, _ => .int i
  | _, _, .str x, _ => .str x
  | _, _, .lst h r, l => .lst (g.seq h) (Reps.dp g r (by simpa only [PyData.canLay0] using l))
  | _, _, .tup h r, l => .tup (Same.seqT g h) (Reps.dp g r (by simpa only [PyData.canLay0] using l))
  | _, _, .dct _ _, l => by simp [PyData.canLay0] at l
theorem Reps.dp (g : Same G H) : ∀ {v : List V} {d : List PyData}, Reps K G v d → PyData.canLayAll0 d = true → DpAll K H v d
  | _, _, .nil, _ => .nil
  | _, _, .cons h r, l => by
    simp only [PyData.canLayAll0, Bool.and_eq_true] at l
    exact .cons (Rep.dp g h l.1) (Reps.dp g r l.2)
end
end
section
variable {X : Cx} {na : NA} {sl sl' : Sl} {cs cs1 cs2 cs3 : Cs} {s t u : SV} {pos : Pos} {x : Str} {E : DEnds} {N : List Str} {a b : Expr}
/-- what is read as one datum: data, or a cell of data -/
inductive IsDat (cs : Cs) : SV → PyData → Prop
  | val {d : PyData} : IsDat cs (.val d) d
  | cell {k : Nat} {c : CC} {d : PyData} : cs[k]? = some c → c.data = some d → IsDat cs (.cell k) d
theorem IsDat.dp {K : PySem.W.Frag} {B : Bs} {G : Hp} {ps : List Addr} {H : Hp} {v : V} {d : PyData} (C : Core K B G ps cs H) (r : RepV K G ps v s) (h : IsDat cs s d) (l : d.canLay0 = true) : Dp K H v d := by
  cases h with
  | val => exact Rep.dp C.gh r l
  | @cell k c _ hc hd =>
    obtain ⟨p, rfl, _, rc⟩ := C.cellAt r hc
    cases c with
    | lst xs =>
      obtain ⟨ws, h1, h2⟩ := rc
      cases q : svData xs with
      | none => simp [CC.data, q] at hd
      | some ds =>
        simp [CC.data, q] at hd
        subst hd
        exact .lst (SqL.of h1) (Reps.dp C.gh (RepVs.data h2 q) (by simpa only [PyData.canLay0] using l))
    | dct kvs =>
      simp only [CC.data, Option.map_eq_some_iff] at hd
      obtain ⟨es, _, e⟩ := hd
      subst e
      simp [PyData.canLay0] at l
    | ins _ _ => simp [CC.data] at hd
    | dead => simp [CC.data] at hd
    | frz _ _ _ => simp [CC.data] at hd
    | tup _ => simp [CC.data] at hd
theorem rv_eqD {K : PySem.W.Frag} {d e : PyData} (hd : IsDat cs s d) (he : IsDat cs t e) (sd : SeqAt.shaped d = true) (se : SeqAt.shaped e = true) : RV K na (rEqD K) s t cs (.val (.bool (PyData.eqv d e))) cs := fun B G ps H v w hn C r1 r2 Q q =>
  ⟨d, e, hd.dp C r1 (SeqAt.canLay_of_shaped sd), he.dp C r2 (SeqAt.canLay_of_shaped se), sd, se, q _ G ps H C (Up.refl _ _) (Rep.bl _)⟩
theorem rv_neD {K : PySem.W.Frag} {d e : PyData} (hd : IsDat cs s d) (he : IsDat cs t e) (sd : SeqAt.shaped d = true) (se : SeqAt.shaped e = true) : RV K na (rNeD K) s t cs (.val (.bool (!PyData.eqv d e))) cs := fun B G ps H v w hn C r1 r2 Q q =>
  ⟨d, e, hd.dp C r1 (SeqAt.canLay_of_shaped sd), he.dp C r2 (SeqAt.canLay_of_shaped se), sd, se, q _ G ps H C (Up.refl _ _) (Rep.bl _)⟩
theorem ev_eqD {d e : PyData} {k : Nat} (hr : Room k X.A) (ha : EV X na a sl cs s cs1) (hb : EV X na b sl cs1 t cs2) (hd : IsDat cs2 s d) (he : IsDat cs2 t e) (sd : SeqAt.shaped d = true) (se : SeqAt.shaped e = true) : EV X na (.Compare a [.Eq] [b] pos) sl cs (.val (.bool (PyData.eqv d e))) cs2 :=
  ev_cmp (op_eqD (by have := hr.un; omega)) (nomark _) ha hb (rv_eqD hd he sd se)
theorem ev_neD {d e : PyData} {k : Nat} (hr : Room k X.A) (ha : EV X na a sl cs s cs1) (hb : EV X na b sl cs1 t cs2) (hd : IsDat cs2 s d) (he : IsDat cs2 t e) (sd : SeqAt.shaped d = true) (se : SeqAt.shaped e = true) : EV X na (.Compare a [.NotEq] [b] pos) sl cs (.val (.bool (!PyData.eqv d e))) cs2 :=
  ev_cmp (op_neD (by have := hr.un; omega)) (nomark _) ha hb (rv_neD hd he sd se)
theorem tv_eqD {d e : PyData} {k : Nat} (hr : Room k X.A) (ha : EV X na a sl cs s cs1) (hb : EV X na b sl cs1 t cs2) (hd : IsDat cs2 s d) (he : IsDat cs2 t e) (sd : SeqAt.shaped d = true) (se : SeqAt.shaped e = true) : TV X na (.Compare a [.Eq] [b] pos) sl cs (PyData.eqv d e) cs2 :=
  tv_cmp (op_eqD (by have := hr.un; omega)) (nomark _) ha hb (rv_eqD hd he sd se)
theorem tv_neD {d e : PyData} {k : Nat} (hr : Room k X.A) (ha : EV X na a sl cs s cs1) (hb : EV X na b sl cs1 t cs2) (hd : IsDat cs2 s d) (he : IsDat cs2 t e) (sd : SeqAt.shaped d = true) (se : SeqAt.shaped e = true) : TV X na (.Compare a [.NotEq] [b] pos) sl cs (!PyData.eqv d e) cs2 :=
  tv_cmp (op_neD (by have := hr.un; omega)) (nomark _) ha hb (rv_neD hd he sd se)
/-- flat ones -/
theorem rv_eqI {K : PySem.W.Frag} {i j : Int} : RV K na rEq (.val (.int i)) (.val (.int j)) cs (.val (.bool (decide (i = j)))) cs := fun B G ps H v w hn C r1 r2 Q q => by
  rw [Rep.intI r1, Rep.intI r2]
  refine ⟨rfl, ?_⟩
  have e : decide (V.int i = V.int j) = decide (i = j) := by simp
  rw [e]
  exact q _ G ps H C (Up.refl _ _) (Rep.bl _)
theorem rv_neI {K : PySem.W.Frag} {i j : Int} : RV K na rNe (.val (.int i)) (.val (.int j)) cs (.val (.bool (!decide (i = j)))) cs := fun B G ps H v w hn C r1 r2 Q q => by
  rw [Rep.intI r1, Rep.intI r2]
  refine ⟨rfl, ?_⟩
  have e : decide (V.int i = V.int j) = decide (i = j) := by simp
  rw [e]
  exact q _ G ps H C (Up.refl _ _) (Rep.bl _)
theorem rv_eqS {K : PySem.W.Frag} {i j : Str} : RV K na rEq (.val (.str i)) (.val (.str j)) cs (.val (.bool (decide (i = j)))) cs := fun B G ps H v w hn C r1 r2 Q q => by
  rw [Rep.strI r1, Rep.strI r2]
  refine ⟨rfl, ?_⟩
  have e : decide (V.str i = V.str j) = decide (i = j) := by simp
  rw [e]
  exact q _ G ps H C (Up.refl _ _) (Rep.bl _)
theorem rv_neS {K : PySem.W.Frag} {i j : Str} : RV K na rNe (.val (.str i)) (.val (.str j)) cs (.val (.bool (!decide (i = j)))) cs := fun B G ps H v w hn C r1 r2 Q q => by
  rw [Rep.strI r1, Rep.strI r2]
  refine ⟨rfl, ?_⟩
  have e : decide (V.str i = V.str j) = decide (i = j) := by simp
  rw [e]
  exact q _ G ps H C (Up.refl _ _) (Rep.bl _)
theorem ev_eqI {i j : Int} (ha : EV X na a sl cs (.val (.int i)) cs1) (hb : EV X na b sl cs1 (.val (.int j)) cs2) : EV X na (.Compare a [.Eq] [b] pos) sl cs (.val (.bool (decide (i = j)))) cs2 := ev_cmp op_eq (nomark _) ha hb rv_eqI
theorem ev_neI {i j : Int} (ha : EV X na a sl cs (.val (.int i)) cs1) (hb : EV X na b sl cs1 (.val (.int j)) cs2) : EV X na (.Compare a [.NotEq] [b] pos) sl cs (.val (.bool (!decide (i = j)))) cs2 := ev_cmp op_ne (nomark _) ha hb rv_neI
theorem ev_eqS {i j : Str} (ha : EV X na a sl cs (.val (.str i)) cs1) (hb : EV X na b sl cs1 (.val (.str j)) cs2) : EV X na (.Compare a [.Eq] [b] pos) sl cs (.val (.bool (decide (i = j)))) cs2 := ev_cmp op_eq (nomark _) ha hb rv_eqS
theorem ev_neS {i j : Str} (ha : EV X na a sl cs (.val (.str i)) cs1) (hb : EV X na b sl cs1 (.val (.str j)) cs2) : EV X na (.Compare a [.NotEq] [b] pos) sl cs (.val (.bool (!decide (i = j)))) cs2 := ev_cmp op_ne (nomark _) ha hb rv_neS
theorem tv_eqI {i j : Int} (ha : EV X na a sl cs (.val (.int i)) cs1) (hb : EV X na b sl cs1 (.val (.int j)) cs2) : TV X na (.Compare a [.Eq] [b] pos) sl cs (decide (i = j)) cs2 := tv_cmp op_eq (nomark _) ha hb rv_eqI
theorem tv_neI {i j : Int} (ha : EV X na a sl cs (.val (.int i)) cs1) (hb : EV X na b sl cs1 (.val (.int j)) cs2) : TV X na (.Compare a [.NotEq] [b] pos) sl cs (!decide (i = j)) cs2 := tv_cmp op_ne (nomark _) ha hb rv_neI
theorem tv_eqS {i j : Str} (ha : EV X na a sl cs (.val (.str i)) cs1) (hb : EV X na b sl cs1 (.val (.str j)) cs2) : TV X na (.Compare a [.Eq] [b] pos) sl cs (decide (i = j)) cs2 := tv_cmp op_eq (nomark _) ha hb rv_eqS
theorem tv_neS {i j : Str} (ha : EV X na a sl cs (.val (.str i)) cs1) (hb : EV X na b sl cs1 (.val (.str j)) cs2) : TV X na (.Compare a [.NotEq] [b] pos) sl cs (!decide (i = j)) cs2 := tv_cmp op_ne (nomark _) ha hb rv_neS
/-- is None -/
def PyData.isNone : PyData → Bool
  | .none => true
  | _ => false
theorem Rep.isNon {K : PySem.W.Frag} {G : Hp} {v : V} {d : PyData} (h : Rep K G v d) : decide (v = .non) = PyData.isNone d := by cases h <;> simp [PyData.isNone]
theorem rv_isN {K : PySem.W.Frag} {d : PyData} : RV K na (fun x y H Q => y = .non ∧ Q (.bl (decide (x = .non))) H) (.val d) (.val .none) cs (.val (.bool (PyData.isNone d))) cs := fun B G ps H v w hn C r1 r2 Q q =>
  ⟨Rep.noneI r2, by rw [Rep.isNon r1]; exact q _ G ps H C (Up.refl _ _) (Rep.bl _)⟩
theorem rv_notN {K : PySem.W.Frag} {d : PyData} : RV K na (fun x y H Q => y = .non ∧ Q (.bl (!decide (x = .non))) H) (.val d) (.val .none) cs (.val (.bool (!PyData.isNone d))) cs := fun B G ps H v w hn C r1 r2 Q q =>
  ⟨Rep.noneI r2, by rw [Rep.isNon r1]; exact q _ G ps H C (Up.refl _ _) (Rep.bl _)⟩
theorem ev_isN {d : PyData} (ha : EV X na a sl cs (.val d) cs1) (hb : EV X na b sl cs1 (.val .none) cs2) : EV X na (.Compare a [.Is] [b] pos) sl cs (.val (.bool (PyData.isNone d))) cs2 := ev_cmp op_isN (nomark _) ha hb rv_isN
theorem tv_isN {d : PyData} (ha : EV X na a sl cs (.val d) cs1) (hb : EV X na b sl cs1 (.val .none) cs2) : TV X na (.Compare a [.Is] [b] pos) sl cs (PyData.isNone d) cs2 := tv_cmp op_isN (nomark _) ha hb rv_isN
theorem ev_notN {d : PyData} (ha : EV X na a sl cs (.val d) cs1) (hb : EV X na b sl cs1 (.val .none) cs2) : EV X na (.Compare a [.IsNot] [b] pos) sl cs (.val (.bool (!PyData.isNone d))) cs2 := ev_cmp op_notN (nomark _) ha hb rv_notN
theorem tv_notN {d : PyData} (ha : EV X na a sl cs (.val d) cs1) (hb : EV X na b sl cs1 (.val .none) cs2) : TV X na (.Compare a [.IsNot] [b] pos) sl cs (!PyData.isNone d) cs2 := tv_cmp op_notN (nomark _) ha hb rv_notN

/-! ### dicts -/
inductive KeyOf : PyData → Key → Prop
  | int (i : Int) : KeyOf (.int i) (.inl i)
  | str (x : Str) : KeyOf (.str x) (.inr x)
def dD (kvs : List (Key × PyData)) : PyData := .dict (kvs.map fun kv => (kD kv.1, kv.2))
def svK (kvs : List (Key × PyData)) : List (Key × SV) := kvs.map fun kv => (kv.1, SV.val kv.2)
inductive IsD (cs : Cs) : SV → List (Key × SV) → Prop
  | val {kvs : List (Key × PyData)} : IsD cs (.val (dD kvs)) (svK kvs)
  | cell {k : Nat} {kvs : List (Key × SV)} : cs[k]? = some (.dct kvs) → IsD cs (.cell k) kvs
def lkK {α : Type} : List (Key × α) → Key → Option α
  | [], _ => none
  | (j, v) :: r, k => if j = k then some v else lkK r k
def putS : List (Key × SV) → Key → SV → List (Key × SV)
  | [], k, s => [(k, s)]
  | (j, v) :: r, k, s => if j = k then (j, s) :: r else (j, v) :: putS r k s
theorem RepD.ks {K : PySem.W.Frag} {G : Hp} {ps : List Addr} : ∀ {us : List (Key × V)} {kvs : List (Key × PyData)}, RepD K G us (kvs.map fun kv => (kD kv.1, kv.2)) → RepKs K G ps us (svK kvs)
  | us, [], h => by cases h; exact .nil
  | us, (k, d) :: r, h => by
    rw [List.map_cons] at h
    cases us with
    | nil => cases h
    | cons p us' =>
      obtain ⟨k', v⟩ := p
      generalize he : ((kD (k, d).1, (k, d).2) : PyData × PyData) = e at h
      cases h with
      | cons h1 h2 =>
        have e1 := (Prod.mk.inj he).1
        have e2 := (Prod.mk.inj he).2
        have ek : k = k' := by
          cases k <;> cases k' <;> simp [kD] at e1 <;> first | (subst e1; rfl) | cases e1
        subst ek
        refine .cons ⟨rfl, ?_⟩ (RepD.ks h2)
        have e3 : d = _ := e2
        show Rep K G v d
        rw [e3]
        exact h1
theorem IsD.at {K : PySem.W.Frag} {B : Bs} {G : Hp} {ps : List Addr} {H : Hp} {v : V} {kvs : List (Key × SV)} (C : Core K B G ps cs H) (r : RepV K G ps v s) (h : IsD cs s kvs) : ∃ a us, v = .ref a ∧ H a = some (.dK us) ∧ RepKs K G ps us kvs := by
  cases h with
  | val =>
    generalize hd : dD _ = d at r
    cases (r : Rep _ _ _ _) <;> try (unfold dD at hd; cases hd; done)
    rename_i a us es hg hr
    unfold dD at hd
    injection hd with hd
    subst hd
    exact ⟨a, us, rfl, C.gh _ _ hg, RepD.ks hr⟩
  | cell h =>
    obtain ⟨p, hv, _, us, h1, h2⟩ := C.cellAt r h
    exact ⟨p, us, hv, h1, h2⟩
theorem KeyOf.v {K : PySem.W.Frag} {G : Hp} {v : V} {d : PyData} {k : Key} (h : KeyOf d k) (r : Rep K G v d) : v = kV k := by
  cases h with
  | int i => exact Rep.intI r
  | str x => exact Rep.strI r
theorem lk_some {K : PySem.W.Frag} {G : Hp} {ps : List Addr} {k : Key} {s : SV} : ∀ {us : List (Key × V)} {kvs : List (Key × SV)}, RepKs K G ps us kvs → lkK kvs k = some s → ∃ v, valV us k = some v ∧ RepV K G ps v s
  | _, _, .nil, e => by cases e
  | (j', v) :: us, (j, w) :: r, .cons h t, e => by
    obtain ⟨h1, h2⟩ := h
    cases (show j' = j from h1)
    unfold lkK at e
    by_cases q : j' = k
    · rw [if_pos q] at e
      cases e
      exact ⟨v, valV_pos (p := (j', v)) q, h2⟩
    · rw [if_neg q] at e
      obtain ⟨z, e1, e2⟩ := lk_some t e
      exact ⟨z, (valV_neg (p := (j', v)) q).trans e1, e2⟩
theorem lk_none {K : PySem.W.Frag} {G : Hp} {ps : List Addr} {k : Key} : ∀ {us : List (Key × V)} {kvs : List (Key × SV)}, RepKs K G ps us kvs → lkK kvs k = none → valV us k = none
  | _, _, .nil, e => rfl
  | (j', v) :: us, (j, w) :: r, .cons h t, e => by
    obtain ⟨h1, h2⟩ := h
    cases (show j' = j from h1)
    unfold lkK at e
    by_cases q : j' = k
    · rw [if_pos q] at e
      cases e
    · rw [if_neg q] at e
      exact (valV_neg (p := (j', v)) q).trans (lk_none t e)
theorem put_ks {K : PySem.W.Frag} {G : Hp} {ps : List Addr} {k : Key} {v : V} {s : SV} (r : RepV K G ps v s) : ∀ {us : List (Key × V)} {kvs : List (Key × SV)}, RepKs K G ps us kvs → (us.map (·.1)).Nodup → RepKs K G ps (putK us k v) (putS kvs k s)
  | _, _, .nil, _ => .cons ⟨rfl, r⟩ .nil
  | (j', w) :: us, (j, z) :: kvs, .cons h t, nd => by
    obtain ⟨h1, h2⟩ := h
    cases (show j' = j from h1)
    obtain ⟨n1, n2⟩ := List.nodup_cons.mp nd
    have ih := put_ks (k := k) r t n2
    unfold putS putK
    by_cases q : j' = k
    · subst q
      rw [if_pos rfl, if_pos (by simp), List.map_cons, if_pos rfl]
      have e : us.map (fun kv => if kv.1 = j' then (kv.1, v) else kv) = us := by
        have : ∀ p ∈ us, (if p.1 = j' then (p.1, v) else p) = p := fun p hp => if_neg fun (e : p.1 = j') => n1 (List.mem_map.mpr ⟨p, hp, e⟩)
        rw [List.map_congr_left this, List.map_id']
      rw [e]
      exact .cons ⟨rfl, r⟩ t
    · rw [if_neg q]
      by_cases m : (us.any fun kv => decide (kv.1 = k)) = true
      · rw [if_pos (by rw [List.any_cons, m, Bool.or_true]), List.map_cons, if_neg q]
        unfold putK at ih
        rw [if_pos m] at ih
        exact .cons ⟨rfl, h2⟩ ih
      · rw [if_neg (by rw [List.any_cons, decide_eq_false (show ¬ (j', w).1 = k from q), Bool.false_or]; exact m), List.cons_append]
        unfold putK at ih
        rw [if_neg m] at ih
        exact .cons ⟨rfl, h2⟩ ih
theorem lk_keys {K : PySem.W.Frag} {G : Hp} {ps : List Addr} : ∀ {us : List (Key × V)} {kvs : List (Key × SV)}, RepKs K G ps us kvs → us.map (·.1) = kvs.map (·.1)
  | _, _, .nil => rfl
  | _, _, .cons h t => by rw [List.map_cons, List.map_cons, h.1, lk_keys t]
theorem dget_of {kvs : List (Key × V)} {H : Hp} {a : Addr} {y : V} {k : Key} {o : Option V} (e : H a = some (.dK kvs)) (hy : y = kV k) (ho : valV kvs k = o) : DGet H a y o := by
  subst hy ho
  exact DGet.k e
/-- d[k] -/
theorem ev_dget {kvs : List (Key × SV)} {kd : PyData} {k : Key} {m : Nat} (hr : Room m X.A) (ha : EV X na a sl cs s cs1) (hb : EV X na b sl cs1 (.val kd) cs2) (hd : IsD cs2 s kvs) (hk : KeyOf kd k) (hl : lkK kvs k = some t) (hs : NoSl b := by exact fun _ _ => rfl) : EV X na (.Subscript a b pos) sl cs t cs2 :=
  ev_of (pe_dget (by have := hr.un; omega) pe_any pe_any hs) fun B G ps σ H hn C S Q q => ha B G ps σ H hn C S _ fun v G1 ps1 H1 C1 u1 r1 => hb B G1 ps1 σ H1 hn C1 (Slots.mono u1 S) _ fun w G2 ps2 H2 C2 u2 r2 => by
    obtain ⟨p, us, rfl, h1, h2⟩ := hd.at C2 (RepV.mono u2 r1)
    obtain ⟨z, e1, e2⟩ := lk_some h2 hl
    exact ⟨p, z, rfl, dget_of h1 (hk.v r2) e1, q z G2 ps2 H2 C2 (u1.trans u2) e2⟩
/-- d.get(k, x) -/
theorem ev_dget2 {o e f : Expr} {apos : Pos} {kvs : List (Key × SV)} {kd : PyData} {k : Key} {m : Nat} (hr : Room m X.A) (hf : EV X na f sl cs2 t cs3) (ha : EV X na o sl cs s cs1) (hb : EV X na e sl cs1 (.val kd) cs2) (hd1 : ∃ kvs', IsD cs1 s kvs') (hd : IsD cs3 s kvs) (hk : KeyOf kd k) (hl : (lkK kvs k).getD t = u) (hm : M2 X o "get" apos e f pos := by exact ⟨rfl, rfl, rfl, rfl⟩) : EV X na (.Call (.Attribute o "get" apos) [e, f] [] pos) sl cs u cs3 :=
  ev_of (L2.pe_dget2 (by have := hr.un; omega) pe_any pe_any pe_any hm) fun B G ps σ H hn C S Q q => ha B G ps σ H hn C S _ fun v G1 ps1 H1 C1 u1 r1 => by
    obtain ⟨kvs', hd1⟩ := hd1
    obtain ⟨p, us, rfl, h1, h2⟩ := hd1.at C1 r1
    refine ⟨p, rfl, .inl ⟨us, .inl h1⟩, hb B G1 ps1 σ H1 hn C1 (Slots.mono u1 S) _ fun w G2 ps2 H2 C2 u2 r2 => hf B G2 ps2 σ H2 hn C2 (Slots.mono (u1.trans u2) S) _ fun z G3 ps3 H3 C3 u3 r3 => ?_⟩
    obtain ⟨p', us', e', h1', h2'⟩ := hd.at C3 (RepV.mono (u2.trans u3) r1)
    cases e'
    cases hq : lkK kvs k with
    | none =>
      rw [hq] at hl
      exact ⟨none, dget_of h1' (hk.v r2) (lk_none h2' hq), q z G3 ps3 H3 C3 ((u1.trans u2).trans u3) (by rw [← hl]; exact r3)⟩
    | some y =>
      rw [hq] at hl
      obtain ⟨y', e1, e2⟩ := lk_some h2' hq
      exact ⟨some y', dget_of h1' (hk.v r2) e1, q y' G3 ps3 H3 C3 ((u1.trans u2).trans u3) (by rw [← hl]; exact e2)⟩
/-- k in d, k not in d -/
theorem de_din {K : PySem.W.Frag} {ta tb : TE} {kvs : List (Key × SV)} {kd : PyData} {k : Key} (ha : DE K na ta sl cs (.val kd) cs1) (hb : DE K na tb sl cs1 s cs2) (hd : IsD cs2 s kvs) (hk : KeyOf kd k) : DE K na (tDIn ta tb) sl cs (.val (.bool (lkK kvs k).isSome)) cs2 := fun B G ps σ H hn C S Q q => ha B G ps σ H hn C S _ fun v G1 ps1 H1 C1 u1 r1 => hb B G1 ps1 σ H1 hn C1 (Slots.mono u1 S) _ fun w G2 ps2 H2 C2 u2 r2 => by
  obtain ⟨p, us, rfl, h1, h2⟩ := hd.at C2 r2
  cases hq : lkK kvs k with
  | none => exact ⟨p, none, rfl, dget_of h1 (hk.v (Rep.mono u2.s r1)) (lk_none h2 hq), q _ G2 ps2 H2 C2 (u1.trans u2) (by rw [hq]; exact Rep.bl _)⟩
  | some y =>
    obtain ⟨y', e1, e2⟩ := lk_some h2 hq
    exact ⟨p, some y', rfl, dget_of h1 (hk.v (Rep.mono u2.s r1)) e1, q _ G2 ps2 H2 C2 (u1.trans u2) (by rw [hq]; exact Rep.bl _)⟩
theorem de_dnin {K : PySem.W.Frag} {ta tb : TE} {kvs : List (Key × SV)} {kd : PyData} {k : Key} (ha : DE K na ta sl cs (.val kd) cs1) (hb : DE K na tb sl cs1 s cs2) (hd : IsD cs2 s kvs) (hk : KeyOf kd k) : DE K na (tDNotIn ta tb) sl cs (.val (.bool (!(lkK kvs k).isSome))) cs2 := fun B G ps σ H hn C S Q q => ha B G ps σ H hn C S _ fun v G1 ps1 H1 C1 u1 r1 => hb B G1 ps1 σ H1 hn C1 (Slots.mono u1 S) _ fun w G2 ps2 H2 C2 u2 r2 => by
  obtain ⟨p, us, rfl, h1, h2⟩ := hd.at C2 r2
  cases hq : lkK kvs k with
  | none => exact ⟨p, none, rfl, dget_of h1 (hk.v (Rep.mono u2.s r1)) (lk_none h2 hq), q _ G2 ps2 H2 C2 (u1.trans u2) (by rw [hq]; exact Rep.bl _)⟩
  | some y =>
    obtain ⟨y', e1, e2⟩ := lk_some h2 hq
    exact ⟨p, some y', rfl, dget_of h1 (hk.v (Rep.mono u2.s r1)) e1, q _ G2 ps2 H2 C2 (u1.trans u2) (by rw [hq]; exact Rep.bl _)⟩
theorem tv_din {kvs : List (Key × SV)} {kd : PyData} {k : Key} {m : Nat} (hr : Room m X.A) (ha : EV X na a sl cs (.val kd) cs1) (hb : EV X na b sl cs1 s cs2) (hd : IsD cs2 s kvs) (hk : KeyOf kd k) (hm : behindInMarks .In b = false := by rfl) : TV X na (.Compare a [.In] [b] pos) sl cs (lkK kvs k).isSome cs2 :=
  tv_of (pt_cmp (pc_din (by have := hr.un; omega) pe_any pe_any) hm) fun B G ps σ H hn C S Q q => de_din ha hb hd hk B G ps σ H hn C S _ fun v G1 ps1 H1 C1 u1 r1 => by
    cases (r1 : Rep _ _ _ _)
    exact ⟨_, rfl, q G1 ps1 H1 C1 u1⟩
theorem tv_dnin {kvs : List (Key × SV)} {kd : PyData} {k : Key} {m : Nat} (hr : Room m X.A) (ha : EV X na a sl cs (.val kd) cs1) (hb : EV X na b sl cs1 s cs2) (hd : IsD cs2 s kvs) (hk : KeyOf kd k) (hm : behindInMarks .NotIn b = false := by rfl) : TV X na (.Compare a [.NotIn] [b] pos) sl cs (!(lkK kvs k).isSome) cs2 :=
  tv_of (pt_cmp (pc_dnotin (by have := hr.un; omega) pe_any pe_any) hm) fun B G ps σ H hn C S Q q => de_dnin ha hb hd hk B G ps σ H hn C S _ fun v G1 ps1 H1 C1 u1 r1 => by
    cases (r1 : Rep _ _ _ _)
    exact ⟨_, rfl, q G1 ps1 H1 C1 u1⟩
/-- d[k] = v -/
theorem s1_dput {o i v : Expr} {p2 : Pos} {n : Nat} {kvs : List (Key × SV)} {kd : PyData} {k : Key} {m : Nat} (hr : Room m X.A) (hv : EV X na v sl cs s cs1) (ho : EV X na o sl cs1 (.cell n) cs1) (hi : EV X na i sl cs1 (.val kd) cs1) (hc : cs1[n]? = some (.dct kvs)) (hk : KeyOf kd k) (hz : kvs.length ≤ 1000000) (nd : (kvs.map (·.1)).Nodup) (p : PutC cs1 n (.dct (putS kvs k s)) cs2) (q : E.nx sl cs2)
    (hs : swapsWith v (some (.Subscript o i p2)) pos.line X.env = pure false := by rfl) : S1 X na (.Assign [.Subscript o i p2] v pos) sl cs E :=
  s1_of (ps_dput (by have := hr.un; omega) pe_any pe_any pe_any hs) fun B G ps σ H hn C S D L => hv B G ps σ H hn C S _ fun w G1 ps1 H1 C1 u1 r1 =>
    ho B G1 ps1 σ H1 hn C1 (Slots.mono u1 S) _ fun w2 G2 ps2 H2 C2 u2 r2 => hi B G2 ps2 σ H2 hn C2 (Slots.mono (u1.trans u2) S) _ fun w3 G3 ps3 H3 C3 u3 r3 => by
      obtain ⟨a, rfl, ea, us, hus, rus⟩ := C3.cellAt (RepV.mono u3 r2) hc
      rw [p.at] at q
      have hput : DPut H3 a w3 w (upd H3 a (.dK (putK us k w))) := by
        rw [hk.v r3]
        exact DPut.k hus (szl (by rw [Paired.length rus]; exact hz))
      exact ⟨a, _, rfl, hput, L.nx sl _ G3 ps3 σ _ (C3.put (c' := .dct (putS kvs k s)) ea hc (by intro z; cases z) ⟨_, upd_same, put_ks (RepV.mono (u2.trans u3) r1) rus (by rw [lk_keys rus]; exact nd)⟩) ((u1.trans u2).trans u3) (Slots.mono ((u1.trans u2).trans u3) S) q⟩
end
end DL
namespace DL
open PySem PySem.Spec PyProof.Rows L2

/-! ### one order, one list -/
theorem perm_sorted {α : Type} {le : α → α → Prop} (anti : ∀ a b, le a b → le b a → a = b) : ∀ {l m : List α}, l.Perm m → l.Pairwise le → m.Pairwise le → l = m
  | [], m, p, _, _ => (List.Perm.eq_nil p.symm).symm
  | a :: l, [], p, _, _ => by have := p.length_eq; simp at this
  | a :: l, b :: m, p, hl, hm => by
    obtain ⟨l1, l2⟩ := List.pairwise_cons.mp hl
    obtain ⟨m1, m2⟩ := List.pairwise_cons.mp hm
    have e : a = b := by
      have ha : a ∈ b :: m := p.subset List.mem_cons_self
      have hb : b ∈ a :: l := p.symm.subset List.mem_cons_self
      rcases List.mem_cons.mp ha with h | h
      · exact h
      · rcases List.mem_cons.mp hb with h' | h'
        · exact h'.symm
        · exact anti a b (l1 b h') (m1 a h)
    subst e
    rw [perm_sorted anti p.cons_inv l2 m2]
/-- pairs in order -/
def leP (p q : Int × Int) : Bool := !SrtO.lexB q p
def sortP (ps : List (Int × Int)) : List (Int × Int) := ps.mergeSort leP
theorem leP_iff {p q : Int × Int} : leP p q = true ↔ p.1 < q.1 ∨ (p.1 = q.1 ∧ p.2 ≤ q.2) := by
  unfold leP
  rw [Bool.not_eq_true', SrtO.lexB_no]
  omega
theorem sortP_perm (ps : List (Int × Int)) : (sortP ps).Perm ps := List.mergeSort_perm ps leP
theorem sortP_srt (ps : List (Int × Int)) : (sortP ps).Pairwise fun p q => leP p q = true :=
  List.pairwise_mergeSort (fun a b c h1 h2 => by rw [leP_iff] at *; omega) (fun a b => by
    rw [Bool.or_eq_true, leP_iff, leP_iff]
    omega) ps
theorem sortP_uniq {ps qs : List (Int × Int)} (p : qs.Perm ps) (h : qs.Pairwise fun p q => leP p q = true) : qs = sortP ps :=
  perm_sorted (fun a b h1 h2 => by
    rw [leP_iff] at h1 h2
    have e1 : a.1 = b.1 := by omega
    have e2 : a.2 = b.2 := by omega
    exact Prod.ext e1 e2) (p.trans (sortP_perm ps).symm) h (sortP_srt ps)
def sortI (ns : List Int) : List Int := ns.mergeSort fun a b => decide (a ≤ b)
theorem sortI_perm (ns : List Int) : (sortI ns).Perm ns := List.mergeSort_perm ns _
theorem sortI_srt (ns : List Int) : (sortI ns).Pairwise (· ≤ ·) := by
  have := List.pairwise_mergeSort (le := fun a b : Int => decide (a ≤ b)) (fun a b c h1 h2 => by simp at *; omega) (fun a b => by simp; omega) ns
  exact List.Pairwise.imp (fun h => of_decide_eq_true h) this
theorem sortI_uniq {ns ms : List Int} (p : ms.Perm ns) (h : ms.Pairwise (· ≤ ·)) : ms = sortI ns :=
  perm_sorted (fun a b h1 h2 => by omega) (p.trans (sortI_perm ns).symm) h (sortI_srt ns)

/-! ### sorted(pairs), the pairs read wherever they stand -/
def pD (p : Int × Int) : PyData := .tuple [.int p.1, .int p.2]
/-- what a heap tells of a pair -/
def pairAt (h : Heap) : Value → Int × Int
  | .ref t => match (h.get? t).map (·.data) with
    | some (Data.seq its _) => match its.toList with
      | [.int i _, .int j _] => (i, j)
      | _ => (0, 0)
    | _ => (0, 0)
  | _ => (0, 0)
def rSortQ (K : PySem.W.Frag) : List V → Hp → VK → Prop := fun vs H Q => ∃ (a : Addr) (xs : List V) (ks : List (Int × Int)) (R : V → Int × Int → Prop), vs = [V.ref a] ∧ SqL K H a xs ∧ (∀ x p, R x p → ∃ t, x = V.ref t ∧ SqT K H t [.int p.1, .int p.2]) ∧ Paired R xs ks ∧
  ∀ ys d, Paired R ys (sortP ks) → H d = none → Q (.ref d) (upd H d (.lst ys))
section
variable {X : Cx}
theorem pair_of {pins : List (Addr × Obj)} {σ : L2.St} {H : Hp} {s : Shared} {t : Addr} {p : Int × Int} (I : Inv X pins σ H s) (h : SqT X.K H t [.int p.1, .int p.2]) : Srt.IsPair s.heap (.ref t) p.1 p.2 ∧ pairAt s.heap (.ref t) = p := by
  obtain ⟨its, r, ⟨o, ho, hc, n, hd⟩, _⟩ := I.tuple h
  obtain ⟨u1, u2, rfl, ⟨k1, rfl⟩, ⟨k2, rfl⟩⟩ := vals2 r
  refine ⟨⟨t, o, k1, k2, n, rfl, ho, hc, hd⟩, ?_⟩
  show (match (s.heap.get? t).map (·.data) with
    | some (Data.seq its _) => match its.toList with
      | [.int i _, .int j _] => (i, j)
      | _ => (0, 0)
    | _ => (0, 0)) = p
  rw [ho]
  simp only [Option.map_some, hd]
theorem pairs_back {pins : List (Addr × Obj)} {σ : L2.St} {H : Hp} {s : Shared} {R : V → Int × Int → Prop} (I : Inv X pins σ H s) (hR : ∀ x p, R x p → ∃ t, x = V.ref t ∧ SqT X.K H t [.int p.1, .int p.2]) : ∀ {xs : List V} {ks : List (Int × Int)} {its : List Value}, Paired R xs ks → Vals xs its →
    its.map (pairAt s.heap) = ks ∧ ∀ v ∈ its, (∃ t, v = Value.ref t) ∧ R (backV v) (pairAt s.heap v) ∧ Srt.IsPair s.heap v (pairAt s.heap v).1 (pairAt s.heap v).2
  | _, _, _, .nil, .nil => ⟨rfl, fun _ h => nomatch h⟩
  | _, _, _, .cons h t, .cons r rr => by
    obtain ⟨a, rfl, hq⟩ := hR _ _ h
    cases r
    obtain ⟨e1, e2⟩ := pair_of I hq
    obtain ⟨q1, q3⟩ := pairs_back I hR t rr
    refine ⟨by rw [List.map_cons, e2, q1], fun v hv => ?_⟩
    rcases List.mem_cons.mp hv with rfl | hv
    · rw [e2]
      exact ⟨⟨a, rfl⟩, h, e1⟩
    · exact q3 v hv
theorem cr_sortQ : CallR X (.builtin "sorted") (rSortQ X.K) := by
  intro pins s σ H vs us Q I r h
  obtain ⟨a, xs, ks, R, rfl, hs, hR, hx, q⟩ := h
  obtain ⟨its, rv, hl, hz⟩ := I.list hs
  obtain ⟨w, rfl, rw'⟩ := vals1 r
  cases (show w = Value.ref a from rw')
  obtain ⟨e1, e3⟩ := pairs_back I hR hx rv
  refine SrtO.sorted_pairsO (k := pairAt s.heap) hl.isList (by rw [← rv.length]; exact hz) (fun v hv => (e3 v hv).2.2) fun h' d out o1 o2 o3 o4 o5 => ?_
  have mem : ∀ u ∈ out, u ∈ its := fun u hu => o2.perm.subset hu
  have es : out.map (pairAt s.heap) = sortP ks := by
    refine sortP_uniq ?_ ?_
    · rw [← e1]
      exact o2.perm.map _
    · rw [List.pairwise_map]
      refine List.Pairwise.imp (fun {x y} h => ?_) o1
      show (!SrtO.lexB (pairAt s.heap y) (pairAt s.heap x)) = true
      rw [show SrtO.lexB (pairAt s.heap y) (pairAt s.heap x) = false from h]
      rfl
  obtain ⟨n, hn⟩ := o5
  refine ⟨.ref d, upd H d (.lst (out.map backV)), I.laid (t' := s.toks) o3 o4 ⟨?_, out, n, vals_back fun u hu => (e3 u (mem u hu)).1, hn⟩, rfl, q _ d ?_ (I.hok.fresh o4)⟩
  · rw [List.length_map, o2.perm.length_eq, ← rv.length]
    exact hz
  · rw [← es]
    have key : ∀ l : List Value, (∀ u ∈ l, u ∈ its) → Paired R (l.map backV) (l.map (pairAt s.heap)) := fun l => by
      induction l with
      | nil => exact fun _ => .nil
      | cons u l ih => exact fun hm => .cons (e3 u (hm u List.mem_cons_self)).2.1 (ih fun v hv => hm v (List.mem_cons_of_mem _ hv))
    exact key out mem
variable {na : NA} {sl sl' : Sl} {cs cs1 cs2 cs3 : Cs} {s t u : SV} {pos : Pos} {x : Str} {E : DEnds} {N : List Str} {a b : Expr} {p : Pos}
theorem reps_paired {α : Type} {K : PySem.W.Frag} {G : Hp} (f : α → PyData) : ∀ {vs : List V} {ps : List α}, Reps K G vs (ps.map f) → Paired (fun v p => Rep K G v (f p)) vs ps
  | _, [], h => by cases h; exact .nil
  | _, p :: r, h => by
    cases h with
    | cons h1 h2 => exact .cons h1 (reps_paired f h2)
theorem paired_reps {α : Type} {K : PySem.W.Frag} {G : Hp} (f : α → PyData) : ∀ {vs : List V} {ps : List α}, Paired (fun v p => Rep K G v (f p)) vs ps → Reps K G vs (ps.map f)
  | _, _, .nil => .nil
  | _, _, .cons h t => .cons h (paired_reps f t)
/-- sorted(pairs) -/
theorem ev_sortedP {ps : List (Int × Int)} (hm : X.mg "sorted" = none) (hg : Gl X "sorted") (ha : EV X na a sl cs s cs1) (hl : IsL cs1 s ((ps.map pD).map SV.val)) (hs : starEach [a] X.env = (false, eval a X.env) :: starEach [] X.env := by rfl) : EV X na (.Call (.Name "sorted" p) [a] [] pos) sl cs (.val (.list ((sortP ps).map pD))) cs1 :=
  ev_callB cr_sortQ (by decide +kernel) hg hm (av_cons ha av_nil hs) (rc1 fun B G ps' H v hn C r1 Q q => by
    obtain ⟨l, vs, rfl, h1, h2⟩ := hl.sq C r1
    refine ⟨l, vs, ps, fun v p => Rep X.K G v (pD p), rfl, h1, fun v p r => ?_, reps_paired pD (Reps.ofVs h2), fun ys d hy hd => C.newLst (paired_reps pD hy) q d hd⟩
    obtain ⟨t, ws, rfl, e1, e2⟩ := Rep.tupI r
    cases e2 with
    | cons q1 q2 =>
      cases q2 with
      | cons q2 q3 =>
        cases q3
        rw [Rep.intI q1, Rep.intI q2] at e1
        exact ⟨t, rfl, Same.seqT C.gh e1⟩) (by decide) (by decide) hs
/-- sorted(d), the keys ints -/
theorem ev_sortedDI {kvs : List (Key × SV)} {ks : List Int} (hc : X.calm = true) (hm : X.mg "sorted" = none) (hg : Gl X "sorted") (ha : EV X na a sl cs s cs1) (hd : IsD cs1 s kvs) (hk : kvs.map (·.1) = ks.map Sum.inl) (h64 : ks.length < 64) (hs : starEach [a] X.env = (false, eval a X.env) :: starEach [] X.env := by rfl) : EV X na (.Call (.Name "sorted" p) [a] [] pos) sl cs (.val (.list ((sortI ks).map .int))) cs1 :=
  ev_callB (call_sortedDI hc) (by decide +kernel) hg hm (av_cons ha av_nil hs) (rc1 fun B G ps' H v hn C r1 Q q => by
    obtain ⟨l, us, rfl, h1, h2⟩ := hd.at C r1
    refine ⟨l, us, ks, rfl, .inl h1, by rw [lk_keys h2]; exact hk, h64, fun ys d hp hs hd => ?_⟩
    rw [sortI_uniq hp hs]
    exact C.newLst (Reps.ofInts _) q d hd) (by decide) (by decide) hs
/-- all([..]), any([..]) -/
theorem ev_all {bs : List Bool} (hc : X.calm = true) (hm : X.mg "all" = none) (hg : Gl X "all") (ha : EV X na a sl cs (.val (.list (bs.map .bool))) cs1) (hs : starEach [a] X.env = (false, eval a X.env) :: starEach [] X.env := by rfl) : EV X na (.Call (.Name "all" p) [a] [] pos) sl cs (.val (.bool (bs.all id))) cs1 :=
  ev_callB (cr_all hc) (by decide +kernel) hg hm (av_cons ha av_nil hs) (rc1 fun B G ps' H v hn C r1 Q q => by
    obtain ⟨l, vs, rfl, h1, h2⟩ := Rep.lstI r1
    exact ⟨l, bs, rfl, by rw [← Reps.bools h2]; exact C.gh.seq h1, q _ G ps' H C (Up.refl _ _) (Rep.bl _)⟩) (by decide) (by decide) hs
theorem ev_any {bs : List Bool} (hc : X.calm = true) (hm : X.mg "any" = none) (hg : Gl X "any") (ha : EV X na a sl cs (.val (.list (bs.map .bool))) cs1) (hs : starEach [a] X.env = (false, eval a X.env) :: starEach [] X.env := by rfl) : EV X na (.Call (.Name "any" p) [a] [] pos) sl cs (.val (.bool (bs.any id))) cs1 :=
  ev_callB (cr_any hc) (by decide +kernel) hg hm (av_cons ha av_nil hs) (rc1 fun B G ps' H v hn C r1 Q q => by
    obtain ⟨l, vs, rfl, h1, h2⟩ := Rep.lstI r1
    exact ⟨l, bs, rfl, by rw [← Reps.bools h2]; exact C.gh.seq h1, q _ G ps' H C (Up.refl _ _) (Rep.bl _)⟩) (by decide) (by decide) hs
/-- sum(xs), ints -/
theorem ev_sum {ns : List Int} (hc : X.calm = true) (hm : X.mg "sum" = none) (hg : Gl X "sum") (ha : EV X na a sl cs (.val (.list (ns.map .int))) cs1) (hs : starEach [a] X.env = (false, eval a X.env) :: starEach [] X.env := by rfl) : EV X na (.Call (.Name "sum" p) [a] [] pos) sl cs (.val (.int ns.sum)) cs1 :=
  ev_callB (cr_sum hc) (by decide +kernel) hg hm (av_cons ha av_nil hs) (rc1 fun B G ps' H v hn C r1 Q q => by
    obtain ⟨l, vs, rfl, h1, h2⟩ := Rep.lstI r1
    exact ⟨l, ns, rfl, by rw [← Reps.ints h2]; exact C.gh.seq h1, q _ G ps' H C (Up.refl _ _) (Rep.int _)⟩) (by decide) (by decide) hs
/-! ### isinstance -/
def tyOf : PyData → String
  | .none => "NoneType"
  | .bool _ => "bool"
  | .int _ => "int"
  | .str _ => "str"
  | .list _ => "list"
  | .tuple _ => "tuple"
  | .dict _ => "dict"
theorem Rep.tyX {K : PySem.W.Frag} {G H : Hp} (g : Same G H) {v : V} {d : PyData} (r : Rep K G v d) : TyX K H v (.type (tyOf d)) := by
  cases r with
  | non => exact .base .non
  | bl b => exact .base (.bl b)
  | int i => exact .base (.int i)
  | str x => exact .base (.str x)
  | lst h _ =>
    rcases g.seq h with (h | ⟨o, h⟩) | ⟨o, _, _, h, c, _⟩
    · exact .base (.lst h)
    · exact .base (.frz h)
    · exact .kList h c
  | tup h _ =>
    rcases Same.seqT g h with (h | ⟨o, h⟩) | ⟨o, _, _, h, c, _⟩
    · exact .base (.tup h)
    · exact .fTuple h
    · exact .kTuple h c
  | dct h _ => exact .base (.dK (g _ _ h))
theorem ev_isi {d : PyData} {T : Str} {T' : String} {p2 : Pos} {k : Bool} (hm : X.mg "isinstance" = none) (hg : Gl X "isinstance") (ha : EV X na a sl cs (.val d) cs1) (hmT : X.mg T = none) (hgT : Gl X T) (hbT : bootBuiltins T = some (.type T')) (hk : PySem.W.kitOne X.K (.type (tyOf d)) (.type T') = some k) (hT : T ≠ "__name__" := by decide) (hT2 : (T == ("__debug__" : Str)) = false := by decide)
    (hs : starEach [a, .Name T p2] X.env = (false, eval a X.env) :: starEach [.Name T p2] X.env := by rfl) (hs2 : starEach [.Name T p2] X.env = (false, eval (.Name T p2) X.env) :: starEach [] X.env := by rfl) (hpl : (backTo pos (starEach [.Name T p2] X.env)).any (·.1) = false := by rfl) :
    EV X na (.Call (.Name "isinstance" p) [a, .Name T p2] [] pos) sl cs (.val (.bool k)) cs1 := by
  refine ev_of (pe_callB call_isi hg hm (by decide +kernel) (pa_cons pe_any (pa_cons (pe_bltn (v := .ty T') hgT hmT hbT rfl hT hT2) pa_nil hs2) hs) (by decide) (by decide) hs hpl) fun B G ps σ H hn C S Q q => ha B G ps σ H hn C S _ fun v G1 ps1 H1 C1 u1 r1 => ?_
  exact ⟨v, .ty T', _, _, k, rfl, .ty T', Rep.tyX C1.gh r1, hk, q _ G1 ps1 H1 C1 u1 (Rep.bl _)⟩
end
end DL
namespace DL
open PySem PySem.Spec PyProof.Rows L2
theorem Core.grow {K : PySem.W.Frag} {B : Bs} {G G' H H' : Hp} {ps : List Addr} {cs : Cs} (C : Core K B G ps cs H) (hs : Same H H') (g : Same G G') (gh : Same G' H') (nw : ∀ b, G' b ≠ none → G b ≠ none ∨ H b = none) : Core K B G' ps cs H' where
  g0 := C.g0.trans g
  h0 b o e m := hs _ _ (C.h0 b o e m)
  gh := gh
  nw b e := (nw b e).elim (C.nw b) fun h => .inr (C.free0 h)
  len := C.len
  pre := C.pre
  nd := C.nd
  cell k p c e hc := by
    obtain ⟨h1, h2, h3⟩ := C.cell k p c e hc
    have hl := C.live (List.mem_of_getElem? e)
    have hH : H' p = H p := by
      cases q : H p with
      | none => exact (hl q).elim
      | some o => exact hs _ _ q
    refine ⟨RepC.mono ⟨g, List.prefix_refl _⟩ hH h1, h2, h3.imp id fun hG => ?_⟩
    cases q : G' p with
    | none => rfl
    | some o =>
      rcases nw p (by rw [q]; exact Option.some_ne_none _) with z | z
      · exact (z hG).elim
      · exact (hl z).elim
theorem svK_inv {K : PySem.W.Frag} {G : Hp} {ps : List Addr} : ∀ {us : List (Key × V)} {kvs : List (Key × PyData)}, RepKs K G ps us (svK kvs) → Paired (fun (q : Key × V) (kv : Key × PyData) => q.1 = kv.1 ∧ Rep K G q.2 kv.2) us kvs
  | _, [], h => by cases h; exact .nil
  | _, (k, d) :: r, h => by
    cases h with
    | cons h1 h2 => exact .cons h1 (svK_inv h2)
theorem rep_key {K : PySem.W.Frag} {G : Hp} (k : Key) : Rep K G (kV k) (kD k) := by
  cases k with
  | inl i => exact .int i
  | inr x => exact .str x
section
variable {X : Cx} {na : NA} {sl sl' : Sl} {cs cs1 cs2 cs3 : Cs} {s t u : SV} {pos : Pos} {x : Str} {E : DEnds} {N : List Str} {a b : Expr} {p p2 pos2 apos cpos : Pos}
/-! ### list(range(..)) -/
def rgD (a b : Int) : List PyData := (List.range (b - a).toNat).map fun i => PyData.int (a + (i : Nat))
theorem reps_rg {K : PySem.W.Frag} {G : Hp} (a b : Int) : Reps K G (rgV a b) (rgD a b) := by
  unfold rgV rgD
  generalize List.range (b - a).toNat = l
  induction l with
  | nil => exact .nil
  | cons i l ih => exact .cons (.int _) ih
theorem ev_listRg1 {n : Int} (hc : X.calm = true) (hm : X.mg "list" = none) (hg : Gl X "list") (hm2 : X.mg "range" = none) (hg2 : Gl X "range") (ha : EV X na a sl cs (.val (.int n)) cs1) (h0 : 0 ≤ n) (h1 : n ≤ 16777216)
    (hs : starEach [a] X.env = (false, eval a X.env) :: starEach [] X.env := by rfl) (hs2 : starEach [.Call (.Name "range" p2) [a] [] pos2] X.env = (false, eval (.Call (.Name "range" p2) [a] [] pos2) X.env) :: starEach [] X.env := by rfl) :
    EV X na (.Call (.Name "list" p) [.Call (.Name "range" p2) [a] [] pos2] [] pos) sl cs (.val (.list (rgD 0 n))) cs1 :=
  ev_of (pe_listRg hc hg hm (prg_1 hg2 hm2 pe_any hs) hs2) fun B G ps σ H hn C S Q q => ha B G ps σ H hn C S _ fun v G1 ps1 H1 C1 u1 r1 =>
    ⟨n, Rep.intI r1, RgOk.of_le (Int.le_refl 0) h1 (by omega) h0, C1.newLst (reps_rg 0 n) fun v G2 ps2 H2 C2 u2 => q v G2 ps2 H2 C2 (u1.trans u2)⟩
theorem ev_listRg2 {m n : Int} (hc : X.calm = true) (hm : X.mg "list" = none) (hg : Gl X "list") (hm2 : X.mg "range" = none) (hg2 : Gl X "range") (ha : EV X na a sl cs (.val (.int m)) cs1) (hb : EV X na b sl cs1 (.val (.int n)) cs2) (h0 : 0 ≤ m ∧ m ≤ 16777216) (h1 : 0 ≤ n ∧ n ≤ 16777216)
    (hs : starEach [a, b] X.env = (false, eval a X.env) :: starEach [b] X.env := by rfl) (hs1 : starEach [b] X.env = (false, eval b X.env) :: starEach [] X.env := by rfl) (hp : (backTo pos2 (starEach [b] X.env)).any (·.1) = false := by rfl) (hs2 : starEach [.Call (.Name "range" p2) [a, b] [] pos2] X.env = (false, eval (.Call (.Name "range" p2) [a, b] [] pos2) X.env) :: starEach [] X.env := by rfl) :
    EV X na (.Call (.Name "list" p) [.Call (.Name "range" p2) [a, b] [] pos2] [] pos) sl cs (.val (.list (rgD m n))) cs2 :=
  ev_of (pe_listRg hc hg hm (prg_2 hg2 hm2 pe_any pe_any hs hs1 hp) hs2) fun B G ps σ H hn C S Q q => ha B G ps σ H hn C S _ fun v G1 ps1 H1 C1 u1 r1 => hb B G1 ps1 σ H1 hn C1 (Slots.mono u1 S) _ fun w G2 ps2 H2 C2 u2 r2 =>
    ⟨m, n, Rep.intI r1, Rep.intI r2, RgOk.of_le h0.1 h1.2 h0.2 h1.1, C2.newLst (reps_rg m n) fun v G3 ps3 H3 C3 u3 => q v G3 ps3 H3 C3 ((u1.trans u2).trans u3)⟩
/-! ### list(d.items()), dict(pairs) -/
def kvD (kv : Key × PyData) : PyData := .tuple [kD kv.1, kv.2]
theorem ev_items {kvs : List (Key × PyData)} (hc : X.calm = true) (hm : X.mg "list" = none) (hg : Gl X "list") (ha : EV X na a sl cs s cs1) (hd : IsD cs1 s (svK kvs)) (hbase : attributeBase a "items" X.env (eval a X.env) = eval a X.env := by rfl) (hline : (apos.endLine == cpos.line) = true := by rfl)
    (hs : starEach [.Call (.Attribute a "items" apos) [] [] cpos] X.env = (false, eval (.Call (.Attribute a "items" apos) [] [] cpos) X.env) :: starEach [] X.env := by rfl) :
    EV X na (.Call (.Name "list" p) [.Call (.Attribute a "items" apos) [] [] cpos] [] pos) sl cs (.val (.list (kvs.map kvD))) cs1 :=
  ev_of (LiI.pe_listItems hc pe_any hg hm (by decide +kernel) hbase hline hs) fun B G ps σ H hn C S Q q => ha B G ps σ H hn C S _ fun v G1 ps1 H1 C1 u1 r1 => by
    obtain ⟨l, us, rfl, h1, h2⟩ := hd.at C1 r1
    refine ⟨l, us, rfl, h1, fun H' p' ts hsame hp hts hpts hl hpair => ?_⟩
    have hnew : ∀ b, (b = p' ∨ b ∈ ts) → H1 b = none := fun b hb => hb.elim (fun e => e ▸ hp) (hts b)
    have C2 : Core X.K B (fun b => if b = p' ∨ b ∈ ts then H' b else G1 b) ps1 cs1 H' := C1.grow hsame
      (fun b o e => by
        have hb : ¬ (b = p' ∨ b ∈ ts) := fun z => by have := C1.freeG (hnew b z); rw [e] at this; cases this
        show (if b = p' ∨ b ∈ ts then H' b else G1 b) = some o
        rw [if_neg hb]
        exact e)
      (fun b o e => by
        have e' : (if b = p' ∨ b ∈ ts then H' b else G1 b) = some o := e
        by_cases hb : b = p' ∨ b ∈ ts
        · rw [if_pos hb] at e'
          exact e'
        · rw [if_neg hb] at e'
          exact hsame _ _ (C1.gh _ _ e'))
      (fun b e => by
        have e' : (if b = p' ∨ b ∈ ts then H' b else G1 b) ≠ none := e
        by_cases hb : b = p' ∨ b ∈ ts
        · exact .inr (hnew b hb)
        · rw [if_neg hb] at e'
          exact .inl e')
    have sG : Same G1 (fun b => if b = p' ∨ b ∈ ts then H' b else G1 b) := fun b o e => by
      have hb : ¬ (b = p' ∨ b ∈ ts) := fun z => by have := C1.freeG (hnew b z); rw [e] at this; cases this
      show (if b = p' ∨ b ∈ ts then H' b else G1 b) = some o
      rw [if_neg hb]
      exact e
    refine q (.ref p') _ ps1 H' C2 (u1.trans ⟨sG, List.prefix_refl _⟩) ?_
    refine Rep.lst (xs := ts.map V.ref) (.inl (.inl ?_)) ?_
    · show (if p' = p' ∨ p' ∈ ts then H' p' else G1 p') = _
      rw [if_pos (.inl rfl)]
      exact hl
    · have key : ∀ {qs : List Addr} {us : List (Key × V)} {kvs : List (Key × PyData)}, (∀ t ∈ qs, t ∈ ts) → Paired (fun (t : Addr) (q : Key × V) => H' t = some (.tup [kV q.1, q.2])) qs us → Paired (fun (q : Key × V) (kv : Key × PyData) => q.1 = kv.1 ∧ Rep X.K G1 q.2 kv.2) us kvs → Reps X.K (fun b => if b = p' ∨ b ∈ ts then H' b else G1 b) (qs.map V.ref) (kvs.map kvD) := fun {qs us kvs} hm h g => by
        induction h generalizing kvs with
        | nil => cases g; exact .nil
        | @cons t q ls qs' e _ ih =>
          cases g with
          | cons g1 g2 =>
            refine .cons (.tup (xs := [kV q.1, q.2]) (.inl (.inl ?_)) (.cons ?_ (.cons (Rep.mono sG g1.2) .nil))) (ih (fun t ht => hm t (List.mem_cons_of_mem _ ht)) g2)
            · show (if t = p' ∨ t ∈ ts then H' t else G1 t) = _
              rw [if_pos (.inr (hm t List.mem_cons_self))]
              exact e
            · rw [g1.1]
              exact rep_key _
      exact key (fun _ h => h) hpair (svK_inv h2)
def mergeS (kvs : List (Key × PyData)) : List (Key × SV) → List (Key × SV) := fun acc => kvs.foldl (fun acc kv => putS acc kv.1 (.val kv.2)) acc
theorem putK_nd {us : List (Key × V)} {k : Key} {v : V} (h : (us.map (·.1)).Nodup) : ((putK us k v).map (·.1)).Nodup := by
  unfold putK
  by_cases m : (us.any fun kv => decide (kv.1 = k)) = true
  · rw [if_pos m, List.map_map]
    have e : ((fun x : Key × V => x.1) ∘ fun kv : Key × V => if kv.1 = k then (kv.1, v) else kv) = fun kv => kv.1 := funext fun kv => by
      show (if kv.1 = k then (kv.1, v) else kv).1 = kv.1
      split <;> rfl
    rw [e]
    exact h
  · rw [if_neg m, List.map_append]
    refine nd_snoc h fun hk => m ?_
    obtain ⟨p, hp, e⟩ := List.mem_map.mp hk
    exact List.any_eq_true.mpr ⟨p, hp, decide_eq_true e⟩
theorem merge_ks {K : PySem.W.Frag} {G : Hp} {ps : List Addr} : ∀ {us : List (Key × V)} {kvs : List (Key × PyData)} {acc : List (Key × V)} {acc' : List (Key × SV)}, Paired (fun (q : Key × V) (kv : Key × PyData) => q.1 = kv.1 ∧ Rep K G q.2 kv.2) us kvs → RepKs K G ps acc acc' → (acc.map (·.1)).Nodup → RepKs K G ps (mergeK acc us) (mergeS kvs acc')
  | _, _, _, _, .nil, r, _ => r
  | (k', v) :: us, (k, d) :: kvs, acc, acc', .cons h t, r, nd => by
    obtain ⟨h1, h2⟩ := h
    cases (show k' = k from h1)
    show RepKs K G ps (mergeK (putK acc k' v) us) (mergeS kvs (putS acc' k' (.val d)))
    exact merge_ks t (put_ks (show RepV K G ps v (.val d) from h2) r nd) (putK_nd nd)
/-- dict(pairs) -/
theorem ev_dictP {kvs : List (Key × PyData)} {n : Nat} (hc : X.calm = true) (hm : X.mg "dict" = none) (hg : Gl X "dict") (ha : EV X na a sl cs s cs1) (hl : IsL cs1 s ((kvs.map kvD).map SV.val)) (ac : AppC cs1 (.dct (mergeS kvs [])) n cs2) (hs : starEach [a] X.env = (false, eval a X.env) :: starEach [] X.env := by rfl) : EV X na (.Call (.Name "dict" p) [a] [] pos) sl cs (.cell n) cs2 :=
  ev_callTy (call_dictP hc) (by decide +kernel) hg hm (av_cons ha av_nil hs) (rc1 fun B G ps' H v hn C r1 Q q => by
    obtain ⟨l, vs, rfl, h1, h2⟩ := hl.sq C r1
    have h3 := Reps.ofVs h2
    have key : ∀ {vs : List V} {kvs : List (Key × PyData)}, Reps X.K G vs (kvs.map kvD) → ∃ (qs : List Addr) (us : List (Key × V)), vs = qs.map V.ref ∧ Paired (fun p kv => SqT X.K H p [kV kv.1, kv.2]) qs us ∧ Paired (fun (q : Key × V) (kv : Key × PyData) => q.1 = kv.1 ∧ Rep X.K G q.2 kv.2) us kvs := fun {vs kvs} h => by
      induction kvs generalizing vs with
      | nil => cases h; exact ⟨[], [], rfl, .nil, .nil⟩
      | cons kv r ih =>
        cases h with
        | cons h1 h2 =>
          obtain ⟨qs, us, rfl, e2, e3⟩ := ih h2
          obtain ⟨t, ws, rfl, g1, g2⟩ := Rep.tupI h1
          cases g2 with
          | cons k1 k2 =>
            cases k2 with
            | cons k2 k3 =>
              cases k3
              have e : _ = kV kv.1 := (show KeyOf (kD kv.1) kv.1 by cases kv.1 <;> constructor).v k1
              subst e
              exact ⟨t :: qs, (kv.1, _) :: us, rfl, .cons (Same.seqT C.gh g1) e2, .cons ⟨rfl, k2⟩ e3⟩
    obtain ⟨qs, us, rfl, e2, e3⟩ := key h3
    exact ⟨l, qs, us, rfl, h1, e2, C.newCell ac (fun p hp => ⟨_, upd_same, merge_ks e3 .nil List.Pairwise.nil⟩) q⟩) (by decide) (by decide) hs
theorem ev_reverse {k : Nat} {xs : List SV} (ha : EV X na a sl cs (.cell k) cs1) (hc : cs1[k]? = some (.lst xs)) (p : PutC cs1 k (.lst xs.reverse) cs2) (hbase : attributeBase a "reverse" X.env (eval a X.env) = eval a X.env := by rfl) (hline : (apos.endLine == pos.line) = true := by rfl) :
    EV X na (.Call (.Attribute a "reverse" apos) [] [] pos) sl cs (.val .none) cs2 :=
  ev_of (pe_bm0 PySem.F.plainAttrs_list PySem.F.slot_list_reverse PySem.F.type_list_reverse mt_reverse pe_any hbase hline) fun B G ps σ H hn C S Q q => ha B G ps σ H hn C S _ fun v G1 ps1 H1 C1 u1 r1 => by
    obtain ⟨l, rfl, e, ws, h1, h2⟩ := C1.cellAt r1 hc
    rw [p.at] at q
    exact ⟨.inl ⟨rfl, ws, SqL.of h1⟩, l, ws, rfl, rfl, h1, q _ G1 ps1 _ (C1.put (c' := .lst xs.reverse) e hc (by intro z; cases z) ⟨_, upd_same, pd_rev h2⟩) u1 Rep.non⟩
end
end DL
namespace DL
open PySem PySem.Spec PyProof.Rows L2
theorem ret_val {na : Nat} {d d' : PyData} {c c2 : Cs} (hd : d = d') (hc : c2.take na = c) (hl : c.length = na) (lt : c.all (CC.lt na) = true) : RetOk na (.val d') c (.val d) c2 := by
  subst hd
  refine .val ?_ hl lt
  rw [← hc]
  exact List.take_prefix _ _
theorem ret_new {na : Nat} {k : Nat} {o o' : CC} {c c2 : Cs} (hk : na ≤ k) (ho : c2[k]? = some o) (e : o = o') (hf : o'.flat = true) (hd : o' ≠ .dead) (hc : c2.take na = c) (hl : c.length = na) (lt : c.all (CC.lt na) = true) : RetOk na (.cell na) (c ++ [o']) (.cell k) c2 := by
  subst e
  refine .new hk ho hf hd ?_ hl lt
  rw [← hc]
  exact List.take_prefix _ _
theorem ret_frz {na : Nat} {k : Nat} {d d' : PyData} {o : CC} {c c2 : Cs} (hk : na ≤ k) (ho : c2[k]? = some o) (hd : o.data = some d) (e : d = d') (hc : c2.take na = c) (hl : c.length = na) (lt : c.all (CC.lt na) = true) : RetOk na (.val d') c (.cell k) c2 := by
  subst e
  refine .frz hk ho hd ?_ hl lt
  rw [← hc]
  exact List.take_prefix _ _
/-! ### items by a place that is not written -/
theorem at_if {α : Type} {x y : α} {b : Bool} : atI [x, y] (if b = true then 1 else 0) = some (if b = true then y else x) := by cases b <;> rfl
theorem at_in {α : Type} {xs : List α} {i : Int} {d : α} (h0 : 0 ≤ i) (h1 : i < xs.length) : atI xs i = some (xs.getD i.toNat d) := by
  have e : i = (i.toNat : Int) := by omega
  have h2 : i.toNat < xs.length := by omega
  rw [e]
  refine atI_nat ?_
  rw [Int.toNat_natCast, List.getElem?_eq_getElem h2, List.getD_eq_getElem?_getD, List.getElem?_eq_getElem h2]
  rfl
theorem at_map {α β : Type} {xs : List α} {f : α → β} {i : Int} {d : α} (h0 : 0 ≤ i) (h1 : i < xs.length) : atI (xs.map f) i = some (f (xs.getD i.toNat d)) := by
  rw [at_in (d := f d) h0 (by rw [List.length_map]; exact h1)]
  congr 1
  rw [List.getD_eq_getElem?_getD, List.getD_eq_getElem?_getD, List.getElem?_map]
  cases xs[i.toNat]? <;> rfl
/-! ### sizes of ints -/
def Bd (n : Int) : Prop := ∃ b : Nat, b ≤ 1100000 ∧ n.natAbs < 2 ^ b
theorem bd_lt {n : Int} (h : n.natAbs < 18446744073709551616) : Bd n := ⟨64, by omega, h⟩
theorem bd_mul_small {n m : Int} (h : Bd n) (hm : m.natAbs < 18446744073709551616) : CMulX n m := by
  obtain ⟨b, hb, h⟩ := h
  exact mulx_ok (b := 64) h hm (by omega)
theorem small_mul {n m : Int} (h : n.natAbs < 18446744073709551616) (hm : m.natAbs < 18446744073709551616) : CMulX n m := mulx_ok (a := 64) (b := 64) h hm (by omega)
theorem small_div {i j : Int} (h : 0 < j) (hj : j.natAbs < 18446744073709551616) : CDivW i j := wide_div (b := 64) h hj (by decide) (by decide)
theorem bd_div {n m : Int} (h : Bd n) : Bd (n / m) := by
  obtain ⟨b, hb, h⟩ := h
  exact ⟨b, hb, Nat.lt_of_le_of_lt (Int.natAbs_ediv_le_natAbs n m) h⟩
theorem bd_bits {n : Int} (h : Builtin.Int.intBits n ≤ 1048576) : Bd n := by
  refine ⟨1048577, by omega, ?_⟩
  unfold Builtin.Int.intBits at h
  by_cases z : n = 0
  · subst z
    exact Nat.two_pow_pos _
  · have h0 : n.natAbs ≠ 0 := by omega
    have : n.natAbs.log2 < 1048577 := by
      have h' := h
      rw [if_neg (by simpa using z)] at h'
      omega
    exact (Nat.log2_lt h0).mp this
/-! ### ways that meet again -/
theorem sx_cut {X : Cx} {na : NA} {sl : Sl} {cs : Cs} {st : Stmt} {rest : List Stmt} {E : DEnds} (M : Sl → Cs → Prop) (h : S1 X na st sl cs { E with nx := M }) (k : ∀ sl' cs', M sl' cs' → SX X na rest sl' cs' E) : SX X na (st :: rest) sl cs E :=
  sx_cons fun B G ps σ H hn C S D L => h B G ps σ H hn C S D ⟨fun sl' cs' G' ps' σ' H' C' u' S' q => L.nx sl' cs' G' ps' σ' H' C' u' S' (k sl' cs' q), L.rt, L.bk, L.ct⟩
theorem sx_cutF {X : Cx} {na : NA} {sl : Sl} {cs : Cs} {st : Stmt} {rest : List Stmt} {E : DEnds} (a : Sl) (c : Cs) (h : S1 X na st sl cs { E with nx := fun sl' cs' => Le a sl' ∧ cs' = c }) (k : SX X na rest a c E) : SX X na (st :: rest) sl cs E :=
  sx_cut _ h fun sl' cs' ⟨l, e⟩ => by
    subst e
    exact sx_weak l k
end DL
namespace DL
open PySem PySem.Spec PyProof.Rows L2
/-! ### isinstance, by classes -/
def isTup : PyData → Bool
  | .tuple _ => true
  | _ => false
def isInt : PyData → Bool
  | .int _ => true
  | .bool _ => true
  | _ => false
def isBool : PyData → Bool
  | .bool _ => true
  | _ => false
def isStr : PyData → Bool
  | .str _ => true
  | _ => false
def isLst : PyData → Bool
  | .list _ => true
  | _ => false
section
variable {K : PySem.W.Frag}
theorem kit_tup (d : PyData) : PySem.W.kitOne K (.type (tyOf d)) (.type "tuple") = some (isTup d) := by cases d <;> (dsimp only [tyOf, isTup, isInt, isBool, isStr, isLst]; exact kit_ty (by decide +kernel))
theorem kit_int (d : PyData) : PySem.W.kitOne K (.type (tyOf d)) (.type "int") = some (isInt d) := by cases d <;> (dsimp only [tyOf, isTup, isInt, isBool, isStr, isLst]; exact kit_ty (by decide +kernel))
theorem kit_bool (d : PyData) : PySem.W.kitOne K (.type (tyOf d)) (.type "bool") = some (isBool d) := by cases d <;> (dsimp only [tyOf, isTup, isInt, isBool, isStr, isLst]; exact kit_ty (by decide +kernel))
theorem kit_str (d : PyData) : PySem.W.kitOne K (.type (tyOf d)) (.type "str") = some (isStr d) := by cases d <;> (dsimp only [tyOf, isTup, isInt, isBool, isStr, isLst]; exact kit_ty (by decide +kernel))
theorem kit_lst (d : PyData) : PySem.W.kitOne K (.type (tyOf d)) (.type "list") = some (isLst d) := by cases d <;> (dsimp only [tyOf, isTup, isInt, isBool, isStr, isLst]; exact kit_ty (by decide +kernel))
end
section
variable {X : Cx} {na : NA} {sl sl' : Sl} {cs cs1 cs2 cs3 : Cs} {s t u : SV} {pos : Pos} {x : Str} {E : DEnds} {N : List Str} {a b : Expr} {p p2 pos2 apos cpos : Pos} {d : PyData}
theorem ev_isTup (hm : X.mg "isinstance" = none) (hg : Gl X "isinstance") (ha : EV X na a sl cs (.val d) cs1) (hmT : X.mg "tuple" = none) (hgT : Gl X "tuple")
    (hs : starEach [a, .Name "tuple" p2] X.env = (false, eval a X.env) :: starEach [.Name "tuple" p2] X.env := by rfl) : EV X na (.Call (.Name "isinstance" p) [a, .Name "tuple" p2] [] pos) sl cs (.val (.bool (isTup d))) cs1 :=
  ev_isi hm hg ha hmT hgT (by decide +kernel) (kit_tup d) (by decide) (by decide) hs
theorem ev_isInt (hm : X.mg "isinstance" = none) (hg : Gl X "isinstance") (ha : EV X na a sl cs (.val d) cs1) (hmT : X.mg "int" = none) (hgT : Gl X "int")
    (hs : starEach [a, .Name "int" p2] X.env = (false, eval a X.env) :: starEach [.Name "int" p2] X.env := by rfl) : EV X na (.Call (.Name "isinstance" p) [a, .Name "int" p2] [] pos) sl cs (.val (.bool (isInt d))) cs1 :=
  ev_isi hm hg ha hmT hgT (by decide +kernel) (kit_int d) (by decide) (by decide) hs
theorem ev_isBool (hm : X.mg "isinstance" = none) (hg : Gl X "isinstance") (ha : EV X na a sl cs (.val d) cs1) (hmT : X.mg "bool" = none) (hgT : Gl X "bool")
    (hs : starEach [a, .Name "bool" p2] X.env = (false, eval a X.env) :: starEach [.Name "bool" p2] X.env := by rfl) : EV X na (.Call (.Name "isinstance" p) [a, .Name "bool" p2] [] pos) sl cs (.val (.bool (isBool d))) cs1 :=
  ev_isi hm hg ha hmT hgT (by decide +kernel) (kit_bool d) (by decide) (by decide) hs
theorem ev_isStr (hm : X.mg "isinstance" = none) (hg : Gl X "isinstance") (ha : EV X na a sl cs (.val d) cs1) (hmT : X.mg "str" = none) (hgT : Gl X "str")
    (hs : starEach [a, .Name "str" p2] X.env = (false, eval a X.env) :: starEach [.Name "str" p2] X.env := by rfl) : EV X na (.Call (.Name "isinstance" p) [a, .Name "str" p2] [] pos) sl cs (.val (.bool (isStr d))) cs1 :=
  ev_isi hm hg ha hmT hgT (by decide +kernel) (kit_str d) (by decide) (by decide) hs
theorem ev_isLst (hm : X.mg "isinstance" = none) (hg : Gl X "isinstance") (ha : EV X na a sl cs (.val d) cs1) (hmT : X.mg "list" = none) (hgT : Gl X "list")
    (hs : starEach [a, .Name "list" p2] X.env = (false, eval a X.env) :: starEach [.Name "list" p2] X.env := by rfl) : EV X na (.Call (.Name "isinstance" p) [a, .Name "list" p2] [] pos) sl cs (.val (.bool (isLst d))) cs1 :=
  ev_isi hm hg ha hmT hgT (by decide +kernel) (kit_lst d) (by decide) (by decide) hs
/-- [elt for tg in iter]: item by item, the cells as they were -/
theorem lc_M {elt tg iter : Expr} {scope : Scope} {own : List (Str × Nat)} {xs : List SV} {GC : Cs → Prop} (h : IV X na tg iter sl cs xs GC cs1)
    (ds : List PyData) (a : Nat → Sl) (c2 : Nat → Cs) (hl : ds.length = xs.length) (hz : xs.length ≤ 100000) (hG : GC cs1)
    (hg : ∀ i s, xs[i]? = some s → ∀ st H C cl fp, GW (blkOf X scope st H C cl fp) (lenB cs1.length) tg s (wipeS sl (own.map (·.2))) cs1 (own.map (·.2)) fun sl2 cs2 => sl2 = a i ∧ cs2 = cs1)
    (he : ∀ i s d, xs[i]? = some s → ds[i]? = some d → (∀ st H C cl fp, EV (blkOf X scope st H C cl fp) (lenB cs1.length) elt (a i) cs1 (.val d) (c2 i)) ∧ AtC cs1.length cs1 (c2 i))
    : LC X na elt tg iter [] scope own sl cs ds cs1 := by
  have := lc_gen (elt := elt) (ifs := []) (sl := sl) (scope := scope) (own := own) h a (fun _ => cs1) c2 (fun _ => true) (fun i => ds.getD i .none) (fun i => ds.take i) rfl rfl hz (fun _ _ => hG) hg (fun i s e st H C cl fp => tvs_nil)
    (fun i s e _ => by
      have hi : i < ds.length := by rw [hl]; exact (List.getElem?_eq_some_iff.mp e).1
      have e2 : ds[i]? = some (ds.getD i .none) := by rw [List.getD_eq_getElem?_getD, List.getElem?_eq_getElem hi]; rfl
      obtain ⟨h1, h2⟩ := he i s _ e e2
      refine ⟨h1, h2, ?_⟩
      rw [List.take_add_one, e2]
      rfl)
    (fun _ _ _ z => nomatch z)
  rw [← hl, List.take_of_length_le (Nat.le_refl _)] at this
  exact this
/-- .. of those that a test lets by -/
theorem lc_F {α : Type} {elt tg iter ift : Expr} {scope : Scope} {own : List (Str × Nat)} {GC : Cs → Prop} (es : List α) (f : α → SV) (h : IV X na tg iter sl cs (es.map f) GC cs1)
    (k : α → Bool) (v : α → PyData) (a : α → Sl) (c2 : α → Cs) (hz : es.length ≤ 100000) (hG : GC cs1)
    (hg : ∀ e ∈ es, ∀ st H C cl fp, GW (blkOf X scope st H C cl fp) (lenB cs1.length) tg (f e) (wipeS sl (own.map (·.2))) cs1 (own.map (·.2)) fun sl2 cs2 => sl2 = a e ∧ cs2 = cs1)
    (ht : ∀ e ∈ es, ∀ st H C cl fp, TV (blkOf X scope st H C cl fp) (lenB cs1.length) ift (a e) cs1 (k e) cs1)
    (he : ∀ e ∈ es, k e = true → (∀ st H C cl fp, EV (blkOf X scope st H C cl fp) (lenB cs1.length) elt (a e) cs1 (.val (v e)) (c2 e)) ∧ AtC cs1.length cs1 (c2 e))
    : LC X na elt tg iter [ift] scope own sl cs ((es.filter k).map v) cs1 := by
  cases es with
  | nil =>
    exact lc_gen (elt := elt) (ifs := [ift]) (sl := sl) (scope := scope) (own := own) h (fun _ => sl) (fun _ => cs1) (fun _ => cs1) (fun _ => true) (fun _ => .none) (fun _ => []) rfl rfl (Nat.zero_le _) (fun _ _ => hG) (fun i s e => by simp at e) (fun i s e => by simp at e) (fun i s e => by simp at e) (fun i s e => by simp at e)
  | cons e0 er =>
    have get : ∀ {i : Nat} {s : SV}, ((e0 :: er).map f)[i]? = some s → ∃ e, (e0 :: er)[i]? = some e ∧ s = f e ∧ (e0 :: er).getD i e0 = e := fun {i s} e => by
      rw [List.getElem?_map] at e
      cases q : (e0 :: er)[i]? with
      | none => rw [q] at e; cases e
      | some z =>
        rw [q] at e
        cases e
        exact ⟨z, rfl, rfl, by rw [List.getD_eq_getElem?_getD, q]; rfl⟩
    have := lc_gen (elt := elt) (ifs := [ift]) (sl := sl) (scope := scope) (own := own) h (fun i => a ((e0 :: er).getD i e0)) (fun _ => cs1) (fun i => c2 ((e0 :: er).getD i e0)) (fun i => k ((e0 :: er).getD i e0)) (fun i => v ((e0 :: er).getD i e0)) (fun i => (((e0 :: er).take i).filter k).map v) rfl rfl (by rw [List.length_map]; exact hz) (fun _ _ => hG)
      (fun i s e st H C cl fp => by
        obtain ⟨z, h1, rfl, h3⟩ := get e
        rw [h3]
        exact hg z (List.mem_of_getElem? h1) st H C cl fp)
      (fun i s e st H C cl fp => by
        obtain ⟨z, h1, rfl, h3⟩ := get e
        rw [h3]
        exact tvs_one (ht z (List.mem_of_getElem? h1) st H C cl fp))
      (fun i s e hk => by
        obtain ⟨z, h1, rfl, h3⟩ := get e
        rw [h3] at hk
        obtain ⟨g1, g2⟩ := he z (List.mem_of_getElem? h1) hk
        refine ⟨by rw [h3]; exact g1, by rw [h3]; exact g2, ?_⟩
        rw [h3, List.take_add_one, h1, List.filter_append, List.map_append]
        simp [hk])
      (fun i s e hk => by
        obtain ⟨z, h1, rfl, h3⟩ := get e
        rw [h3] at hk
        refine ⟨rfl, ?_⟩
        rw [List.take_add_one, h1, List.filter_append, List.map_append]
        simp [hk])
    rw [List.length_map, List.take_of_length_le (Nat.le_refl _)] at this
    exact this
theorem ev_lcM {elt tg iter : Expr} {scope : Scope} {own : List (Str × Nat)} {xs : List SV} {GC : Cs → Prop} (hc : X.calm = true) (nd : X.N.Nodup) (ok : BlkOk X.N X.env.scope scope own) (h : IV X na tg iter sl cs xs GC cs1)
    (ds : List PyData) (a : Nat → Sl) (c2 : Nat → Cs) (hl : ds.length = xs.length) (hz : xs.length ≤ 100000) (hG : GC cs1)
    (hg : ∀ i s, xs[i]? = some s → ∀ st H C cl fp, GW (blkOf X scope st H C cl fp) (lenB cs1.length) tg s (wipeS sl (own.map (·.2))) cs1 (own.map (·.2)) fun sl2 cs2 => sl2 = a i ∧ cs2 = cs1)
    (he : ∀ i s d, xs[i]? = some s → ds[i]? = some d → (∀ st H C cl fp, EV (blkOf X scope st H C cl fp) (lenB cs1.length) elt (a i) cs1 (.val d) (c2 i)) ∧ AtC cs1.length cs1 (c2 i))
    (hs : ∀ x, foldedSetIterable iter X.env x = pure x := by intro _; rfl) : EV X na (.ListComp elt [⟨tg, iter, [], 0⟩] scope pos) sl cs (.val (.list ds)) cs1 :=
  ev_LC hc nd ok (lc_M h ds a c2 hl hz hG hg he) hs
theorem ev_lcF {α : Type} {elt tg iter ift : Expr} {scope : Scope} {own : List (Str × Nat)} {GC : Cs → Prop} (hc : X.calm = true) (nd : X.N.Nodup) (ok : BlkOk X.N X.env.scope scope own) (es : List α) (f : α → SV) (h : IV X na tg iter sl cs (es.map f) GC cs1)
    (k : α → Bool) (v : α → PyData) (a : α → Sl) (c2 : α → Cs) (hz : es.length ≤ 100000) (hG : GC cs1)
    (hg : ∀ e ∈ es, ∀ st H C cl fp, GW (blkOf X scope st H C cl fp) (lenB cs1.length) tg (f e) (wipeS sl (own.map (·.2))) cs1 (own.map (·.2)) fun sl2 cs2 => sl2 = a e ∧ cs2 = cs1)
    (ht : ∀ e ∈ es, ∀ st H C cl fp, TV (blkOf X scope st H C cl fp) (lenB cs1.length) ift (a e) cs1 (k e) cs1)
    (he : ∀ e ∈ es, k e = true → (∀ st H C cl fp, EV (blkOf X scope st H C cl fp) (lenB cs1.length) elt (a e) cs1 (.val (v e)) (c2 e)) ∧ AtC cs1.length cs1 (c2 e))
    (hs : ∀ x, foldedSetIterable iter X.env x = pure x := by intro _; rfl) : EV X na (.ListComp elt [⟨tg, iter, [ift], 0⟩] scope pos) sl cs (.val (.list ((es.filter k).map v))) cs1 :=
  ev_LC hc nd ok (lc_F es f h k v a c2 hz hG hg ht he) hs
theorem ev_is {e : Expr} (h : EV X na e sl cs s cs1) (q : s = t) : EV X na e sl cs t cs1 := q ▸ h
theorem tv_is {e : Expr} {k l : Bool} (h : TV X na e sl cs k cs1) (q : k = l) : TV X na e sl cs l cs1 := q ▸ h
theorem ev_nameV {i : Nat} (nd : X.N.Nodup) (hN : X.N = N) (l : Lk N sl x i s) (hv : Vis X.env.scope x := by first | exact Or.inl rfl | exact Or.inr (Or.inl rfl) | exact Or.inr (Or.inr rfl)) (hd : (x == ("__debug__" : Str)) = false := by decide) (hcd : (x == ("__classdict__" : Str)) = false := by decide) : EV X na (.Name x pos) sl cs s cs := by
  subst hN
  obtain ⟨h1, h2⟩ := l.at
  refine ev_of (pe_var h1 hv hd hcd) fun B G ps σ H hn C S Q q => ?_
  obtain ⟨o, ho, hr⟩ := pd_get S h2
  cases o with
  | none => exact hr.elim
  | some v => exact ⟨v, ho, q v G ps H C (Up.refl _ _) hr⟩
end
end DL
namespace DL
open PySem PySem.Spec PyProof.Rows L2
theorem rg_at {α : Type} {n i : Nat} {f : Nat → α} {s : α} (h : ((List.range n).map f)[i]? = some s) : i < n ∧ s = f i := by
  rw [List.getElem?_map] at h
  by_cases hi : i < n
  · rw [List.getElem?_range hi] at h
    cases h
    exact ⟨hi, rfl⟩
  · rw [List.getElem?_eq_none (by rw [List.length_range]; omega)] at h
    cases h
section
variable {X : Cx} {N : List Str} {na : NA} {sl sl' : Sl} {cs cs1 cs2 : Cs} {s t : SV} {x : Str} {E : DEnds} {pos p : Pos} {tg iter : Expr}
/-- for over the items of a written list of things; the state told by what has been gone through -/
theorem s1_forP {α : Type} {body : List Stmt} {GC : Cs → Prop} (es : List α) (f : α → SV) (hp : PassesOwn (model X.prog X.w) X.A X.env X.xe) (hc : X.calm = true) (h : IV X na tg iter sl cs (es.map f) GC cs1) (a : List α → Sl) (c : List α → Cs) (h0 : Le (a []) sl) (h1 : c [] = cs1) (hG : ∀ pre post, es = pre ++ post → GC (c pre))
    (hs : ∀ pre e post, es = pre ++ e :: post → GX X na tg (f e) (a pre) (c pre) fun sl2 cs2 => SX X na body sl2 cs2 { E with nx := At cs1.length (a (pre ++ [e])) (c (pre ++ [e])), ct := At cs1.length (a (pre ++ [e])) (c (pre ++ [e])), bk := E.nx })
    (hd : ∀ sl', Le (a es) sl' → E.nx sl' (c es))
    (hf : ∀ x, foldedSetIterable iter X.env x = pure x := by intro _; rfl) : S1 X na (.For tg iter body [] pos) sl cs E := by
  refine s1_forF hp hc h (fun i => a (es.take i)) (fun i => c (es.take i)) h0 h1 (fun i _ => hG _ (es.drop i) (List.take_append_drop i es).symm) (fun i s hs' => ?_) (fun sl' l => ?_) hf
  · rw [List.getElem?_map] at hs'
    cases he : es[i]? with
    | none => rw [he] at hs'; cases hs'
    | some e =>
      rw [he] at hs'
      cases hs'
      have e1 : es.take (i + 1) = es.take i ++ [e] := by rw [List.take_add_one, he]; rfl
      rw [e1]
      refine hs _ e (es.drop (i + 1)) ?_
      have hi := (List.getElem?_eq_some_iff.mp he).1
      have e2 : es.drop i = e :: es.drop (i + 1) := by
        rw [List.drop_eq_getElem_cons hi, (List.getElem?_eq_some_iff.mp he).2]
      rw [← e2, List.take_append_drop]
  · rw [List.length_map, List.take_of_length_le (Nat.le_refl _)] at l ⊢
    exact hd sl' l
end
end DL
namespace DL
open PySem PySem.Spec PyProof.Rows L2
/-! ### data that can be laid, of a known depth -/
def dkD : Nat → PyData → Bool
  | _, .int _ => true
  | _, .str x => PyData.strOk x
  | _, .bool _ => true
  | _, .none => true
  | n + 1, .tuple ds => ds.all (dkD n)
  | n + 1, .list ds => ds.all (dkD n)
  | _, _ => false
theorem dk_all : ∀ {n : Nat} {ds : List PyData}, (∀ d ∈ ds, d.canLay0 = true ∧ d.depth ≤ n) → PyData.canLayAll0 ds = true ∧ PyData.depthAll ds ≤ n
  | n, [], _ => ⟨by simp [PyData.canLayAll0], by simp [PyData.depthAll]⟩
  | n, d :: ds, h => by
    obtain ⟨h1, h2⟩ := h d List.mem_cons_self
    obtain ⟨k1, k2⟩ := dk_all (n := n) fun d hd => h d (List.mem_cons_of_mem _ hd)
    refine ⟨by simp [PyData.canLayAll0, h1, k1], ?_⟩
    simp only [PyData.depthAll]
    omega
theorem dk_of : ∀ {n : Nat} {d : PyData}, dkD n d = true → d.canLay0 = true ∧ d.depth ≤ n + 1
  | n, .int i, _ => ⟨by simp [PyData.canLay0], by simp [PyData.depth]⟩
  | n, .str i, h => ⟨by simp only [PyData.canLay0]; simpa [dkD] using h, by simp [PyData.depth]⟩
  | n, .bool i, _ => ⟨by simp [PyData.canLay0], by simp [PyData.depth]⟩
  | n, .none, _ => ⟨by simp [PyData.canLay0], by simp [PyData.depth]⟩
  | 0, .tuple _, h => by simp [dkD] at h
  | 0, .list _, h => by simp [dkD] at h
  | 0, .dict _, h => by simp [dkD] at h
  | n + 1, .dict _, h => by simp [dkD] at h
  | n + 1, .tuple ds, h => by
    rw [dkD, List.all_eq_true] at h
    obtain ⟨h1, h2⟩ := dk_all (n := n + 1) (ds := ds) fun d hd => dk_of (h d hd)
    refine ⟨by simp only [PyData.canLay0]; exact h1, ?_⟩
    simp only [PyData.depth]
    omega
  | n + 1, .list ds, h => by
    rw [dkD, List.all_eq_true] at h
    obtain ⟨h1, h2⟩ := dk_all (n := n + 1) (ds := ds) fun d hd => dk_of (h d hd)
    refine ⟨by simp only [PyData.canLay0]; exact h1, ?_⟩
    simp only [PyData.depth]
    omega
theorem dk_shaped {n : Nat} {d : PyData} (h : dkD n d = true) (hn : n ≤ 60) : SeqAt.shaped d = true := by
  obtain ⟨h1, h2⟩ := dk_of h
  show (d.canLay0 && decide (d.depth ≤ 64)) = true
  rw [Bool.and_eq_true]
  exact ⟨h1, decide_eq_true (by omega)⟩
theorem eqvAll_same : ∀ {ds : List PyData}, (∀ d ∈ ds, PyData.eqv d d = true) → PyData.eqvAll ds ds = true
  | [], _ => by simp [PyData.eqvAll]
  | d :: ds, h => by
    rw [PyData.eqvAll, h d List.mem_cons_self, eqvAll_same fun e he => h e (List.mem_cons_of_mem _ he)]
    rfl
theorem dk_refl : ∀ {n : Nat} {d : PyData}, dkD n d = true → PyData.eqv d d = true
  | _, .int i, _ => by simp [PyData.eqv]
  | _, .str i, _ => by simp [PyData.eqv]
  | _, .bool i, _ => by simp [PyData.eqv]
  | _, .none, _ => by simp [PyData.eqv]
  | 0, .tuple _, h => by simp [dkD] at h
  | 0, .list _, h => by simp [dkD] at h
  | 0, .dict _, h => by simp [dkD] at h
  | n + 1, .dict _, h => by simp [dkD] at h
  | n + 1, .tuple ds, h => by
    rw [dkD, List.all_eq_true] at h
    rw [PyData.eqv]
    exact eqvAll_same fun d hd => dk_refl (h d hd)
  | n + 1, .list ds, h => by
    rw [dkD, List.all_eq_true] at h
    rw [PyData.eqv]
    exact eqvAll_same fun d hd => dk_refl (h d hd)
theorem flat_map (ds : List PyData) : (CC.lst (ds.map SV.val)).flat = true := by
  show (ds.map SV.val).all SV.isVal = true
  rw [List.all_eq_true]
  intro s h
  obtain ⟨d, _, rfl⟩ := List.mem_map.mp h
  rfl
theorem all_flat1 {c : CC} (h : c.flat = true) : [c].all CC.flat = true := by simp [h]
end DL
namespace DL
open PySem PySem.Spec PyProof.Rows L2
/-! ### the law itself -/
theorem fn_def {P : Program} {w : World} {K : PySem.W.Frag} {mg : Str → Option Value} {base : Heap} {x : Str} {st : Stmt} {f : Addr} {fd : FuncData} {N ps : List Str} {k m : Nat} {spec : Spec} (F : Fun K x x st f fd) (S : FnScope N ps (defScope st)) (tb : tabOk (N.take m) (defScope st) = true)
    (body : ∀ (f : Addr) (cdv : Value) (A : Around) (outer : List Env) (s : Shared) (H : Hp) (E : XK), Room k (cxN P w K mg base N x (defScope st) f cdv A outer s H E).A → Tab (cxN P w K mg base N x (defScope st) f cdv A outer s H E) m → TabL (cxN P w K mg base N x (defScope st) f cdv A outer s H E) m →
      ∀ svs cs sv cs', spec svs cs sv cs' → svs.length = ps.length →
      SX (cxN P w K mg base N x (defScope st) f cdv A outer s H E) (lenB cs.length) (defBody st) (svs.map some ++ List.replicate (N.length - svs.length) none) cs { nx := fun _ cs2 => RetOk cs.length sv cs' (.val .none) cs2, rt := fun s2 cs2 => RetOk cs.length sv cs' s2 cs2 }) :
    FnOk P w K mg base CX0 (k + 1) f fd ps (spM K ps.length spec) := by
  refine F.ok S (fun vs H Q E ⟨G, qs, svs, cs, s, cs', h, hl, C, r, q⟩ => by rw [Paired.length r, hl]) (fun cdv A outer s H vs Q E hr ⟨G, qs, svs, cs, sv, cs', h, hl, C, r, q⟩ => ⟨_, pss_any, ?_⟩)
  obtain ⟨T, TL⟩ := tab_of (X := cxN P w K mg base N x (defScope st) f cdv A outer s H E) tb rfl rfl S.nd (fun _ => rfl)
  have hb := body f cdv A outer s H E hr T TL svs cs sv cs' h hl
  refine hb ⟨G, H, qs⟩ G qs _ H C.len C (slots_start r) _ ⟨fun sl2 cs2 G' ps' σ' H' C' u' S' e => ?_, fun s2 cs2 G' ps' v H' C' u' r' e => ?_, fun _ _ _ _ _ _ _ _ _ e => e.elim, fun _ _ _ _ _ _ _ _ _ e => e.elim⟩
  · obtain ⟨G2, ps2, C2, u2, r2⟩ := e.go C' C.len u' (show RepV K G' ps' .non (.val .none) from Rep.non)
    exact q .non G2 ps2 H' C2 u2 r2
  · obtain ⟨G2, ps2, C2, u2, r2⟩ := e.go C' C.len u' r'
    exact q v G2 ps2 H' C2 u2 r2
theorem defAt_mk {K : PySem.W.Frag} {h : Heap} {mg : Str → Option Value} {x : Str} {st : Stmt} {ps : List Str} {f : Addr} {od an : Option Addr} {sl : Array (Option Value)} {oc kV dc pm cd ct : Value} (X : K.In h) (G : h.Ns mainGlobals mg)
    (a : PySem.W.nsIn K mainGlobals x = some (some (.ref f))) (l : K.lookup f = some ⟨oc, od, .func (PySem.W.fnOf x x (defArgs st) (defBody st) (defScope st) .none kV dc pm an cd ct), sl⟩) (c : PySem.W.codeIn K cd x = true) (k : PySem.W.keepIn K (.ref f) = true)
    (b : ∀ (kV doc pm : Value) (an : Option Addr) (cdv ct : Value) (us : List Value), us.length = ps.length → bindArgs (PySem.W.fnOf x x (defArgs st) (defBody st) (defScope st) .none kV doc pm an cdv ct) ⟨us, []⟩ = pure (ps.zip us)) : DefAt K mg x st ps :=
  ⟨f, _, fun_mk l c k, PySem.W.mg_of X G a, (fun_mk l c k).binds b⟩
theorem rep_ints {K : PySem.W.Frag} {H : Hp} {a : Addr} {ns : List Int} (h : SqL K H a (ns.map V.int)) : Rep K H (.ref a) (.list (ns.map .int)) := .lst h (Reps.ofInts ns)
/-- what the law is handed -/
theorem spM_law {K : PySem.W.Frag} {spec : Spec} {H : Hp} {a : Addr} {ns : List Int} (h : spec [.val (.list (ns.map .int))] [] (.val (.bool true)) []) (hS : SqL K H a (ns.map V.int)) : spM K 1 spec [.ref a] H (fun v _ => v = .bl true) fun _ _ _ => False :=
  ⟨H, [], _, [], _, [], h, rfl, ⟨Same.refl H, fun _ _ e _ => e, Same.refl H, fun _ e => .inl e, rfl, List.prefix_refl _, List.nodup_nil, fun _ _ _ e => by cases e⟩, .cons (rep_ints hS) .nil, fun v G' ps' H' _ _ r => Rep.boolI r⟩
end DL
namespace DL
open PySem PySem.Spec PyProof.Rows L2
theorem RepKs.repD {K : PySem.W.Frag} {G : Hp} {ps : List Addr} : ∀ {us : List (Key × V)} {kvs : List (Key × PyData)}, RepKs K G ps us (svK kvs) → RepD K G us (kvs.map fun kv => (kD kv.1, kv.2))
  | us, [], h => by cases h; exact .nil
  | us, (k, d) :: r, h => by
    cases h with
    | cons h1 h2 =>
      rename_i u us'
      obtain ⟨k', v⟩ := u
      obtain ⟨e, h1⟩ := h1
      have e : k' = k := e
      subst e
      exact RepD.cons (show Rep K G v d from h1) (RepKs.repD h2)
section
variable {K : PySem.W.Frag} {G G' : Hp} {ps ps' : List Addr} {H H' : Hp} {B : Bs} {cs cs' : Cs}
theorem Core.newDct (C : Core K B G ps cs H) {us : List (Key × V)} {kvs : List (Key × PyData)} (r : RepKs K G ps us (svK kvs)) {Q : VK} (q : ∀ v G' ps' H', Core K B G' ps' cs H' → Up G ps G' ps' → RepV K G' ps' v (.val (dD kvs)) → Q v H') : ∀ p, H p = none → Q (.ref p) (upd H p (.dK us)) := fun p hp =>
  q _ _ ps _ (C.alloc (.dK us) hp) ⟨Same.new (C.freeG hp), List.prefix_refl _⟩ (Rep.dct upd_same (RepD.mono (Same.new (C.freeG hp)) (RepKs.repD r)))
end
section
variable {X : Cx} {na : NA} {sl sl' : Sl} {cs cs1 cs2 cs3 : Cs} {s t u : SV} {pos p : Pos} {x : Str} {E : DEnds} {N : List Str} {a b : Expr}
/-- {} that nothing writes at -/
theorem ev_dict0V : EV X na (.Dict [] [] pos) sl cs (.val (dD [])) cs :=
  ev_of pe_dnewK fun B G ps σ H hn C S Q q => C.newDct (kvs := []) .nil q
/-- dict(d), a copy that nothing writes at -/
theorem ev_dictDV {kvs : List (Key × PyData)} (hm : X.mg "dict" = none) (hg : Gl X "dict") (ha : EV X na a sl cs s cs1) (hl : IsD cs1 s (svK kvs)) (hs : starEach [a] X.env = (false, eval a X.env) :: starEach [] X.env := by rfl) : EV X na (.Call (.Name "dict" p) [a] [] pos) sl cs (.val (dD kvs)) cs1 :=
  ev_callTy call_dictD (by decide +kernel) hg hm (av_cons ha av_nil hs) (rc1 fun B G ps H v hn C r1 Q q => by
    obtain ⟨l, us, rfl, h1, h2⟩ := hl.at C r1
    exact ⟨l, us, rfl, .inl h1, C.newDct h2 q⟩) (by decide) (by decide) hs
/-- .. that is written at -/
theorem ev_dictDC {kvs : List (Key × PyData)} {n : Nat} (hm : X.mg "dict" = none) (hg : Gl X "dict") (ha : EV X na a sl cs s cs1) (hl : IsD cs1 s (svK kvs)) (ac : AppC cs1 (.dct (svK kvs)) n cs2) (hs : starEach [a] X.env = (false, eval a X.env) :: starEach [] X.env := by rfl) : EV X na (.Call (.Name "dict" p) [a] [] pos) sl cs (.cell n) cs2 :=
  ev_callTy call_dictD (by decide +kernel) hg hm (av_cons ha av_nil hs) (rc1 fun B G ps H v hn C r1 Q q => by
    obtain ⟨l, us, rfl, h1, h2⟩ := hl.at C r1
    exact ⟨l, us, rfl, .inl h1, C.newCell ac (fun p hp => ⟨us, upd_same, RepKs.mono ⟨Same.refl _, List.prefix_append _ _⟩ h2⟩) q⟩) (by decide) (by decide) hs
/-! ### dicts compared, of flat values -/
def flatD : PyData → Bool
  | .int _ => true
  | .str _ => true
  | .bool _ => true
  | .none => true
  | _ => false
theorem Rep.flat1 {K : PySem.W.Frag} {G : Hp} {v w : V} {d : PyData} (h : flatD d = true) (r : Rep K G v d) (r2 : Rep K G w d) : v = w ∧ flatB v = true := by
  cases d <;> first | (cases r; cases r2; exact ⟨rfl, rfl⟩) | (simp [flatD] at h; done)
theorem valV_mem : ∀ {us : List (Key × V)} {k : Key} {v : V}, (us.map (·.1)).Nodup → (k, v) ∈ us → valV us k = some v
  | [], _, _, _, h => nomatch h
  | (j, u) :: r, k, v, hn, h => by
    rw [List.map_cons, List.nodup_cons] at hn
    rcases List.mem_cons.mp h with h1 | h1
    · cases h1
      unfold valV
      rw [List.find?_cons_of_pos (by simp)]
      rfl
    · have hjk : ¬ j = k := fun z => hn.1 (z ▸ List.mem_map.mpr ⟨_, h1, rfl⟩)
      have := valV_mem hn.2 h1
      unfold valV at this ⊢
      rw [List.find?_cons_of_neg (by simpa using hjk)]
      exact this
theorem repKs_same {K : PySem.W.Frag} {G : Hp} {ps : List Addr} : ∀ {us ls : List (Key × V)} {kvs : List (Key × PyData)}, (∀ kv ∈ kvs, flatD kv.2 = true) → RepKs K G ps us (svK kvs) → RepKs K G ps ls (svK kvs) → us = ls ∧ (∀ p ∈ us, flatB p.2 = true) ∧ us.map (·.1) = kvs.map (·.1)
  | us, ls, [], _, h1, h2 => by cases h1; cases h2; exact ⟨rfl, fun _ h => (nomatch h), rfl⟩
  | us, ls, (k, d) :: r, hf, h1, h2 => by
    cases h1 with
    | cons g1 t1 =>
      cases h2 with
      | cons g2 t2 =>
        rename_i u us' l ls'
        obtain ⟨e1, f1⟩ := g1
        obtain ⟨e2, f2⟩ := g2
        obtain ⟨i1, i2, i3⟩ := repKs_same (fun kv h => hf kv (List.mem_cons_of_mem _ h)) t1 t2
        obtain ⟨j1, j2⟩ := Rep.flat1 (hf (k, d) List.mem_cons_self) f1 f2
        obtain ⟨ku, vu⟩ := u
        obtain ⟨kl, vl⟩ := l
        have e1 : ku = k := e1
        have e2 : kl = k := e2
        have j1 : vu = vl := j1
        subst e1 e2 j1 i1
        refine ⟨rfl, fun p h => ?_, ?_⟩
        · rcases List.mem_cons.mp h with h | h
          · rw [h]; exact j2
          · exact i2 p h
        · rw [List.map_cons, List.map_cons, i3]
theorem rv_eqDF {K : PySem.W.Frag} {kvs : List (Key × PyData)} (hd : IsD cs s (svK kvs)) (he : IsD cs t (svK kvs)) (hf : ∀ kv ∈ kvs, flatD kv.2 = true) (nd : (kvs.map (·.1)).Nodup) : RV K na rEqDA s t cs (.val (.bool true)) cs := fun B G ps H v w hn C r1 r2 Q q => by
  obtain ⟨a, us, rfl, h1, h2⟩ := hd.at C r1
  obtain ⟨b, ls, rfl, h3, h4⟩ := he.at C r2
  obtain ⟨rfl, h5, h6⟩ := repKs_same hf h2 h4
  exact ⟨a, b, us, us, rfl, rfl, h1, h3, rfl, fun p hp => ⟨valV_mem (by rw [h6]; exact nd) hp, h5 p hp⟩, q _ G ps H C (Up.refl _ _) (Rep.bl _)⟩
theorem rv_neDF {K : PySem.W.Frag} {kvs : List (Key × PyData)} (hd : IsD cs s (svK kvs)) (he : IsD cs t (svK kvs)) (hf : ∀ kv ∈ kvs, flatD kv.2 = true) (nd : (kvs.map (·.1)).Nodup) : RV K na rNeDA s t cs (.val (.bool false)) cs := fun B G ps H v w hn C r1 r2 Q q => by
  obtain ⟨a, us, rfl, h1, h2⟩ := hd.at C r1
  obtain ⟨b, ls, rfl, h3, h4⟩ := he.at C r2
  obtain ⟨rfl, h5, h6⟩ := repKs_same hf h2 h4
  exact ⟨a, b, us, us, rfl, rfl, h1, h3, rfl, fun p hp => ⟨valV_mem (by rw [h6]; exact nd) hp, h5 p hp⟩, q _ G ps H C (Up.refl _ _) (Rep.bl _)⟩
theorem tv_eqDF {kvs : List (Key × PyData)} {k : Nat} (hr : Room k X.A) (ha : EV X na a sl cs s cs1) (hb : EV X na b sl cs1 t cs2) (hd : IsD cs2 s (svK kvs)) (he : IsD cs2 t (svK kvs)) (hf : ∀ kv ∈ kvs, flatD kv.2 = true) (nd : (kvs.map (·.1)).Nodup) : TV X na (.Compare a [.Eq] [b] pos) sl cs true cs2 :=
  tv_cmp (op_eq_dictA (by have := hr.un; omega)) (nomark _) ha hb (rv_eqDF hd he hf nd)
theorem ev_eqDF {kvs : List (Key × PyData)} {k : Nat} (hr : Room k X.A) (ha : EV X na a sl cs s cs1) (hb : EV X na b sl cs1 t cs2) (hd : IsD cs2 s (svK kvs)) (he : IsD cs2 t (svK kvs)) (hf : ∀ kv ∈ kvs, flatD kv.2 = true) (nd : (kvs.map (·.1)).Nodup) : EV X na (.Compare a [.Eq] [b] pos) sl cs (.val (.bool true)) cs2 :=
  ev_cmp (op_eq_dictA (by have := hr.un; omega)) (nomark _) ha hb (rv_eqDF hd he hf nd)
theorem tv_neDF {kvs : List (Key × PyData)} {k : Nat} (hr : Room k X.A) (ha : EV X na a sl cs s cs1) (hb : EV X na b sl cs1 t cs2) (hd : IsD cs2 s (svK kvs)) (he : IsD cs2 t (svK kvs)) (hf : ∀ kv ∈ kvs, flatD kv.2 = true) (nd : (kvs.map (·.1)).Nodup) : TV X na (.Compare a [.NotEq] [b] pos) sl cs false cs2 :=
  tv_cmp (op_ne_dictA (by have := hr.un; omega)) (nomark _) ha hb (rv_neDF hd he hf nd)
end
end DL
namespace DL
open PySem PySem.Spec PyProof.Rows L2
section
variable {X : Cx} {na : NA} {sl sl' : Sl} {cs cs1 cs2 cs3 : Cs} {s t u : SV} {pos p : Pos} {x : Str} {R : Sl → Cs → Prop}
/-- (a, b, ..) = a list -/
theorem gx_lst {es : List Expr} {k : Nat} {xs : List SV} {n : Nat} (hc : X.calm = true) (hl : IsL cs s xs) (h : GXs X na es xs sl cs R) (hn2 : xs.length = n)
    (hn : (assignEach es X.env).length = n := by rfl) (hst : (assignEach es X.env).findIdx? (·.1) = none := by rfl) : GX X na (.Tuple es k pos) s sl cs R :=
  gx_of (pg_lst hc pgs_any hn hst) fun B G ps σ H v hn C S r Q q => by
    obtain ⟨a, vs, rfl, h1, h2⟩ := hl.sq C r
    exact ⟨a, vs, rfl, h1, (Paired.length h2).trans hn2, h B G ps σ H _ hn C S h2 Q q⟩
end
theorem rev_ind {α : Type} {p : List α → Prop} (l : List α) (h0 : p []) (hs : ∀ l x, p l → p (l ++ [x])) : p l := by
  have : ∀ l : List α, p l.reverse := fun l => by
    induction l with
    | nil => exact h0
    | cons x r ih => rw [List.reverse_cons]; exact hs _ _ ih
  have h2 := this l.reverse
  rwa [List.reverse_reverse] at h2
/-! ### dicts with texts as keys -/
def lkS {α : Type} : List (Str × α) → Str → Option α
  | [], _ => none
  | (j, v) :: r, k => if j = k then some v else lkS r k
def putSt {α : Type} : List (Str × α) → Str → α → List (Str × α)
  | [], k, v => [(k, v)]
  | (j, u) :: r, k, v => if j = k then (j, v) :: r else (j, u) :: putSt r k v
def kvT {α : Type} (f : α → PyData) (ps : List (Str × α)) : List (Key × PyData) := ps.map fun p => (Sum.inr p.1, f p.2)
section
variable {α : Type} {f : α → PyData}
theorem putS_T (k : Str) (v : α) : ∀ ps : List (Str × α), putS (svK (kvT f ps)) (.inr k) (.val (f v)) = svK (kvT f (putSt ps k v))
  | [] => rfl
  | (j, u) :: r => by
    show (if (Sum.inr j : Key) = .inr k then _ else _) = svK (kvT f (if j = k then (j, v) :: r else (j, u) :: putSt r k v))
    by_cases h : j = k
    · rw [if_pos h, if_pos (by rw [h])]
      rfl
    · rw [if_neg h, if_neg (fun z => h (by cases z; rfl))]
      show (_ :: putS (svK (kvT f r)) (.inr k) (.val (f v))) = _
      rw [putS_T k v r]
      rfl
theorem lk_T (k : Str) : ∀ ps : List (Str × α), lkK (svK (kvT f ps)) (.inr k) = (lkS ps k).map fun a => .val (f a)
  | [] => rfl
  | (j, u) :: r => by
    show (if (Sum.inr j : Key) = .inr k then _ else lkK (svK (kvT f r)) (.inr k)) = (if j = k then some u else lkS r k).map fun a => .val (f a)
    by_cases h : j = k
    · rw [if_pos h, if_pos (by rw [h])]
      rfl
    · rw [if_neg h, if_neg (fun z => h (by cases z; rfl)), lk_T k r]
theorem putSt_len (k : Str) (v : α) : ∀ ps : List (Str × α), (putSt ps k v).length ≤ ps.length + 1
  | [] => Nat.le_refl _
  | (j, u) :: r => by
    show (if j = k then (j, v) :: r else (j, u) :: putSt r k v).length ≤ r.length + 1 + 1
    have := putSt_len k v r
    split
    · rw [List.length_cons]; omega
    · rw [List.length_cons]; omega
theorem putSt_fst (k : Str) (v : α) : ∀ ps : List (Str × α), ∀ i ∈ (putSt ps k v).map (·.1), i = k ∨ i ∈ ps.map (·.1)
  | [], i, h => by
    have : i ∈ [k] := h
    rw [List.mem_singleton] at this
    exact .inl this
  | (j, u) :: r, i, h => by
    have h : i ∈ (if j = k then (j, v) :: r else (j, u) :: putSt r k v).map (·.1) := h
    split at h
    · exact .inr h
    · rw [List.map_cons, List.mem_cons] at h
      rw [List.map_cons, List.mem_cons]
      rcases h with h | h
      · exact .inr (.inl h)
      · exact (putSt_fst k v r i h).imp id .inr
theorem putSt_nd (k : Str) (v : α) : ∀ ps : List (Str × α), (ps.map (·.1)).Nodup → ((putSt ps k v).map (·.1)).Nodup
  | [], _ => by show [k].Nodup; simp
  | (j, u) :: r, h => by
    show ((if j = k then (j, v) :: r else (j, u) :: putSt r k v).map (·.1)).Nodup
    rw [List.map_cons, List.nodup_cons] at h
    split
    · rw [List.map_cons, List.nodup_cons]; exact h
    · rename_i hj
      rw [List.map_cons, List.nodup_cons]
      refine ⟨fun z => ?_, putSt_nd k v r h.2⟩
      rcases putSt_fst k v r _ z with z | z
      · exact hj z
      · exact h.1 z
theorem kvT_len (ps : List (Str × α)) : (svK (kvT f ps)).length = ps.length := by unfold svK kvT; rw [List.length_map, List.length_map]
theorem kvT_nd {ps : List (Str × α)} (h : (ps.map (·.1)).Nodup) : ((kvT f ps).map (·.1)).Nodup := by
  have e : (kvT f ps).map (·.1) = (ps.map (·.1)).map Sum.inr := by
    unfold kvT
    rw [List.map_map, List.map_map]
    rfl
  rw [e]
  exact List.Pairwise.map _ (fun a b hab z => hab (by cases z; rfl)) h
theorem svT_nd {ps : List (Str × α)} (h : (ps.map (·.1)).Nodup) : ((svK (kvT f ps)).map (·.1)).Nodup := by
  have e : (svK (kvT f ps)).map (·.1) = (kvT f ps).map (·.1) := by
    unfold svK
    rw [List.map_map]
    rfl
  rw [e]
  exact kvT_nd h
end
theorem flat_svK (kvs : List (Key × PyData)) : (CC.dct (svK kvs)).flat = true := by
  show (svK kvs).all _ = true
  rw [List.all_eq_true]
  intro s h
  obtain ⟨d, _, rfl⟩ := List.mem_map.mp h
  rfl
theorem data_svK (kvs : List (Key × PyData)) : (CC.dct (svK kvs)).data = some (dD kvs) := by
  show (kvData (kvs.map fun kv => (kv.1, SV.val kv.2))).map _ = _
  rw [kvData_map]
  rfl
theorem lt_svK (n : Nat) (kvs : List (Key × PyData)) : (CC.dct (svK kvs)).lt n = true := by
  simp [CC.lt, SV.lt, svK]
theorem lt_map (n : Nat) (ds : List PyData) : (CC.lst (ds.map SV.val)).lt n = true := by
  simp [CC.lt, SV.lt]
/-- an item of a written list by a place that is not written -/
theorem at_pk {α β : Type} {xs : List α} {f : α → β} {d : α} {i n : Int} (h : 0 ≤ i ∧ i < n) (hn : (xs.length : Int) = n) : atI (xs.map f) i = some (f (xs.getD i.toNat d)) := at_map h.1 (by omega)
end DL
namespace DL
open PySem PySem.Spec PyProof.Rows L2
section
variable {X : Cx} {na : NA} {sl sl' : Sl} {cs cs1 cs2 cs3 : Cs} {s t u : SV} {pos p : Pos} {x : Str} {R : Sl → Cs → Prop} {tg : Expr}
/-- the numbers from m up to n -/
def upTo (m n : Nat) : List Nat := (List.range (n - m)).map (m + ·)
theorem mem_upTo {m n k : Nat} (h : k ∈ upTo m n) : m ≤ k ∧ k < n := by
  obtain ⟨j, hj, rfl⟩ := List.mem_map.mp h
  rw [List.mem_range] at hj
  omega
theorem iv_upTo {a b : Expr} {p : Pos} {mi ni : Int} {m n : Nat} (hm : X.mg "range" = none) (hg : Gl X "range") (h : EV X na a sl cs (.val (.int mi)) cs1) (h' : EV X na b sl cs1 (.val (.int ni)) cs2) (em : mi = (m : Int)) (en : ni = (n : Int)) (hz : m < 1000000 ∧ n < 1000000)
    (hs : starEach [a, b] X.env = [(false, eval a X.env), (false, eval b X.env)] := by rfl) (hs2 : starEach [b] X.env = [(false, eval b X.env)] := by rfl) :
    IV X na tg (.Call (.Name "range" p) [a, b] [] pos) sl cs ((upTo m n).map fun k : Nat => SV.val (.int k)) (fun _ => True) cs2 := by
  subst em en
  have e : (upTo m n).map (fun k : Nat => SV.val (.int k)) = (List.range ((n : Int) - (m : Int)).toNat).map fun i => SV.val (.int ((m : Int) + (i : Nat))) := by
    unfold upTo
    rw [List.map_map, show ((n : Int) - (m : Int)).toNat = n - m by omega]
    exact List.map_congr_left fun i _ => by simp
  rw [e]
  exact iv_range2 hm hg h h' (by omega) hs hs2
theorem iv_upTo0 {a : Expr} {p : Pos} {ni : Int} {n : Nat} (hm : X.mg "range" = none) (hg : Gl X "range") (h : EV X na a sl cs (.val (.int ni)) cs1) (en : ni = (n : Int)) (hz : n < 1000000) (hs : starEach [a] X.env = [(false, eval a X.env)] := by rfl) :
    IV X na tg (.Call (.Name "range" p) [a] [] pos) sl cs ((List.range n).map fun k : Nat => SV.val (.int k)) (fun _ => True) cs1 := by
  subst en
  exact iv_range1 hm hg h (by omega) (by omega) hs
/-! ### and, or, where the first is known: what is made behind it stays -/
theorem wv_or0 {a b : Expr} {rest : List Expr} {l : Bool} (ha : TV X na a sl cs false cs1) (hb : WV X na (.BoolOp .Or (b :: rest) pos) sl cs1 l cs2) : WV X na (.BoolOp .Or (a :: b :: rest) pos) sl cs l cs2 := wv_of (pw_or pt_any pw_any) fun B G ps σ H hn C S Q q => ha B G ps σ H hn C S _ fun G1 ps1 H1 C1 u1 =>
  hb B G1 ps1 σ H1 hn C1 (Slots.mono u1 S) Q fun G2 ps2 H2 C2 u2 => q G2 ps2 H2 C2 (u1.trans u2)
theorem wv_and0 {a b : Expr} {rest : List Expr} {l : Bool} (ha : TV X na a sl cs true cs1) (hb : WV X na (.BoolOp .And (b :: rest) pos) sl cs1 l cs2) : WV X na (.BoolOp .And (a :: b :: rest) pos) sl cs l cs2 := wv_of (pw_and pt_any pw_any) fun B G ps σ H hn C S Q q => ha B G ps σ H hn C S _ fun G1 ps1 H1 C1 u1 =>
  hb B G1 ps1 σ H1 hn C1 (Slots.mono u1 S) Q fun G2 ps2 H2 C2 u2 => q G2 ps2 H2 C2 (u1.trans u2)
theorem ev_or0 {a b : Expr} {rest : List Expr} (ha : EV X na a sl cs (.val (.bool false)) cs1) (hb : EV X na (.BoolOp .Or (b :: rest) pos) sl cs1 s cs2) : EV X na (.BoolOp .Or (a :: b :: rest) pos) sl cs s cs2 :=
  ev_of (pe_or pe_any pe_any) fun B G ps σ H hn C S Q q => ha B G ps σ H hn C S _ fun v G1 ps1 H1 C1 u1 r1 => by
    cases (r1 : Rep _ _ _ _)
    exact ⟨false, rfl, hb B G1 ps1 σ H1 hn C1 (Slots.mono u1 S) Q fun v G2 ps2 H2 C2 u2 => q v G2 ps2 H2 C2 (u1.trans u2)⟩
theorem ev_and0 {a b : Expr} {rest : List Expr} (ha : EV X na a sl cs (.val (.bool true)) cs1) (hb : EV X na (.BoolOp .And (b :: rest) pos) sl cs1 s cs2) : EV X na (.BoolOp .And (a :: b :: rest) pos) sl cs s cs2 :=
  ev_of (pe_and pe_any pe_any) fun B G ps σ H hn C S Q q => ha B G ps σ H hn C S _ fun v G1 ps1 H1 C1 u1 r1 => by
    cases (r1 : Rep _ _ _ _)
    exact ⟨true, rfl, hb B G1 ps1 σ H1 hn C1 (Slots.mono u1 S) Q fun v G2 ps2 H2 C2 u2 => q v G2 ps2 H2 C2 (u1.trans u2)⟩
end
end DL
namespace DL
open PySem PySem.Spec PyProof.Rows L2
/-! ### list + list -/
def rCatL (K : PySem.W.Frag) : R2 := fun x y H Q => ∃ a b xs ys, x = .ref a ∧ y = .ref b ∧ SqL K H a xs ∧ SqL K H b ys ∧ xs.length + ys.length ≤ sizeLine ∧ ∀ p, H p = none → Q (.ref p) (upd H p (.lst (xs ++ ys)))
theorem op_catL {X : Cx} : OpR X (binaryOp .Add) (rCatL X.K) := by
  intro pins s σ H x y v u Q I rx ry h
  obtain ⟨a, b, xs, ys, rfl, rfl, ha, hb, hz, q⟩ := h
  cases rx
  cases ry
  obtain ⟨its, r1, p1, _⟩ := I.list ha
  obtain ⟨its2, r2, p2, _⟩ := I.list hb
  obtain ⟨⟨cls, dd, data, sl⟩, ho, hc, n, hd⟩ := p1.isList
  obtain ⟨⟨cls2, dd2, data2, sl2⟩, ho2, hc2, n2, hd2⟩ := p2.isList
  simp only at hc hd hc2 hd2
  subst hc hd hc2 hd2
  have e : its.toArray ++ its2.toArray = (its ++ its2).toArray := by simp
  have hl : its.toArray.size + its2.toArray.size ≤ sizeLine := by
    rw [List.size_toArray, List.size_toArray, ← r1.length, ← r2.length]
    exact hz
  refine concat_meets ⟨_, ho, rfl⟩ ⟨_, ho2, rfl⟩ noFill_list_add seq_list_add PySem.F.slot_list_add PySem.F.entry_list_add (PySem.F.args_list_add_2 _ _) (list_addW a b its.toArray its2.toArray n n2 dd dd2 sl sl2 hl) ⟨ho, ho2, ?_⟩
  rw [e]
  exact ⟨.ref _, _, I.lnew (t' := s.toks) (r1.append r2) (by rw [List.length_append]; exact hz), rfl, q _ I.fresh⟩
theorem RepVs.app {K : PySem.W.Frag} {G : Hp} {ps : List Addr} {vs ws : List V} {ss ts : List SV} (h : RepVs K G ps vs ss) (h2 : RepVs K G ps ws ts) : RepVs K G ps (vs ++ ws) (ss ++ ts) := by
  induction h with
  | nil => exact h2
  | cons a _ ih => exact .cons a ih
section
variable {X : Cx} {na : NA} {sl sl' : Sl} {cs cs1 cs2 cs3 : Cs} {s t u : SV} {pos p : Pos} {x : Str} {E : DEnds} {N : List Str} {a b : Expr}
/-- as data -/
theorem ev_catL {ds es : List PyData} (ha : EV X na a sl cs s cs1) (hb : EV X na b sl cs1 t cs2) (hl : IsL cs2 s (ds.map SV.val)) (hl2 : IsL cs2 t (es.map SV.val)) (hz : ds.length + es.length ≤ 1000000) : EV X na (.BinOp a .Add b pos) sl cs (.val (.list (ds ++ es))) cs2 :=
  ev_op op_catL ha hb fun B G ps H v w hn C r1 r2 Q q => by
    obtain ⟨p, vs, rfl, h1, h2⟩ := hl.sq C r1
    obtain ⟨p2, ws, rfl, h3, h4⟩ := hl2.sq C r2
    have k1 := Reps.ofVs h2
    have k2 := Reps.ofVs h4
    have k3 : Reps X.K G (vs ++ ws) (ds ++ es) := Reps.ofVs (ps := ps) (by rw [List.map_append]; exact RepVs.app h2 h4)
    exact ⟨p, p2, vs, ws, rfl, rfl, h1, h3, sz (by rw [k1.length, k2.length]; exact hz), C.newLst k3 q⟩
/-- as a cell -/
theorem ev_catC {xs ys : List SV} {n : Nat} (ha : EV X na a sl cs s cs1) (hb : EV X na b sl cs1 t cs2) (hl : IsL cs2 s xs) (hl2 : IsL cs2 t ys) (hz : xs.length + ys.length ≤ 1000000) (ac : AppC cs2 (.lst (xs ++ ys)) n cs3) : EV X na (.BinOp a .Add b pos) sl cs (.cell n) cs3 :=
  ev_op op_catL ha hb fun B G ps H v w hn C r1 r2 Q q => by
    obtain ⟨p, vs, rfl, h1, h2⟩ := hl.sq C r1
    obtain ⟨p2, ws, rfl, h3, h4⟩ := hl2.sq C r2
    exact ⟨p, p2, vs, ws, rfl, rfl, h1, h3, sz (by rw [Paired.length h2, Paired.length h4]; exact hz), C.newCell ac (fun p hp => ⟨_, upd_same, RepVs.mono ⟨Same.refl _, List.prefix_append _ _⟩ (RepVs.app h2 h4)⟩) q⟩
/-- sorted(a list of ints), of any length -/
theorem ev_sortedI {ns : List Int} (hm : X.mg "sorted" = none) (hg : Gl X "sorted") (ha : EV X na a sl cs s cs1) (hl : IsL cs1 s ((ns.map PyData.int).map SV.val)) (hs : starEach [a] X.env = (false, eval a X.env) :: starEach [] X.env := by rfl) : EV X na (.Call (.Name "sorted" p) [a] [] pos) sl cs (.val (.list ((sortI ns).map .int))) cs1 :=
  ev_callB cr_sortedI (by decide +kernel) hg hm (av_cons ha av_nil hs) (rc1 fun B G ps' H v hn C r1 Q q => by
    obtain ⟨l, vs, rfl, h1, h2⟩ := hl.sq C r1
    have k := Reps.ints (Reps.ofVs h2)
    subst k
    refine ⟨l, ns, rfl, h1, fun ns' p hp hs' hn' => ?_⟩
    rw [sortI_uniq hp hs']
    exact C.newLst (Reps.ofInts _) q p hn') (by decide) (by decide) hs
end
/-! ### {k: v, ..} -/
def trsOf (X : Cx) : List (Option Expr) → List Expr → List (TE × TE)
  | some k :: ks, v :: vs => (anyE X k, anyE X v) :: trsOf X ks vs
  | _, _ => []
inductive APs (X : Cx) (na : NA) (sl : Sl) : List (Option Expr) → List Expr → Cs → List (Key × SV) → Cs → Prop
  | nil {cs : Cs} : APs X na sl [] [] cs [] cs
  | cons {k v : Expr} {ks : List (Option Expr)} {vs : List Expr} {cs cs1 cs2 cs3 : Cs} {kd : PyData} {key : Key} {s : SV} {kvs : List (Key × SV)} : EV X na k sl cs (.val kd) cs1 → KeyOf kd key → EV X na v sl cs1 s cs2 → APs X na sl ks vs cs2 kvs cs3 → APs X na sl (some k :: ks) (v :: vs) cs ((key, s) :: kvs) cs3
section
variable {X : Cx} {na : NA} {sl sl' : Sl} {cs cs0 cs1 cs2 cs3 : Cs} {pos : Pos} {ks : List (Option Expr)} {vs : List Expr} {kvs : List (Key × SV)}
theorem APs.pps (h : APs X na sl ks vs cs kvs cs1) : PPs X pos ks vs (trsOf X ks vs) := by
  induction h with
  | nil => exact pps_nil
  | cons _ _ _ _ ih => exact pps_cons pe_any pe_any ih
theorem APs.len (h : APs X na sl ks vs cs kvs cs1) : ks.length = vs.length ∧ ks.all (·.isSome) = true ∧ kvs.length = ks.length := by
  induction h with
  | nil => exact ⟨rfl, rfl, rfl⟩
  | cons _ _ _ _ ih => exact ⟨by rw [List.length_cons, List.length_cons, ih.1], by rw [List.all_cons, ih.2.1]; rfl, by rw [List.length_cons, List.length_cons, ih.2.2]⟩
theorem APs.go (h : APs X na sl ks vs cs kvs cs1) : ∀ (B : Bs) (G : Hp) (ps : List Addr) (σ : L2.St) (H : Hp), na.ok B → Core X.K B G ps cs H → Slots X.K G ps σ sl → ∀ Q : List (V × V) → Hp → Prop,
    (∀ us G' ps' H', Core X.K B G' ps' cs1 H' → Up G ps G' ps' → RepKs X.K G' ps' us kvs → Q (us.map fun kv => (kV kv.1, kv.2)) H') → tPairs (trsOf X ks vs) σ H Q := by
  induction h with
  | nil => exact fun B G ps σ H hn C S Q q => q [] G ps H C (Up.refl _ _) .nil
  | cons hk ho hv _ ih =>
    intro B G ps σ H hn C S Q q
    exact hk B G ps σ H hn C S _ fun x G1 ps1 H1 C1 u1 r1 => hv B G1 ps1 σ H1 hn C1 (Slots.mono u1 S) _ fun y G2 ps2 H2 C2 u2 r2 => ih B G2 ps2 σ H2 hn C2 (Slots.mono (u1.trans u2) S) _ fun us G3 ps3 H3 C3 u3 r3 => by
      have := q ((_, y) :: us) G3 ps3 H3 C3 ((u1.trans u2).trans u3) (.cons ⟨rfl, RepV.mono u3 r2⟩ r3)
      have e := ho.v r1
      subst e
      exact this
theorem mergeK_new : ∀ (us acc : List (Key × V)), ((acc ++ us).map (·.1)).Nodup → mergeK acc us = acc ++ us
  | [], acc, _ => by rw [List.append_nil]; rfl
  | (k, v) :: r, acc, h => by
    have hk : ¬ (acc.any fun kv => decide (kv.1 = k)) = true := by
      intro z
      obtain ⟨p, hp, e⟩ := List.any_eq_true.mp z
      rw [List.map_append, List.nodup_append] at h
      exact h.2.2 p.1 (List.mem_map.mpr ⟨p, hp, rfl⟩) k (by simp) (of_decide_eq_true e)
    have e : putK acc k v = acc ++ [(k, v)] := by
      unfold putK
      rw [if_neg hk]
    show mergeK (putK acc k v) r = _
    rw [e, mergeK_new r (acc ++ [(k, v)]) (by rw [List.append_assoc]; exact h), List.append_assoc]
    rfl
theorem RepKs.keys {K : PySem.W.Frag} {G : Hp} {ps : List Addr} : ∀ {us : List (Key × V)} {kvs : List (Key × SV)}, RepKs K G ps us kvs → us.map (·.1) = kvs.map (·.1)
  | _, _, .nil => rfl
  | _, _, .cons h t => by
    rw [List.map_cons, List.map_cons, RepKs.keys t, h.1]
theorem ev_dlC {n : Nat} (ac : AppC cs (.dct []) n cs0) (h : APs X na sl ks vs cs0 kvs cs1) (hc : cs1[n]? = some (.dct [])) (pc : PutC cs1 n (.dct kvs) cs2) (nd : (kvs.map (·.1)).Nodup) (h0 : ks ≠ []) (h15 : Nat.ble ks.length 15 = true) : EV X na (.Dict ks vs pos) sl cs (.cell n) cs2 :=
  ev_of (pe_disp h.pps h.len.2.1 h.len.1 h0 (Nat.le_of_ble_eq_true h15)) fun B G ps σ H hn C S Q q => by
    intro p hp
    obtain ⟨rfl, rfl⟩ := ac.at
    have C0 := C.cellNew (o := .dK []) (c := .dct []) hp ⟨[], upd_same, .nil⟩
    have u0 : Up G ps G (ps ++ [p]) := ⟨Same.refl _, List.prefix_append _ _⟩
    have e0 : (ps ++ [p])[cs.length]? = some p := by rw [← C.len]; exact pre_snoc_get ps p
    refine h.go B G (ps ++ [p]) σ _ hn C0 (Slots.mono u0 S) _ fun us G1 ps1 H1 C1 u1 r1 => ?_
    have e1 := pre_get u1.p e0
    obtain ⟨us0, k1, k2⟩ := (C1.cell _ p _ e1 hc).1
    cases k2
    have hl : us.length ≤ 15 := by
      have h1 : us.length = kvs.length := by have := congrArg List.length (RepKs.keys r1); rwa [List.length_map, List.length_map] at this
      have h2 := h.len.2.2
      have h3 := Nat.le_of_ble_eq_true h15
      omega
    refine ⟨k1, us, rfl, hl, ?_⟩
    rw [mergeK_new us [] (by rw [List.nil_append, RepKs.keys r1]; exact nd), List.nil_append]
    rw [pc.at] at q
    exact q (.ref p) G1 ps1 _ (C1.put (c' := .dct kvs) e1 hc (by intro z; cases z) ⟨us, upd_same, r1⟩) (u0.trans u1) ⟨p, e1, rfl⟩
/-- a display that nothing writes at -/
theorem ev_dlV {n : Nat} {kds : List (Key × PyData)} (hA : cs.length ≤ cs.length) (ac : AppC cs (.dct []) n cs0) (h : APs X na sl ks vs cs0 kvs cs1) (hc : cs1[n]? = some (.dct [])) (e : kvs = svK kds) (pc : PutC cs1 n .dead cs2) (nd : (kvs.map (·.1)).Nodup) (h0 : ks ≠ []) (h15 : Nat.ble ks.length 15 = true) : EV X na (.Dict ks vs pos) sl cs (.val (dD kds)) cs2 := by
  subst e
  have hlen : n < cs1.length := (List.getElem?_eq_some_iff.mp hc).1
  have h1 : EV X na (.Dict ks vs pos) sl cs (.cell n) (cs1.set n (.dct (svK kds))) := by
    refine ev_dlC ac h hc ?_ nd h0 h15
    have gen : ∀ (cs : Cs) (n : Nat) (c : CC), n < cs.length → PutC cs n c (cs.set n c) := by
      intro cs
      induction cs with
      | nil => intro n c h; cases h
      | cons a r ih =>
        intro n c h
        cases n with
        | zero => exact .here
        | succ n => exact .there (ih n c (Nat.lt_of_succ_lt_succ h))
    exact gen cs1 n _ hlen
  have hn0 := ac.at.1
  rw [pc.at]
  intro B G ps σ H hn C S Q q
  refine h1 B G ps σ H hn C S Q fun v G1 ps1 H1 C1 u1 r1 => ?_
  have hget : (cs1.set n (.dct (svK kds)))[n]? = some (.dct (svK kds)) := by rw [List.getElem?_set_self hlen]
  obtain ⟨p, rfl, ep, us, k1, k2⟩ := C1.cellAt r1 hget
  have hG : G1 p = none := (C1.cell n p _ ep hget).2.2.elim (fun z => by cases z) id
  have C2 := C1.freeze (by have hle := C.pre.length_le; rw [C.len] at hle; omega) ep hget (by intro z; cases z) k1
  rw [List.set_set] at C2
  exact q (.ref p) _ ps1 H1 C2 ⟨u1.s.trans (Same.new hG), u1.p⟩ (Rep.dct upd_same (RepD.mono (Same.new hG) (RepKs.repD k2)))
end
end DL
namespace DL
open PySem PySem.Spec PyProof.Rows L2
/-! ### dicts compared, of any values -/
def rEqDD (K : PySem.W.Frag) (r : Bool) : R2 := fun x y H Q => ∃ a b ks ls, x = .ref a ∧ y = .ref b ∧ H a = some (.dK ks) ∧ H b = some (.dK ls) ∧ ks.length = ls.length ∧ (∀ p ∈ ks, ∃ y d, valV ls p.1 = some y ∧ Dp K H p.2 d ∧ Dp K H y d ∧ SeqAt.shaped d = true ∧ PyData.eqv d d = true) ∧ Q (.bl r) H
theorem hits_deep {X : Cx} {pins : List (Addr × Obj)} {σ : L2.St} {H : Hp} {s : Shared} (I : Inv X pins σ H s) {A : Around} (hu : A.in1.units + 64 < cLine) {ls : List (Key × V)} {vb : List (Key × Value)} (rb : KV ls vb) {ks : List (Key × V)} {va : List (Key × Value)} (ra : KV ks va) :
    (∀ p ∈ ks, ∃ y d, valV ls p.1 = some y ∧ Dp X.K H p.2 d ∧ Dp X.K H y d ∧ SeqAt.shaped d = true ∧ PyData.eqv d d = true) → PySem.W.KeqHits A.in1 s vb va true := by
  unfold KV at ra
  induction ra with
  | nil => intro _; exact .nil
  | @cons p q ps qs h t ih =>
    intro hp
    obtain ⟨h1, h2⟩ := h
    obtain ⟨y, d, e, d1, d2, sd, ed⟩ := hp p List.mem_cons_self
    have rr : RelO (some y) (valueAt vb p.1) := by rw [← e]; exact rb.val p.1
    obtain ⟨z, hz, rz⟩ := rr.some_of
    obtain ⟨k, v⟩ := q
    have h1' : p.1 = k := h1
    rw [h1'] at hz
    obtain ⟨as, r1⟩ := Dp.reads I d _ v d1 h2
    obtain ⟨bs, r2⟩ := Dp.reads I d _ z d2 rz
    have := PySem.W.keq_at (A := A) r1 r2 sd sd hu
    rw [ed] at this
    show PySem.W.KeqHits A.in1 s vb ((k, v) :: qs) (true && true)
    exact .hit hz this (ih fun p' hm => hp p' (List.mem_cons_of_mem _ hm))
theorem op_eqDD {X : Cx} (hu : X.A.units < cLine) (hu2 : X.A.in1.units + 64 < cLine) : OpR X (compareOp .Eq) (rEqDD X.K true) := by
  intro pins s σ H x y v u Q I rx ry h
  obtain ⟨a, b, ks, ls, rfl, rfl, ea, eb, hlen, hp, q⟩ := h
  obtain rfl : v = Value.ref a := rx
  obtain rfl : u = Value.ref b := ry
  obtain ⟨_, ya, va, ra, da⟩ := (show ObjOk X.prog X.w H s.heap a (.dK ks) from I.hok a _ ea)
  obtain ⟨_, yb, vb, rb, db⟩ := (show ObjOk X.prog X.w H s.heap b (.dK ls) from I.hok b _ eb)
  have hl : va.length = vb.length := by rw [← ra.length, ← rb.length]; exact hlen
  exact PySem.W.keq_eq (knd := mixKind X.prog X.w) (r := true) ya yb da db hu (fun _ => hits_deep I hu2 rb ra hp) (fin_bl I q (by simp [hl]))
theorem op_neDD {X : Cx} (hu : X.A.units < cLine) (hu2 : X.A.in1.units + 64 < cLine) : OpR X (compareOp .NotEq) (rEqDD X.K false) := by
  intro pins s σ H x y v u Q I rx ry h
  obtain ⟨a, b, ks, ls, rfl, rfl, ea, eb, hlen, hp, q⟩ := h
  obtain rfl : v = Value.ref a := rx
  obtain rfl : u = Value.ref b := ry
  obtain ⟨_, ya, va, ra, da⟩ := (show ObjOk X.prog X.w H s.heap a (.dK ks) from I.hok a _ ea)
  obtain ⟨_, yb, vb, rb, db⟩ := (show ObjOk X.prog X.w H s.heap b (.dK ls) from I.hok b _ eb)
  have hl : va.length = vb.length := by rw [← ra.length, ← rb.length]; exact hlen
  exact PySem.W.keq_ne (knd := mixKind X.prog X.w) (r := true) ya yb da db hu (fun _ => hits_deep I hu2 rb ra hp) (fin_bl I q (by simp [hl]))
theorem repKs_deep {K : PySem.W.Frag} {G H : Hp} {ps : List Addr} (g : Same G H) : ∀ {us ls : List (Key × V)} {kvs : List (Key × PyData)}, (∀ kv ∈ kvs, SeqAt.shaped kv.2 = true ∧ PyData.eqv kv.2 kv.2 = true) → RepKs K G ps us (svK kvs) → RepKs K G ps ls (svK kvs) → us.length = ls.length ∧ us.map (·.1) = kvs.map (·.1) ∧ ls.map (·.1) = kvs.map (·.1) ∧ ∀ p ∈ us, ∃ y d, (p.1, y) ∈ ls ∧ Dp K H p.2 d ∧ Dp K H y d ∧ SeqAt.shaped d = true ∧ PyData.eqv d d = true
  | us, ls, [], _, h1, h2 => by cases h1; cases h2; exact ⟨rfl, rfl, rfl, fun _ h => (nomatch h)⟩
  | us, ls, (k, d) :: r, hf, h1, h2 => by
    cases h1 with
    | cons g1 t1 =>
      cases h2 with
      | cons g2 t2 =>
        rename_i u us' l ls'
        obtain ⟨e1, f1⟩ := g1
        obtain ⟨e2, f2⟩ := g2
        obtain ⟨i1, i2, i3, i4⟩ := repKs_deep g (fun kv h => hf kv (List.mem_cons_of_mem _ h)) t1 t2
        obtain ⟨s1, s2⟩ := hf (k, d) List.mem_cons_self
        have e1 : u.1 = k := e1
        have e2 : l.1 = k := e2
        refine ⟨by rw [List.length_cons, List.length_cons, i1], by rw [List.map_cons, List.map_cons, i2, e1], by rw [List.map_cons, List.map_cons, i3, e2], fun p h => ?_⟩
        rcases List.mem_cons.mp h with h | h
        · subst h
          refine ⟨l.2, d, ?_, Rep.dp g f1 (SeqAt.canLay_of_shaped s1), Rep.dp g f2 (SeqAt.canLay_of_shaped s1), s1, s2⟩
          have : (p.1, l.2) = l := Prod.ext (by rw [e1, e2]) rfl
          rw [this]
          exact List.mem_cons_self
        · obtain ⟨y, d', j1, j2⟩ := i4 p h
          exact ⟨y, d', List.mem_cons_of_mem _ j1, j2⟩
section
variable {X : Cx} {na : NA} {sl sl' : Sl} {cs cs1 cs2 cs3 : Cs} {s t u : SV} {pos p : Pos} {x : Str} {E : DEnds} {N : List Str} {a b : Expr}
theorem rv_eqDD {K : PySem.W.Frag} {r : Bool} {kvs : List (Key × PyData)} (hd : IsD cs s (svK kvs)) (he : IsD cs t (svK kvs)) (hf : ∀ kv ∈ kvs, SeqAt.shaped kv.2 = true ∧ PyData.eqv kv.2 kv.2 = true) (nd : (kvs.map (·.1)).Nodup) : RV K na (rEqDD K r) s t cs (.val (.bool r)) cs := fun B G ps H v w hn C r1 r2 Q q => by
  obtain ⟨a, us, rfl, h1, h2⟩ := hd.at C r1
  obtain ⟨b, ls, rfl, h3, h4⟩ := he.at C r2
  obtain ⟨h5, h6, h7, h8⟩ := repKs_deep C.gh hf h2 h4
  refine ⟨a, b, us, ls, rfl, rfl, h1, h3, h5, fun p hp => ?_, q _ G ps H C (Up.refl _ _) (Rep.bl _)⟩
  obtain ⟨y, d, k1, k2⟩ := h8 p hp
  exact ⟨y, d, valV_mem (by rw [h7]; exact nd) k1, k2⟩
theorem room_in1 {A : Around} {k : Nat} (hr : Room k A) : A.in1.units + 64 < cLine := by
  have := hr.un
  show A.units + 1 + 64 < _
  omega
theorem tv_eqDD {kvs : List (Key × PyData)} {k : Nat} (hr : Room k X.A) (ha : EV X na a sl cs s cs1) (hb : EV X na b sl cs1 t cs2) (hd : IsD cs2 s (svK kvs)) (he : IsD cs2 t (svK kvs)) (hf : ∀ kv ∈ kvs, SeqAt.shaped kv.2 = true ∧ PyData.eqv kv.2 kv.2 = true) (nd : (kvs.map (·.1)).Nodup) : TV X na (.Compare a [.Eq] [b] pos) sl cs true cs2 :=
  tv_cmp (op_eqDD (by have := hr.un; omega) (room_in1 hr)) (nomark _) ha hb (rv_eqDD hd he hf nd)
theorem ev_eqDD {kvs : List (Key × PyData)} {k : Nat} (hr : Room k X.A) (ha : EV X na a sl cs s cs1) (hb : EV X na b sl cs1 t cs2) (hd : IsD cs2 s (svK kvs)) (he : IsD cs2 t (svK kvs)) (hf : ∀ kv ∈ kvs, SeqAt.shaped kv.2 = true ∧ PyData.eqv kv.2 kv.2 = true) (nd : (kvs.map (·.1)).Nodup) : EV X na (.Compare a [.Eq] [b] pos) sl cs (.val (.bool true)) cs2 :=
  ev_cmp (op_eqDD (by have := hr.un; omega) (room_in1 hr)) (nomark _) ha hb (rv_eqDD hd he hf nd)
theorem tv_neDD {kvs : List (Key × PyData)} {k : Nat} (hr : Room k X.A) (ha : EV X na a sl cs s cs1) (hb : EV X na b sl cs1 t cs2) (hd : IsD cs2 s (svK kvs)) (he : IsD cs2 t (svK kvs)) (hf : ∀ kv ∈ kvs, SeqAt.shaped kv.2 = true ∧ PyData.eqv kv.2 kv.2 = true) (nd : (kvs.map (·.1)).Nodup) : TV X na (.Compare a [.NotEq] [b] pos) sl cs false cs2 :=
  tv_cmp (op_neDD (by have := hr.un; omega) (room_in1 hr)) (nomark _) ha hb (rv_eqDD hd he hf nd)
/-- for, with what is known of the things gone through -/
theorem s1_forJ {α : Type} {body : List Stmt} {tg iter : Expr} {GC : Cs → Prop} (es : List α) (f : α → SV) (J : List α → Prop) (hJ : J []) (hp : PassesOwn (model X.prog X.w) X.A X.env X.xe) (hc : X.calm = true) (h : IV X na tg iter sl cs (es.map f) GC cs1) (a : List α → Sl) (c : List α → Cs) (h0 : Le (a []) sl) (h1 : c [] = cs1) (hG : ∀ pre post, es = pre ++ post → GC (c pre))
    (hs : ∀ pre e post, es = pre ++ e :: post → J pre → GX X na tg (f e) (a pre) (c pre) fun sl2 cs2 => SX X na body sl2 cs2 { E with nx := fun sl3 cs3 => J (pre ++ [e]) ∧ At cs1.length (a (pre ++ [e])) (c (pre ++ [e])) sl3 cs3, ct := fun sl3 cs3 => J (pre ++ [e]) ∧ At cs1.length (a (pre ++ [e])) (c (pre ++ [e])) sl3 cs3, bk := E.nx })
    (hd : ∀ sl', J es → Le (a es) sl' → E.nx sl' (c es))
    (hf : ∀ x, foldedSetIterable iter X.env x = pure x := by intro _; rfl) : S1 X na (.For tg iter body [] pos) sl cs E := by
  refine s1_for hp hc h (fun i sl' cs' => J (es.take i) ∧ Le (a (es.take i)) sl' ∧ cs' = c (es.take i)) ⟨hJ, h0, h1.symm⟩ (fun i sl' cs' ⟨_, _, e⟩ => e ▸ hG _ (es.drop i) (List.take_append_drop i es).symm) (fun i s sl' cs' hx ⟨hj, l, e⟩ => ?_) (fun sl' cs' ⟨hj, l, e⟩ => ?_) hf
  · subst e
    rw [List.getElem?_map] at hx
    cases he : es[i]? with
    | none => rw [he] at hx; cases hx
    | some e =>
      rw [he] at hx
      cases hx
      have e1 : es.take (i + 1) = es.take i ++ [e] := by rw [List.take_add_one, he]; rfl
      have hi := (List.getElem?_eq_some_iff.mp he).1
      have e2 : es.drop i = e :: es.drop (i + 1) := by
        rw [List.drop_eq_getElem_cons hi, (List.getElem?_eq_some_iff.mp he).2]
      intro B G ps σ H v hn C S r Q q
      refine hs _ e (es.drop (i + 1)) (by rw [← e2, List.take_append_drop]) hj B G ps σ H v hn C (l.slots S) r Q fun sl3 cs3 G3 ps3 σ3 H3 C3 u3 S3 q3 => q sl3 cs3 G3 ps3 σ3 H3 C3 u3 S3 ?_
      intro B4 G4 ps4 σ4 H4 hn4 C4 S4 D4 L4
      exact q3 B4 G4 ps4 σ4 H4 hn4 C4 S4 D4 ⟨fun sl5 cs5 G5 ps5 σ5 H5 C5 u5 S5 q5 => L4.nx sl5 cs5 G5 ps5 σ5 H5 C5 u5 S5 ⟨_, _, ⟨by rw [e1]; exact q5.1, by rw [e1]; exact Le.refl _, by rw [e1]⟩, q5.2⟩, L4.rt, L4.bk, fun sl5 cs5 G5 ps5 σ5 H5 C5 u5 S5 q5 => L4.ct sl5 cs5 G5 ps5 σ5 H5 C5 u5 S5 ⟨_, _, ⟨by rw [e1]; exact q5.1, by rw [e1]; exact Le.refl _, by rw [e1]⟩, q5.2⟩⟩
  · subst e
    rw [List.length_map, List.take_of_length_le (Nat.le_refl _)] at hj l ⊢
    exact hd sl' hj l
/-- x is not y, of truths -/
theorem tv_isnotB {i j : Bool} (ha : EV X na a sl cs (.val (.bool i)) cs1) (hb : EV X na b sl cs1 (.val (.bool j)) cs2) (hm : behindInMarks .IsNot b = false := by rfl) : TV X na (.Compare a [.IsNot] [b] pos) sl cs (!decide (i = j)) cs2 :=
  tv_cmp op_isnot_bl hm ha hb fun B G ps H v w hn C r1 r2 Q q => by
    rw [Rep.boolI r1, Rep.boolI r2]
    exact ⟨i, j, rfl, rfl, q _ G ps H C (Up.refl _ _) (Rep.bl _)⟩
/-- xs[k:] -/
theorem ev_slFrom {ds : List PyData} {k : Nat} (ha : EV X na a sl cs s cs1) (hb : EV X na b sl cs1 (.val (.int (k : Nat))) cs2) (hl : IsL cs2 s (ds.map SV.val)) (p2 : Pos) : EV X na (.Subscript a (.Slice (some b) none none p2) pos) sl cs (.val (.list (ds.drop k))) cs2 :=
  ev_of (pe_slice sl_list pe_any (po_some pe_any) po_none) fun B G ps σ H hn C S Q q => ha B G ps σ H hn C S _ fun v G1 ps1 H1 C1 u1 r1 => hb B G1 ps1 σ H1 hn C1 (Slots.mono u1 S) _ fun w G2 ps2 H2 C2 u2 r2 => by
    obtain ⟨l, vs, rfl, h1, h2⟩ := hl.sq C2 (RepV.mono u2 r1)
    have k1 := Reps.ofVs h2
    have e : cutV vs (some (k : Int)) none = vs.drop k := by
      unfold cutV
      rw [HT.sIx_none, HT.sIx_nat]
      by_cases hk : k ≤ vs.length
      · rw [Nat.min_eq_left hk, List.take_of_length_le (by rw [List.length_drop]; omega)]
      · rw [Nat.min_eq_right (by omega), List.drop_of_length_le (Nat.le_refl _), List.drop_of_length_le (by omega), List.take_nil]
    refine ⟨(k : Int), Rep.intI r2, l, vs, rfl, h1, ?_⟩
    rw [e]
    exact C2.newLst (Reps.drop k k1) fun v G3 ps3 H3 C3 u3 => q v G3 ps3 H3 C3 ((u1.trans u2).trans u3)
end
/-! ### (0, ()) of the module's top -/
theorem glo_blank {K : PySem.W.Frag} {h : Heap} {mg : Str → Option Value} {x : Str} {f g : Addr} {od od2 : Option Addr} {sl sl2 : Array (Option Value)} {n n2 : Nat} {tk : Tok} (X : K.In h) (G : h.Ns mainGlobals mg)
    (a : PySem.W.nsIn K mainGlobals x = some (some (.ref f))) (l : K.lookup f = some ⟨.type "tuple", od, .seq #[.int 0 tk, .ref g] n, sl⟩) (l2 : K.lookup g = some ⟨.type "tuple", od2, .seq #[] n2, sl2⟩) : Glo K mg x (.tuple [.int 0, .tuple []]) :=
  ⟨.ref f, .ref f, PySem.W.mg_of X G a, rfl, fun G => .tup (xs := [.int 0, .ref g]) (.inr ⟨_, _, _, l, rfl, rfl, by rw [sizeLine_eq]; show (2 : Nat) ≤ _; decide, .cons ⟨tk, rfl⟩ (.cons rfl .nil)⟩) (.cons (.int 0) (.cons (.tup (xs := []) (.inr ⟨_, _, _, l2, rfl, rfl, by rw [sizeLine_eq]; show (0 : Nat) ≤ _; decide, .nil⟩) .nil) .nil))⟩
end DL
namespace DL
open PySem PySem.Spec PyProof.Rows L2
section
variable {X : Cx} {na : NA} {sl sl' : Sl} {cs cs1 cs2 cs3 : Cs} {s t u : SV} {pos spos p : Pos} {x : Str} {E : DEnds} {N : List Str} {a b : Expr}
/-- a comprehension's list as a new cell -/
theorem ev_LCC {elt tg iter : Expr} {ifs : List Expr} {scope : Scope} {own : List (Str × Nat)} {ds : List PyData} {n : Nat} (hc : X.calm = true) (nd : X.N.Nodup) (ok : BlkOk X.N X.env.scope scope own) (d : LC X na elt tg iter ifs scope own sl cs ds cs1) (ac : AppC cs1 (.lst (ds.map SV.val)) n cs2) (hs : ∀ x, foldedSetIterable iter X.env x = pure x := by intro _; rfl) : EV X na (.ListComp elt [⟨tg, iter, ifs, 0⟩] scope pos) sl cs (.cell n) cs2 :=
  ev_of (pe_LC hc nd ok hs) fun B G ps σ H hna C S Q q => d B G ps σ H hna C S Q fun D vs G' ps' H' C' u' d1 d2 d3 d4 r => by
    obtain ⟨rfl, rfl⟩ := ac.at
    exact q (.ref D) G' (ps' ++ [D]) H' (C'.adoptCell (c := .lst (ds.map SV.val)) d1 d2 d3 ⟨vs, d4, Reps.vs r⟩) (u'.trans ⟨Same.refl _, List.prefix_append _ _⟩) ⟨D, by rw [← C'.len]; exact pre_snoc_get ps' D, rfl⟩
/-- name = [..], on one line -/
theorem s1_setLc {elt tg iter : Expr} {ifs : List Expr} {scope : Scope} {own : List (Str × Nat)} {ds : List PyData} {y : Str} {py : Pos} {i m : Nat} (T : TabL X m) (hN : X.N = N) (hc : X.calm = true) (ok : BlkOk X.N X.env.scope scope own) (d : LC X na elt tg iter ifs scope own sl cs ds cs1) (p : Put N sl y i (.val (.list ds)) sl') (q : E.nx sl' cs1) (hi : Nat.blt i m = true)
    (hyl : X.env.scope.names.lookup y = some .local := by rfl) (hk : X.env.scope.kind = .function := by rfl) (hl : (py.line == pos.line) = true := by rfl) (hq : (scope.names.any fun (n, k) => n == y && (k == .local || k == .cell)) = false := by rfl)
    (hs : ∀ x, foldedSetIterable iter X.env x = pure x := by intro _; rfl) : S1 X na (.Assign [.Name y py] (.ListComp elt [⟨tg, iter, ifs, 0⟩] scope pos) spos) sl cs E := by
  subst hN
  obtain ⟨h1, h2⟩ := p.at
  subst h2
  refine s1_of (ps_setLc (wi := anyI X tg iter) (g := famG X scope tg) (tt := famT X scope ifs) (te := famE X scope elt) hc T.nd h1 hyl (sw_true hk hyl hl hq) pi_any ok
    (fun st H0 C cl fp => ⟨fun pins s σ H v u Q I r h => pg_any.run pins s σ H v u Q I r (h st H0 C cl fp)⟩) (fun st H0 C cl fp => ⟨fun pins s σ H Q I h => by obtain ⟨te, p, h⟩ := h st H0 C cl fp; exact p.run pins s σ H Q I h⟩)
    (fun st H0 C cl fp => ⟨fun pins s σ H Q I h => pe_any.run pins s σ H Q I (h st H0 C cl fp)⟩) hs) fun B G ps σ H hna C S D L => ?_
  exact d B G ps σ H hna C S _ fun A vs G' ps' H' C' u' d1 d2 d3 d4 r => L.nx _ cs1 _ ps' _ H' (C'.adopt d1 d2 d3 d4) (u'.trans ⟨Same.new d2, List.prefix_refl _⟩) (Slots.set (Slots.mono (u'.trans ⟨Same.new d2, List.prefix_refl _⟩) S) (s := .val (.list ds)) (Rep.lst (SqL.of upd_same) (Reps.mono (Same.new d2) r)) i) q
theorem s1_setLcC {elt tg iter : Expr} {ifs : List Expr} {scope : Scope} {own : List (Str × Nat)} {ds : List PyData} {y : Str} {py : Pos} {i m n : Nat} (T : TabL X m) (hN : X.N = N) (hc : X.calm = true) (ok : BlkOk X.N X.env.scope scope own) (d : LC X na elt tg iter ifs scope own sl cs ds cs1) (ac : AppC cs1 (.lst (ds.map SV.val)) n cs2) (p : Put N sl y i (.cell n) sl') (q : E.nx sl' cs2) (hi : Nat.blt i m = true)
    (hyl : X.env.scope.names.lookup y = some .local := by rfl) (hk : X.env.scope.kind = .function := by rfl) (hl : (py.line == pos.line) = true := by rfl) (hq : (scope.names.any fun (n, k) => n == y && (k == .local || k == .cell)) = false := by rfl)
    (hs : ∀ x, foldedSetIterable iter X.env x = pure x := by intro _; rfl) : S1 X na (.Assign [.Name y py] (.ListComp elt [⟨tg, iter, ifs, 0⟩] scope pos) spos) sl cs E := by
  subst hN
  obtain ⟨h1, h2⟩ := p.at
  subst h2
  obtain ⟨rfl, rfl⟩ := ac.at
  refine s1_of (ps_setLc (wi := anyI X tg iter) (g := famG X scope tg) (tt := famT X scope ifs) (te := famE X scope elt) hc T.nd h1 hyl (sw_true hk hyl hl hq) pi_any ok
    (fun st H0 C cl fp => ⟨fun pins s σ H v u Q I r h => pg_any.run pins s σ H v u Q I r (h st H0 C cl fp)⟩) (fun st H0 C cl fp => ⟨fun pins s σ H Q I h => by obtain ⟨te, p, h⟩ := h st H0 C cl fp; exact p.run pins s σ H Q I h⟩)
    (fun st H0 C cl fp => ⟨fun pins s σ H Q I h => pe_any.run pins s σ H Q I (h st H0 C cl fp)⟩) hs) fun B G ps σ H hna C S D L => ?_
  exact d B G ps σ H hna C S _ fun A vs G' ps' H' C' u' d1 d2 d3 d4 r => L.nx _ _ G' (ps' ++ [A]) _ H' (C'.adoptCell (c := .lst (ds.map SV.val)) d1 d2 d3 ⟨vs, d4, Reps.vs r⟩) (u'.trans ⟨Same.refl _, List.prefix_append _ _⟩) (Slots.set (Slots.mono (u'.trans ⟨Same.refl _, List.prefix_append _ _⟩) S) (s := .cell cs1.length) ⟨A, by rw [← C'.len]; exact pre_snoc_get ps' A, rfl⟩ i) q
end
theorem at_zero {α : Type} {a : α} {l : List α} : atI (a :: l) 0 = some a := by
  have e : (0 : Int) = ((0 : Nat) : Int) := rfl
  rw [e]
  exact atI_nat rfl
theorem sortI_two (t u : Int) : sortI [t, u] = [if t ≤ u then t else u, if t ≤ u then u else t] := by
  refine (sortI_uniq ?_ ?_).symm
  · split
    · exact List.Perm.refl _
    · exact List.Perm.swap _ _ _
  · split
    · simp; omega
    · simp; omega
theorem data_map (ds : List PyData) : (CC.lst (ds.map SV.val)).data = some (.list ds) := by
  show (svData (ds.map SV.val)).map _ = _
  rw [svData_map]
  rfl
end DL
namespace DL
open PySem PySem.Spec PyProof.Rows L2
/-! ### mirrors: what a def computes, told by what comes behind -/
def letF {α β : Type} (a : α) (f : α → β) : β := f a
theorem letF_elim {α β : Type} {a : α} {f : α → β} {r : β} (h : letF a f = r) : ∃ x, a = x ∧ f x = r := ⟨a, rfl, h⟩
def joinF {α β ρ : Type} (J : α → β) (F : (α → β) → ρ) : ρ := F J
theorem joinF_elim {α ρ : Type} {J : α → ρ} {F : (α → ρ) → ρ} {r : ρ} (h : joinF J F = r) : ∃ j : α → ρ, (∀ x, j x = r → J x = r) ∧ F j = r := ⟨J, fun _ z => z, h⟩
def forL {α σ ρ : Type} (body : α → σ → (σ → ρ) → ρ) (k : σ → ρ) : List α → σ → ρ
  | [], s => k s
  | x :: xs, s => body x s (forL body k xs)
def whileL {σ ρ : Type} (body : σ → (σ → ρ) → ρ) : Nat → σ → ρ → ρ
  | 0, _, z => z
  | n + 1, s, z => body s fun t => whileL body n t z
def mapS {α β σ : Type} (g : α → σ → β × σ) : List α → σ → List β × σ
  | [], s => ([], s)
  | x :: xs, s => ((g x s).1 :: (mapS g xs (g x s).2).1, (mapS g xs (g x s).2).2)
theorem mapS_snoc {α β σ : Type} (g : α → σ → β × σ) (x : α) : ∀ (xs : List α) (s : σ), mapS g (xs ++ [x]) s = ((mapS g xs s).1 ++ [(g x (mapS g xs s).2).1], (g x (mapS g xs s).2).2)
  | [], s => rfl
  | y :: ys, s => by
    show ((g y s).1 :: (mapS g (ys ++ [x]) (g y s).2).1, (mapS g (ys ++ [x]) (g y s).2).2) = _
    rw [mapS_snoc g x ys]
    rfl
def ixD {α : Type} [Inhabited α] (xs : List α) (i : Int) : α := (L2.atI xs i).getD default
def inR (i : Int) (n : Nat) : Prop := 0 ≤ i ∧ i < n ∨ -(n : Int) ≤ i ∧ i < 0
theorem at_ixD {α β : Type} [Inhabited α] {xs : List α} {f : α → β} {i : Int} (h0 : 0 ≤ i) (h1 : i < xs.length) : L2.atI (xs.map f) i = some (f (ixD xs i)) := by
  have e1 := at_map (xs := xs) (f := f) (d := default) h0 h1
  have e2 := at_in (d := default) h0 h1
  rw [e1]
  unfold ixD
  rw [e2]
  rfl
theorem ixD_eq {α : Type} [Inhabited α] {xs : List α} {i : Int} (h0 : 0 ≤ i) (h1 : i < xs.length) : ixD xs i = xs.getD i.toNat default := by
  unfold ixD
  rw [at_in (d := default) h0 h1]
  rfl
section
variable {X : Cx} {na : NA} {sl sl' : Sl} {cs cs1 cs2 cs3 : Cs} {s t u : SV} {pos spos p : Pos} {x : Str} {E : DEnds} {N : List Str} {a b : Expr}
theorem ev_as {e : Expr} (h : EV X na e sl cs s cs1) (q : s = t) (q2 : cs1 = cs2) : EV X na e sl cs t cs2 := by
  subst q
  subst q2
  exact h
theorem tv_as {e : Expr} {k l : Bool} (h : TV X na e sl cs k cs1) (q : k = l) (q2 : cs1 = cs2) : TV X na e sl cs l cs2 := by
  subst q
  subst q2
  exact h
/-- ways that meet again; what was made on them is forgotten -/
theorem sx_cutA {st : Stmt} {rest : List Stmt} (M : Sl → Cs → Prop) (h : S1 X na st sl cs { E with nx := fun sl' cs' => ∃ a c, M a c ∧ At cs.length a c sl' cs' }) (k : ∀ sl' cs', M sl' cs' → SX X na rest sl' cs' E) : SX X na (st :: rest) sl cs E := by
  refine sx_cons fun B G ps σ H hn C S D L => h B G ps σ H hn C S D ⟨?_, L.rt, L.bk, L.ct⟩
  intro sl1 cs1 G1 ps1 σ1 H1 C1 u1 S1 ⟨a, c, m, ha⟩
  have hA : B.As.length ≤ cs.length := by
    rw [← C.len]
    exact C.pre.length_le
  obtain ⟨G', ps', C', u', S'⟩ := ha.go C.len C1 hA u1 S1
  exact L.nx a c G' ps' σ1 H1 C' u' S' (k a c m)
theorem s1_forK {α σ ρ : Type} {tg iter : Expr} {body : List Stmt} {GC : Cs → Prop} (es : List α) (f : α → SV) (mb : α → σ → (σ → ρ) → ρ) (mk : σ → ρ) (R0 : ρ) (s0 : σ) (J : List α → σ → Prop) (h0 : forL mb mk es s0 = R0) (hp : PassesOwn (model X.prog X.w) X.A X.env X.xe) (hc : X.calm = true) (hi : IV X na tg iter sl cs (es.map f) GC cs1)
    (hj : J es s0) (a : σ → Sl) (c : σ → Cs) (hl : Le (a s0) sl) (hcs : c s0 = cs1) (hG : ∀ s, GC (c s))
    (hs : ∀ e rest s cont, (∃ pre, es = pre ++ e :: rest) → J (e :: rest) s → mb e s cont = R0 → GX X na tg (f e) (a s) (c s) fun sl2 cs2 => SX X na body sl2 cs2 { E with nx := fun sl3 cs3 => ∃ s', cont s' = R0 ∧ J rest s' ∧ At cs1.length (a s') (c s') sl3 cs3, ct := fun sl3 cs3 => ∃ s', cont s' = R0 ∧ J rest s' ∧ At cs1.length (a s') (c s') sl3 cs3, bk := E.nx })
    (hd : ∀ s, J [] s → mk s = R0 → ∀ sl', Le (a s) sl' → E.nx sl' (c s))
    (hf : ∀ x, foldedSetIterable iter X.env x = pure x := by intro _; rfl) : S1 X na (.For tg iter body [] pos) sl cs E := by
  refine s1_for hp hc hi (fun i sl' cs' => ∃ s, J (es.drop i) s ∧ forL mb mk (es.drop i) s = R0 ∧ Le (a s) sl' ∧ cs' = c s) ⟨s0, hj, h0, hl, hcs.symm⟩ (fun i sl' cs' ⟨s, _, _, _, e⟩ => e ▸ hG s) (fun i sv sl' cs' hx ⟨s, hJ, hF, l, e⟩ => ?_) (fun sl' cs' ⟨s, hJ, hF, l, e⟩ => ?_) hf
  · subst e
    rw [List.getElem?_map] at hx
    cases he : es[i]? with
    | none => rw [he] at hx; cases hx
    | some e =>
      rw [he] at hx
      cases hx
      obtain ⟨hlt, he2⟩ := List.getElem?_eq_some_iff.mp he
      have ed : es.drop i = e :: es.drop (i + 1) := by rw [List.drop_eq_getElem_cons hlt, he2]
      rw [ed] at hJ hF
      have := hs e (es.drop (i + 1)) s (forL mb mk (es.drop (i + 1))) ⟨es.take i, by rw [← ed, List.take_append_drop]⟩ hJ hF
      intro B G ps σ' H v hn C S r Q q
      refine this B G ps σ' H v hn C (l.slots S) r Q fun sl2 cs2 G2 ps2 σ2 H2 C2 u2 S2 q2 => q sl2 cs2 G2 ps2 σ2 H2 C2 u2 S2 ?_
      intro B' G' ps' σ'' H' hn' C' S' D L
      refine q2 B' G' ps' σ'' H' hn' C' S' D ⟨?_, L.rt, L.bk, ?_⟩
      · exact fun sl3 cs3 G3 ps3 σ3 H3 C3 u3 S3 ⟨s', e1, e2, e3⟩ => L.nx sl3 cs3 G3 ps3 σ3 H3 C3 u3 S3 ⟨a s', c s', ⟨s', e2, e1, Le.refl _, rfl⟩, e3⟩
      · exact fun sl3 cs3 G3 ps3 σ3 H3 C3 u3 S3 ⟨s', e1, e2, e3⟩ => L.ct sl3 cs3 G3 ps3 σ3 H3 C3 u3 S3 ⟨a s', c s', ⟨s', e2, e1, Le.refl _, rfl⟩, e3⟩
  · subst e
    rw [List.length_map, List.drop_length] at hJ hF
    exact hd s hJ hF sl' l
theorem s1_forKD {α σ ρ : Type} {tg iter : Expr} {body : List Stmt} {GC : Cs → Prop} (es : List α) (g : α → PyData) (mb : α → σ → (σ → ρ) → ρ) (mk : σ → ρ) (R0 : ρ) (s0 : σ) (J : List α → σ → Prop) (h0 : forL mb mk es s0 = R0) (hp : PassesOwn (model X.prog X.w) X.A X.env X.xe) (hc : X.calm = true) (hi : IV X na tg iter sl cs ((es.map g).map SV.val) GC cs1)
    (hj : J es s0) (a : σ → Sl) (c : σ → Cs) (hl : Le (a s0) sl) (hcs : c s0 = cs1) (hG : ∀ s, GC (c s))
    (hs : ∀ e rest s cont, (∃ pre, es = pre ++ e :: rest) → J (e :: rest) s → mb e s cont = R0 → GX X na tg (.val (g e)) (a s) (c s) fun sl2 cs2 => SX X na body sl2 cs2 { E with nx := fun sl3 cs3 => ∃ s', cont s' = R0 ∧ J rest s' ∧ At cs1.length (a s') (c s') sl3 cs3, ct := fun sl3 cs3 => ∃ s', cont s' = R0 ∧ J rest s' ∧ At cs1.length (a s') (c s') sl3 cs3, bk := E.nx })
    (hd : ∀ s, J [] s → mk s = R0 → ∀ sl', Le (a s) sl' → E.nx sl' (c s))
    (hf : ∀ x, foldedSetIterable iter X.env x = pure x := by intro _; rfl) : S1 X na (.For tg iter body [] pos) sl cs E :=
  s1_forK es (fun e => .val (g e)) mb mk R0 s0 J h0 hp hc (by rw [List.map_map] at hi; exact hi) hj a c hl hcs hG hs hd hf
/-- a while, by how many turns at most are left; z: what would be told if these were too few -/
theorem s1_whileK {σ ρ : Type} {c : Expr} {body : List Stmt} (mb : σ → (σ → ρ) → ρ) (z : ρ) (n0 : Nat) (R0 : ρ) (s0 : σ) (J : Nat → σ → Prop) (h0 : whileL mb n0 s0 z = R0) (hp : PassesOwn (model X.prog X.w) X.A X.env X.xe)
    (hj : J n0 s0) (a : σ → Sl) (d : σ → Cs) (hl : Le (a s0) sl) (hcs : d s0 = cs) (hpos : ∀ s, ¬ J 0 s)
    (hs : ∀ n s cont, J (n + 1) s → mb s cont = R0 → ∃ k cs2, TV X na c (a s) (d s) k cs2 ∧ (k = true → SX X na body (a s) cs2 { E with nx := fun sl3 cs3 => ∃ s', cont s' = R0 ∧ J n s' ∧ At cs.length (a s') (d s') sl3 cs3, ct := fun sl3 cs3 => ∃ s', cont s' = R0 ∧ J n s' ∧ At cs.length (a s') (d s') sl3 cs3, bk := E.nx }) ∧ (k = false → ∀ sl', Le (a s) sl' → E.nx sl' cs2)) : S1 X na (.While c body [] pos) sl cs E := by
  refine s1_while hp (fun m sl' cs' => ∃ s, J m s ∧ whileL mb m s z = R0 ∧ Le (a s) sl' ∧ cs' = d s) n0 ⟨s0, hj, h0, hl, hcs.symm⟩ fun m sl' cs' ⟨s, hJ, hF, l, e⟩ => ?_
  subst e
  cases m with
  | zero => exact (hpos s hJ).elim
  | succ n =>
    obtain ⟨k, cs2, ht, h1, h2⟩ := hs n s (fun t => whileL mb n t z) hJ hF
    refine ⟨k, cs2, fun B G ps σ' H hn C S Q q => ht B G ps σ' H hn C (l.slots S) Q q, fun hk => sx_weak l ?_, fun hk => h2 hk sl' l⟩
    intro B' G' ps' σ'' H' hn' C' S' D L
    refine h1 hk B' G' ps' σ'' H' hn' C' S' D ⟨?_, L.rt, L.bk, ?_⟩
    · exact fun sl3 cs3 G3 ps3 σ3 H3 C3 u3 S3 ⟨s', e1, e2, e3⟩ => L.nx sl3 cs3 G3 ps3 σ3 H3 C3 u3 S3 ⟨n, a s', d s', Nat.lt_succ_self n, ⟨s', e2, e1, Le.refl _, rfl⟩, e3⟩
    · exact fun sl3 cs3 G3 ps3 σ3 H3 C3 u3 S3 ⟨s', e1, e2, e3⟩ => L.ct sl3 cs3 G3 ps3 σ3 H3 C3 u3 S3 ⟨n, a s', d s', Nat.lt_succ_self n, ⟨s', e2, e1, Le.refl _, rfl⟩, e3⟩
/-! comprehensions -/
theorem lc_K {α : Type} {elt tg iter : Expr} {scope : Scope} {own : List (Str × Nat)} {GC : Cs → Prop} (es : List α) (f : α → SV) (h : IV X na tg iter sl cs (es.map f) GC cs1)
    (v : α → PyData) (a : α → Sl) (c2 : α → Cs) (hz : es.length ≤ 100000) (hG : GC cs1)
    (hg : ∀ e ∈ es, ∀ st H C cl fp, GW (blkOf X scope st H C cl fp) (lenB cs1.length) tg (f e) (wipeS sl (own.map (·.2))) cs1 (own.map (·.2)) fun sl2 cs2 => sl2 = a e ∧ cs2 = cs1)
    (he : ∀ e ∈ es, (∀ st H C cl fp, EV (blkOf X scope st H C cl fp) (lenB cs1.length) elt (a e) cs1 (.val (v e)) (c2 e)) ∧ AtC cs1.length cs1 (c2 e))
    : LC X na elt tg iter [] scope own sl cs (es.map v) cs1 := by
  cases es with
  | nil => exact lc_M h [] (fun _ => sl) (fun _ => cs1) rfl (Nat.zero_le _) hG (fun i s e => by simp at e) (fun i s d e => by simp at e)
  | cons e0 er =>
    have get : ∀ {i : Nat} {s : SV}, ((e0 :: er).map f)[i]? = some s → ∃ e, (e0 :: er)[i]? = some e ∧ s = f e ∧ (e0 :: er).getD i e0 = e := fun {i s} e => by
      rw [List.getElem?_map] at e
      cases q : (e0 :: er)[i]? with
      | none => rw [q] at e; cases e
      | some z =>
        rw [q] at e
        cases e
        exact ⟨z, rfl, rfl, by rw [List.getD_eq_getElem?_getD, q]; rfl⟩
    refine lc_M h ((e0 :: er).map v) (fun i => a ((e0 :: er).getD i e0)) (fun i => c2 ((e0 :: er).getD i e0)) (by rw [List.length_map, List.length_map]) (by rw [List.length_map]; exact hz) hG (fun i s e st H C cl fp => ?_) (fun i s d e hd => ?_)
    · obtain ⟨z, h1, rfl, h3⟩ := get e
      rw [h3]
      exact hg z (List.mem_of_getElem? h1) st H C cl fp
    · obtain ⟨z, h1, rfl, h3⟩ := get e
      rw [List.getElem?_map, h1] at hd
      cases hd
      rw [h3]
      exact he z (List.mem_of_getElem? h1)
/-- .. whose elements change cells -/
theorem lc_S {α β σ : Type} {elt tg iter : Expr} {scope : Scope} {own : List (Str × Nat)} {GC : Cs → Prop} (es : List α) (f : α → SV) (h : IV X na tg iter sl cs (es.map f) GC cs1)
    (g : α → σ → β × σ) (v : β → PyData) (s0 : σ) (c : σ → Cs) (hcs : c s0 = cs1) (a : α → Sl) (c2 : α → σ → Cs) (hz : es.length ≤ 100000) (hG : ∀ s, GC (c s)) (hlen : ∀ s, (c s).length = cs1.length)
    (hg : ∀ e ∈ es, ∀ s, ∀ st H C cl fp, GW (blkOf X scope st H C cl fp) (lenB cs1.length) tg (f e) (wipeS sl (own.map (·.2))) (c s) (own.map (·.2)) fun sl2 cs2 => sl2 = a e ∧ cs2 = c s)
    (he : ∀ e ∈ es, ∀ s, (∀ st H C cl fp, EV (blkOf X scope st H C cl fp) (lenB cs1.length) elt (a e) (c s) (.val (v (g e s).1)) (c2 e s)) ∧ AtC cs1.length (c (g e s).2) (c2 e s))
    : LC X na elt tg iter [] scope own sl cs ((mapS g es s0).1.map v) (c (mapS g es s0).2) := by
  cases es with
  | nil =>
    subst hcs
    exact lc_M h [] (fun _ => sl) (fun _ => c s0) rfl (Nat.zero_le _) (hG _) (fun i s e => by simp at e) (fun i s d e => by simp at e)
  | cons e0 er =>
    have get : ∀ {i : Nat} {s : SV}, ((e0 :: er).map f)[i]? = some s → ∃ e, (e0 :: er)[i]? = some e ∧ s = f e ∧ (e0 :: er).getD i e0 = e := fun {i s} e => by
      rw [List.getElem?_map] at e
      cases q : (e0 :: er)[i]? with
      | none => rw [q] at e; cases e
      | some z =>
        rw [q] at e
        cases e
        exact ⟨z, rfl, rfl, by rw [List.getD_eq_getElem?_getD, q]; rfl⟩
    have := lc_gen (elt := elt) (ifs := []) (sl := sl) (scope := scope) (own := own) h (fun i => a ((e0 :: er).getD i e0)) (fun i => c (mapS g ((e0 :: er).take i) s0).2) (fun i => c2 ((e0 :: er).getD i e0) (mapS g ((e0 :: er).take i) s0).2) (fun _ => true) (fun i => v (g ((e0 :: er).getD i e0) (mapS g ((e0 :: er).take i) s0).2).1) (fun i => (mapS g ((e0 :: er).take i) s0).1.map v) hcs rfl (by rw [List.length_map]; exact hz) (fun _ _ => hG _)
      (fun i s e st H C cl fp => by
        obtain ⟨z, h1, rfl, h3⟩ := get e
        rw [h3, hlen]
        exact hg z (List.mem_of_getElem? h1) _ st H C cl fp)
      (fun i s e st H C cl fp => tvs_nil)
      (fun i s e _ => by
        obtain ⟨z, h1, rfl, h3⟩ := get e
        obtain ⟨g1, g2⟩ := he z (List.mem_of_getElem? h1) (mapS g ((e0 :: er).take i) s0).2
        have e1 : (e0 :: er).take (i + 1) = (e0 :: er).take i ++ [z] := by rw [List.take_add_one, h1]; rfl
        refine ⟨fun st H C cl fp => ?_, ?_, ?_⟩
        · rw [h3, hlen]
          exact g1 st H C cl fp
        · rw [e1, mapS_snoc, h3]
          exact g2
        · rw [e1, mapS_snoc, h3, List.map_append]
          rfl)
      (fun i s e hk => by cases hk)
    rw [List.length_map, List.take_of_length_le (Nat.le_refl _)] at this
    exact this
/-! lists of one kind -/
theorem ev_appT {α : Type} {f : α → PyData} {l : List α} {y : α} {o e : Expr} {apos : Pos} {k : Nat} {ys : List SV} (ho : EV X na o sl cs (.cell k) cs1) (he : EV X na e sl cs1 (.val (f y)) cs2) (hc1 : cs1[k]? = some (.lst ys)) (hc : cs2[k]? = some (.lst ((l.map f).map SV.val))) (pc : PutC cs2 k (.lst (((l ++ [y]).map f).map SV.val)) cs3) (hz : l.length ≤ 1000000)
    (hs : starEach [e] X.env = (false, eval e X.env) :: starEach [] X.env := by rfl)
    (hbase : attributeBase o "append" X.env (eval o X.env) = eval o X.env := by rfl) (hfew : ((backTo pos (starEach (e :: []) X.env)).all (fun x => !x.1) && (backToKw pos (keywordEach [] X.env)).all (fun x => x.1.isSome)
      && decide ((e :: []).length + ([] : List Keyword).length + (if ([] : List Keyword).isEmpty then 0 else 1) < 30)) = true := by rfl)
    (hline : (apos.endLine == pos.line) = true := by rfl) (hplain : (backTo pos (starEach [] X.env)).any (·.1) = false := by rfl) : EV X na (.Call (.Attribute o "append" apos) [e] [] pos) sl cs (.val .none) cs3 := by
  refine ev_append ho he hc1 hc ?_ (by rw [List.length_map, List.length_map]; exact hz) hs hbase hfew hline hplain
  rw [List.map_append, List.map_append] at pc
  exact pc
end
end DL
namespace DL
open PySem PySem.Spec PyProof.Rows L2
theorem mem_mid {α : Type} {es rest : List α} {x : α} (h : ∃ pre, es = pre ++ x :: rest) : x ∈ es := by
  obtain ⟨pre, rfl⟩ := h
  simp
theorem at_ixN {α β : Type} [Inhabited α] {xs : List α} {f : α → β} {i : Int} (h0 : -(xs.length : Int) ≤ i) (h1 : i < 0) : L2.atI (xs.map f) i = some (f (ixD xs i)) := by
  have e1 : ∀ {γ : Type} (ys : List γ), ys.length = xs.length → L2.atI ys i = ys[(i + ys.length).toNat]? := fun ys hy => by
    unfold L2.atI L2.ixN
    rw [hy, if_neg (by omega), if_pos (by omega)]
    rfl
  have hlt : (i + xs.length).toNat < xs.length := by omega
  unfold ixD
  rw [e1 (xs.map f) (List.length_map ..), e1 xs rfl, List.getElem?_map, List.length_map, List.getElem?_eq_getElem hlt]
  rfl
theorem rgD_0 (n : Int) : SV.val (.list (rgD 0 n)) = SV.val (.list (((List.range n.toNat).map fun i : Nat => (i : Int)).map PyData.int)) := by
  unfold rgD
  rw [List.map_map, Int.sub_zero]
  congr 3
  funext i
  simp
theorem rgD_2 (m n : Int) : SV.val (.list (rgD m n)) = SV.val (.list (((List.range (n - m).toNat).map fun i : Nat => (m + (i : Int))).map PyData.int)) := by
  unfold rgD
  rw [List.map_map]
  rfl
theorem get_T {α : Type} {f : α → PyData} (xs : List (Str × α)) (k : Str) (d : α) : (lkK (svK (kvT f xs)) (.inr k)).getD (.val (f d)) = .val (f ((lkS xs k).getD d)) := by
  rw [lk_T]
  cases lkS xs k <;> rfl
section
variable {X : Cx} {na : NA} {sl sl' : Sl} {cs cs1 cs2 cs3 : Cs} {s t u : SV} {pos spos p : Pos} {x : Str} {E : DEnds} {N : List Str} {a b : Expr} {tg iter : Expr}
theorem lc_as {elt : Expr} {ifs : List Expr} {scope : Scope} {own : List (Str × Nat)} {ds es : List PyData} (h : LC X na elt tg iter ifs scope own sl cs ds cs1) (q : SV.val (.list ds) = SV.val (.list es)) (q2 : cs1 = cs2) : LC X na elt tg iter ifs scope own sl cs es cs2 := by
  cases q
  subst q2
  exact h
theorem iv_mapC {α : Type} {g : α → PyData} {es : List α} {GC : Cs → Prop} (h : IV X na tg iter sl cs ((es.map g).map SV.val) GC cs1) : IV X na tg iter sl cs (es.map fun x => SV.val (g x)) GC cs1 := by
  rw [List.map_map] at h
  exact h
theorem ev_maxM {i j : Int} (hm : X.mg "max" = none) (ha : EV X na a sl cs (.val (.int i)) cs1) (hb : EV X na b sl cs1 (.val (.int j)) cs2) (hc : X.calm = true := by rfl) (hg : Gl X "max" := by rfl) (hs : starEach [a, b] X.env = (false, eval a X.env) :: starEach [b] X.env := by rfl)
    (hs2 : starEach [b] X.env = (false, eval b X.env) :: starEach [] X.env := by rfl) (hpl : (backTo pos (starEach [b] X.env)).any (·.1) = false := by rfl) : EV X na (.Call (.Name "max" p) [a, b] [] pos) sl cs (.val (.int (max i j))) cs2 := by
  have := ev_max2 (p := p) (pos := pos) hc hm hg ha hb hs hs2 hpl
  rwa [show (if j > i then j else i) = max i j by omega] at this
theorem ev_minM {i j : Int} (hm : X.mg "min" = none) (ha : EV X na a sl cs (.val (.int i)) cs1) (hb : EV X na b sl cs1 (.val (.int j)) cs2) (hc : X.calm = true := by rfl) (hg : Gl X "min" := by rfl) (hs : starEach [a, b] X.env = (false, eval a X.env) :: starEach [b] X.env := by rfl)
    (hs2 : starEach [b] X.env = (false, eval b X.env) :: starEach [] X.env := by rfl) (hpl : (backTo pos (starEach [b] X.env)).any (·.1) = false := by rfl) : EV X na (.Call (.Name "min" p) [a, b] [] pos) sl cs (.val (.int (min i j))) cs2 := by
  have := ev_min2 (p := p) (pos := pos) hc hm hg ha hb hs hs2 hpl
  rwa [show (if j < i then j else i) = min i j by omega] at this
end
end DL
namespace DL
open PySem PySem.Spec PyProof.Rows L2
def minL : List Int → Int
  | [] => 0
  | [a] => a
  | a :: b :: r => min a (minL (b :: r))
def maxL : List Int → Int
  | [] => 0
  | [a] => a
  | a :: b :: r => max a (maxL (b :: r))
theorem minL_is : ∀ {l : List Int}, l ≠ [] → minL l ∈ l ∧ ∀ y ∈ l, minL l ≤ y
  | [], h => (h rfl).elim
  | [a], _ => ⟨List.mem_cons_self, fun y hy => by rw [List.mem_singleton] at hy; rw [hy]; exact Int.le_refl a⟩
  | a :: b :: r, _ => by
    obtain ⟨h1, h2⟩ := minL_is (l := b :: r) (by simp)
    have e : minL (a :: b :: r) = min a (minL (b :: r)) := rfl
    rw [e]
    refine ⟨?_, fun y hy => ?_⟩
    · by_cases h : a ≤ minL (b :: r)
      · rw [show min a (minL (b :: r)) = a by omega]; exact List.mem_cons_self
      · rw [show min a (minL (b :: r)) = minL (b :: r) by omega]; exact List.mem_cons_of_mem _ h1
    · rcases List.mem_cons.mp hy with z | z
      · omega
      · have := h2 y z; omega
theorem maxL_is : ∀ {l : List Int}, l ≠ [] → maxL l ∈ l ∧ ∀ y ∈ l, y ≤ maxL l
  | [], h => (h rfl).elim
  | [a], _ => ⟨List.mem_cons_self, fun y hy => by rw [List.mem_singleton] at hy; rw [hy]; exact Int.le_refl a⟩
  | a :: b :: r, _ => by
    obtain ⟨h1, h2⟩ := maxL_is (l := b :: r) (by simp)
    have e : maxL (a :: b :: r) = max a (maxL (b :: r)) := rfl
    rw [e]
    refine ⟨?_, fun y hy => ?_⟩
    · by_cases h : maxL (b :: r) ≤ a
      · rw [show max a (maxL (b :: r)) = a by omega]; exact List.mem_cons_self
      · rw [show max a (maxL (b :: r)) = maxL (b :: r) by omega]; exact List.mem_cons_of_mem _ h1
    · rcases List.mem_cons.mp hy with z | z
      · omega
      · have := h2 y z; omega
theorem sortI_two2 (t u : Int) : SV.val (.list ((sortI [t, u]).map PyData.int)) = SV.val (.list [.int (min t u), .int (max t u)]) := by
  rw [sortI_two]
  by_cases h : t ≤ u
  · rw [if_pos h, if_pos h, show min t u = t by omega, show max t u = u by omega]; rfl
  · rw [if_neg h, if_neg h, show min t u = u by omega, show max t u = t by omega]; rfl
theorem ix2 {α : Type} [Inhabited α] {x y : α} {i : Int} (h : 0 ≤ i ∧ i < 2) : ixD [x, y] i = x ∨ ixD [x, y] i = y := by
  rcases (by omega : i = 0 ∨ i = 1) with z | z <;> subst z
  · exact .inl rfl
  · exact .inr rfl
theorem ix3 {α : Type} [Inhabited α] {x y z : α} {i : Int} (h : 0 ≤ i ∧ i < 3) : ixD [x, y, z] i = x ∨ ixD [x, y, z] i = y ∨ ixD [x, y, z] i = z := by
  rcases (by omega : i = 0 ∨ i = 1 ∨ i = 2) with z | z | z <;> subst z
  · exact .inl rfl
  · exact .inr (.inl rfl)
  · exact .inr (.inr rfl)
theorem ixD_mem {α : Type} [Inhabited α] {xs : List α} {i : Int} (h0 : 0 ≤ i) (h1 : i < xs.length) : ixD xs i ∈ xs := by
  rw [ixD_eq h0 h1, List.getD_eq_getElem?_getD, List.getElem?_eq_getElem (by omega)]
  exact List.getElem_mem _
theorem lk_at {α : Type} [Inhabited α] {f : α → PyData} {xs : List (Str × α)} {k : Str} (h : (lkS xs k).isSome = true) : lkK (svK (kvT f xs)) (.inr k) = some (.val (f ((lkS xs k).getD default))) := by
  rw [lk_T]
  cases q : lkS xs k with
  | none => rw [q] at h; cases h
  | some a => rfl
theorem dd_ok {α : Type} {f : α → PyData} {n : Nat} (hn : n ≤ 60) (h : ∀ x, dkD n (f x) = true) (xs : List (Str × α)) : ∀ kv ∈ kvT f xs, SeqAt.shaped kv.2 = true ∧ PyData.eqv kv.2 kv.2 = true := by
  intro kv hk
  unfold kvT at hk
  obtain ⟨p, _, rfl⟩ := List.mem_map.mp hk
  exact ⟨dk_shaped (h p.2) hn, dk_refl (h p.2)⟩
section
variable {X : Cx} {na : NA} {sl sl' : Sl} {cs cs1 cs2 cs3 : Cs} {s t u : SV} {pos spos p : Pos} {x : Str} {E : DEnds} {N : List Str} {a b : Expr} {tg iter : Expr}
theorem ev_minL {ns : List Int} (hm : X.mg "min" = none) (ha : EV X na a sl cs s cs1) (hl : IsL cs1 s ((ns.map PyData.int).map SV.val)) (hn : ns ≠ []) (hc : X.calm = true := by rfl) (hg : Gl X "min" := by rfl) (hs : starEach [a] X.env = (false, eval a X.env) :: starEach [] X.env := by rfl) : EV X na (.Call (.Name "min" p) [a] [] pos) sl cs (.val (.int (minL ns))) cs1 :=
  ev_callB (cr_min hc) (by decide +kernel) hg hm (av_cons ha av_nil hs) (rc1 fun B G ps' H v hn2 C r1 Q q => by
    obtain ⟨l, vs, rfl, h1, h2⟩ := hl.sq C r1
    have e : vs = ns.map V.int := Reps.ints (Reps.ofVs h2)
    subst e
    refine ⟨l, ns, rfl, h1, List.length_pos_iff.mpr hn, fun m hm1 hm2 => ?_⟩
    obtain ⟨g1, g2⟩ := minL_is hn
    have : m = minL ns := Int.le_antisymm (hm2 _ g1) (g2 _ hm1)
    subst this
    exact q _ G ps' H C (Up.refl _ _) (Rep.int _)) (by decide) (by decide) hs
theorem ev_maxL {ns : List Int} (hm : X.mg "max" = none) (ha : EV X na a sl cs s cs1) (hl : IsL cs1 s ((ns.map PyData.int).map SV.val)) (hn : ns ≠ []) (hc : X.calm = true := by rfl) (hg : Gl X "max" := by rfl) (hs : starEach [a] X.env = (false, eval a X.env) :: starEach [] X.env := by rfl) : EV X na (.Call (.Name "max" p) [a] [] pos) sl cs (.val (.int (maxL ns))) cs1 :=
  ev_callB (cr_max hc) (by decide +kernel) hg hm (av_cons ha av_nil hs) (rc1 fun B G ps' H v hn2 C r1 Q q => by
    obtain ⟨l, vs, rfl, h1, h2⟩ := hl.sq C r1
    have e : vs = ns.map V.int := Reps.ints (Reps.ofVs h2)
    subst e
    refine ⟨l, ns, rfl, h1, List.length_pos_iff.mpr hn, fun m hm1 hm2 => ?_⟩
    obtain ⟨g1, g2⟩ := maxL_is hn
    have : m = maxL ns := Int.le_antisymm (g2 _ hm1) (hm2 _ g1)
    subst this
    exact q _ G ps' H C (Up.refl _ _) (Rep.int _)) (by decide) (by decide) hs
end
end DL
namespace DL
open PySem PySem.Spec PyProof.Rows L2
/-! ### texts -/
theorem ixD_bd {xs : List Int} {lo hi i : Int} (h : ∀ x ∈ xs, lo ≤ x ∧ x ≤ hi) (h0 : 0 ≤ i) (h1 : i < xs.length) : lo ≤ ixD xs i ∧ ixD xs i ≤ hi := h _ (ixD_mem h0 h1)
theorem ixD_bdS {xs : List Str} {lo hi : Nat} {i : Int} (h : ∀ x ∈ xs, lo ≤ x.length ∧ x.length ≤ hi) (h0 : 0 ≤ i) (h1 : i < xs.length) : lo ≤ (ixD xs i).length ∧ (ixD xs i).length ≤ hi := h _ (ixD_mem h0 h1)
/-- x n times -/
def strRep (x : Str) (n : Int) : Str := ⟨(List.replicate n.toNat x.cps).foldl (· ++ ·) #[]⟩
theorem fold_size (a : Array Nat) : ∀ (n : Nat) (acc : Array Nat), ((List.replicate n a).foldl (· ++ ·) acc).size = acc.size + n * a.size
  | 0, acc => by simp
  | n + 1, acc => by
    rw [List.replicate_succ, List.foldl_cons, fold_size a n, Array.size_append, Nat.add_mul]
    omega
theorem strRep_len (x : Str) (n : Int) : (strRep x n).length = n.toNat * x.length := by
  show ((List.replicate n.toNat x.cps).foldl (· ++ ·) #[]).size = n.toNat * x.cps.size
  rw [fold_size]
  simp
theorem op_mulS {X : Cx} : OpR X (binaryOp .Mult) (fun x y H Q => ∃ (z : Str) (k : Int), x = .str z ∧ y = .int k ∧ 2 ≤ k ∧ k ≤ 100 ∧ 0 < z.length ∧ z.length ≤ 1000 ∧ Q (.str (strRep z k)) H) := by
  intro pins s σ H x y v u Q I rx ry h
  obtain ⟨z, k, rfl, rfl, h1, h2, h3, h4, q⟩ := h
  obtain ⟨t, rfl⟩ := rx
  obtain ⟨t', rfl⟩ := ry
  have hk1 : ¬ k < 1 := by omega
  have hk2 : (k == 1 || z.length == 0) = false := by
    rw [Bool.or_eq_false_iff, beq_eq_false_iff_ne, beq_eq_false_iff_ne]
    omega
  refine PySem.P.mul_str (by rw [Bool.or_eq_false_iff, decide_eq_false_iff_not, decide_eq_false_iff_not]; omega) (fun _ _ => ?_) (fun _ _ => ?_) ?_
  · have : (2 ^ 63 - 1 : Int) / k ≥ (2 ^ 63 - 1) / 100 := Int.le_ediv_of_mul_le (by omega) (by
      have : (2 ^ 63 - 1 : Int) / 100 * k ≤ (2 ^ 63 - 1) / 100 * 100 := Int.mul_le_mul_of_nonneg_left h2 (by decide)
      omega)
    have e : (2 ^ 63 - 1 : Int) / 100 = 92233720368547758 := by decide
    omega
  · have : z.length * k.toNat ≤ 1000 * 100 := Nat.mul_le_mul h4 (by omega)
    exact decide_eq_false (by rw [sizeLine_eq]; omega)
  · rw [if_neg hk1, if_neg (by rw [hk2]; decide)]
    have hlen : (strRep z k).length ≤ sizeLine := by
      have : k.toNat * z.length ≤ 100 * 1000 := Nat.mul_le_mul (by omega) h4
      rw [strRep_len, sizeLine_eq]
      omega
    exact ⟨hlen, ⟨.str (strRep z k), H, I.tok _, ⟨_, rfl⟩, q⟩⟩
theorem lt_cps_asymm {a b : Str} (h1 : ltCps b.cps.toList a.cps.toList = false) (h2 : ltCps a.cps.toList b.cps.toList = false) : a = b := by
  rw [ltCps_eq, decide_eq_false_iff_not] at h1 h2
  have : a.cps.toList = b.cps.toList := List.le_antisymm (List.not_lt.mp h1) (List.not_lt.mp h2)
  cases a
  cases b
  congr 1
  exact Array.ext' this
def leS (a b : Str) : Bool := !ltCps b.cps.toList a.cps.toList
theorem leS_iff {a b : Str} : leS a b = true ↔ a.cps.toList ≤ b.cps.toList := by
  unfold leS
  rw [ltCps_eq, Bool.not_eq_true', decide_eq_false_iff_not]
  exact List.not_lt
theorem leS_trans {a b c : Str} (h1 : leS a b = true) (h2 : leS b c = true) : leS a c = true := leS_iff.mpr (List.le_trans (leS_iff.mp h1) (leS_iff.mp h2))
theorem leS_anti {a b : Str} (h1 : leS a b = true) (h2 : leS b a = true) : a = b := by
  have e := List.le_antisymm (leS_iff.mp h1) (leS_iff.mp h2)
  cases a
  cases b
  congr 1
  exact Array.ext' e
theorem leS_total (a b : Str) : (leS a b || leS b a) = true := by
  rw [Bool.or_eq_true, leS_iff, leS_iff]
  exact List.le_total _ _
def sortS (ks : List Str) : List Str := ks.mergeSort leS
theorem sortS_perm (ks : List Str) : (sortS ks).Perm ks := List.mergeSort_perm ks _
theorem sortS_srt (ks : List Str) : (sortS ks).Pairwise fun a b => leS a b = true := List.pairwise_mergeSort (le := leS) (fun _ _ _ => leS_trans) leS_total ks
theorem sortS_len (ks : List Str) : (sortS ks).length = ks.length := (sortS_perm ks).length_eq
theorem rising_pw : ∀ (p : Str) (l : List Str), risingS p l = true → (p :: l).Pairwise fun a b => leS a b = true
  | p, [], _ => List.pairwise_singleton _ _
  | p, x :: r, h => by
    have h' : (!ltCps x.cps.toList p.cps.toList && risingS x r) = true := h
    rw [Bool.and_eq_true] at h'
    have ih := rising_pw x r h'.2
    refine List.pairwise_cons.mpr ⟨fun y hy => ?_, ih⟩
    rcases List.mem_cons.mp hy with z | z
    · subst z
      exact h'.1
    · exact leS_trans h'.1 ((List.pairwise_cons.mp ih).1 y z)
theorem sortedS_pw : ∀ {l : List Str}, sortedS l = true → l.Pairwise fun a b => leS a b = true
  | [], _ => List.Pairwise.nil
  | x :: r, h => rising_pw x r h
theorem sortS_uniq {ks ys : List Str} (p : ys.Perm ks) (h : sortedS ys = true) : ys = sortS ks :=
  perm_sorted (le := fun a b => leS a b = true) (fun _ _ => leS_anti) (p.trans (sortS_perm ks).symm) (sortedS_pw h) (sortS_srt ks)
section
variable {X : Cx} {na : NA} {sl sl' : Sl} {cs cs1 cs2 cs3 : Cs} {s t u : SV} {pos spos p : Pos} {x : Str} {E : DEnds} {N : List Str} {a b : Expr} {tg iter : Expr}
theorem ev_mulS {z : Str} {k : Int} (ha : EV X na a sl cs (.val (.str z)) cs1) (hb : EV X na b sl cs1 (.val (.int k)) cs2) (h : 2 ≤ k ∧ k ≤ 100) (hz : 0 < z.length ∧ z.length ≤ 1000) : EV X na (.BinOp a .Mult b pos) sl cs (.val (.str (strRep z k))) cs2 :=
  ev_op op_mulS ha hb fun B G ps H v w hn C h1 h2 Q q => ⟨z, k, Rep.strI h1, Rep.intI h2, h.1, h.2, hz.1, hz.2, q _ G ps H C (Up.refl _ _) (Rep.str _)⟩
theorem ev_addS {y z : Str} (ha : EV X na a sl cs (.val (.str y)) cs1) (hb : EV X na b sl cs1 (.val (.str z)) cs2) (h : y.length + z.length ≤ 1000000) : EV X na (.BinOp a .Add b pos) sl cs (.val (.str (y ++ z))) cs2 :=
  ev_op op_add_str ha hb fun B G ps H v w hn C h1 h2 Q q => ⟨y, z, Rep.strI h1, Rep.strI h2, by rw [sizeLine_eq]; omega, q _ G ps H C (Up.refl _ _) (Rep.str _)⟩
def chS (z : Str) (i : Int) : Str := ⟨#[(L2.atI z.cps.toList i).getD 0]⟩
theorem ev_ixS {z : Str} {i : Int} (ha : EV X na a sl cs (.val (.str z)) cs1) (hb : EV X na b sl cs1 (.val (.int i)) cs2) (h : 0 ≤ i ∧ i < z.length) (hz : z.length ≤ 1000000) (hs : PlainIx b := by exact fun _ _ => rfl) : EV X na (.Subscript a b pos) sl cs (.val (.str (chS z i))) cs2 :=
  ev_of (pe_ix ix_str pe_any pe_any hs) (de_op ha hb fun B G ps H v w hn C r1 r2 Q q => by
    have hl : z.cps.toList.length = z.length := Array.length_toList
    have e := at_in (xs := z.cps.toList) (i := i) (d := 0) h.1 (by rw [hl]; exact h.2)
    refine ⟨z, i, _, Rep.strI r1, Rep.intI r2, by rw [sizeLine_eq]; omega, e, ?_⟩
    have : chS z i = ⟨#[z.cps.toList.getD i.toNat 0]⟩ := by
      unfold chS
      rw [e]
      rfl
    rw [← this]
    exact q _ G ps H C (Up.refl _ _) (Rep.str _))
theorem ev_sortedDS {α : Type} {f : α → PyData} {kvs : List (Str × α)} (hm : X.mg "sorted" = none) (ha : EV X na a sl cs s cs1) (hd : IsD cs1 s (svK (kvT f kvs))) (h64 : kvs.length < 64) (hc : X.calm = true := by rfl) (hg : Gl X "sorted" := by rfl) (hs : starEach [a] X.env = (false, eval a X.env) :: starEach [] X.env := by rfl) : EV X na (.Call (.Name "sorted" p) [a] [] pos) sl cs (.val (.list ((sortS (kvs.map (·.1))).map PyData.str))) cs1 :=
  ev_callB (call_sortedD hc) (by decide +kernel) hg hm (av_cons ha av_nil hs) (rc1 fun B G ps' H v hn C r1 Q q => by
    obtain ⟨l, us, rfl, h1, h2⟩ := hd.at C r1
    refine ⟨l, us, kvs.map (·.1), rfl, .inl h1, ?_, by rw [List.length_map]; exact h64, fun ys d hp hs hd => ?_⟩
    · rw [lk_keys h2]
      unfold svK kvT
      rw [List.map_map, List.map_map, List.map_map]
      rfl
    · rw [sortS_uniq hp hs]
      exact C.newLst (Reps.ofStrs _) q d hd) (by decide) (by decide) hs
theorem s1_dputT {α : Type} {f : α → PyData} {o i v : Expr} {p2 : Pos} {n : Nat} {kvs : List (Str × α)} {k : Str} {y : α} {m : Nat} (hr : Room m X.A) (hv : EV X na v sl cs (.val (f y)) cs1) (ho : EV X na o sl cs1 (.cell n) cs1) (hi : EV X na i sl cs1 (.val (.str k)) cs1) (hc : cs1[n]? = some (.dct (svK (kvT f kvs)))) (hz : kvs.length ≤ 1000000) (nd : (kvs.map (·.1)).Nodup) (pc : PutC cs1 n (.dct (svK (kvT f (putSt kvs k y)))) cs2) (q : E.nx sl cs2)
    (hs : swapsWith v (some (.Subscript o i p2)) pos.line X.env = pure false := by rfl) : S1 X na (.Assign [.Subscript o i p2] v pos) sl cs E :=
  s1_dput hr hv ho hi hc (KeyOf.str k) (by rw [kvT_len]; exact hz) (svT_nd nd) (by rw [putS_T]; exact pc) q hs
end
theorem forL_elim {α σ ρ : Type} {mb : α → σ → (σ → ρ) → ρ} {mk : σ → ρ} {R : ρ} (J : List α → σ → Prop) (Z : Prop) : ∀ {es : List α} {s : σ}, forL mb mk es s = R → J es s →
    (∀ e rest s cont, e ∈ es → J (e :: rest) s → mb e s cont = R → (∃ s', cont s' = R ∧ J rest s') ∨ Z) → (∃ s, J [] s ∧ mk s = R) ∨ Z
  | [], s, h, hj, _ => .inl ⟨s, hj, h⟩
  | e :: es, s, h, hj, hs => by
    rcases hs e es s (forL mb mk es) List.mem_cons_self hj h with ⟨s', h', hj'⟩ | z
    · exact forL_elim J Z h' hj' fun e' rest s cont he => hs e' rest s cont (List.mem_cons_of_mem _ he)
    · exact .inr z
end DL
namespace DL
open PySem PySem.Spec PyProof.Rows L2
/-! ### dicts by ints -/
def lkI {α : Type} : List (Int × α) → Int → Option α
  | [], _ => none
  | (j, v) :: r, k => if j = k then some v else lkI r k
def putI {α : Type} : List (Int × α) → Int → α → List (Int × α)
  | [], k, v => [(k, v)]
  | (j, u) :: r, k, v => if j = k then (j, v) :: r else (j, u) :: putI r k v
def kvI {α : Type} (f : α → PyData) (ps : List (Int × α)) : List (Key × PyData) := ps.map fun p => (Sum.inl p.1, f p.2)
section
variable {α : Type} {f : α → PyData}
theorem putS_I (k : Int) (v : α) : ∀ ps : List (Int × α), putS (svK (kvI f ps)) (.inl k) (.val (f v)) = svK (kvI f (putI ps k v))
  | [] => rfl
  | (j, u) :: r => by
    show (if (Sum.inl j : Key) = .inl k then _ else _) = svK (kvI f (if j = k then (j, v) :: r else (j, u) :: putI r k v))
    by_cases h : j = k
    · rw [if_pos h, if_pos (by rw [h])]
      rfl
    · rw [if_neg h, if_neg (fun z => h (by cases z; rfl))]
      show (_ :: putS (svK (kvI f r)) (.inl k) (.val (f v))) = _
      rw [putS_I k v r]
      rfl
theorem lk_I (k : Int) : ∀ ps : List (Int × α), lkK (svK (kvI f ps)) (.inl k) = (lkI ps k).map fun a => .val (f a)
  | [] => rfl
  | (j, u) :: r => by
    show (if (Sum.inl j : Key) = .inl k then _ else lkK (svK (kvI f r)) (.inl k)) = (if j = k then some u else lkI r k).map fun a => .val (f a)
    by_cases h : j = k
    · rw [if_pos h, if_pos (by rw [h])]
      rfl
    · rw [if_neg h, if_neg (fun z => h (by cases z; rfl)), lk_I k r]
theorem putI_len (k : Int) (v : α) : ∀ ps : List (Int × α), (putI ps k v).length ≤ ps.length + 1
  | [] => Nat.le_refl _
  | (j, u) :: r => by
    show (if j = k then (j, v) :: r else (j, u) :: putI r k v).length ≤ r.length + 1 + 1
    have := putI_len k v r
    split
    · rw [List.length_cons]; omega
    · rw [List.length_cons]; omega
theorem putI_mem {k : Int} {v : α} : ∀ {ps : List (Int × α)} {q : Int × α}, q ∈ putI ps k v → q = (k, v) ∨ q ∈ ps
  | [], q, h => .inl (List.mem_singleton.mp h)
  | (j, u) :: r, q, h => by
    unfold putI at h
    by_cases e : j = k
    · rw [if_pos e] at h
      rcases List.mem_cons.mp h with z | z
      · exact .inl (by rw [z, e])
      · exact .inr (List.mem_cons_of_mem _ z)
    · rw [if_neg e] at h
      rcases List.mem_cons.mp h with z | z
      · exact .inr (by rw [z]; exact List.mem_cons_self)
      · exact (putI_mem z).imp id (List.mem_cons_of_mem _)
theorem putI_nd (k : Int) (v : α) : ∀ ps : List (Int × α), (ps.map (·.1)).Nodup → ((putI ps k v).map (·.1)).Nodup
  | [], _ => by show [k].Nodup; simp
  | (j, u) :: r, h => by
    show ((if j = k then (j, v) :: r else (j, u) :: putI r k v).map (·.1)).Nodup
    rw [List.map_cons, List.nodup_cons] at h
    split
    · rw [List.map_cons, List.nodup_cons]; exact h
    · rename_i hj
      rw [List.map_cons, List.nodup_cons]
      refine ⟨fun z => ?_, putI_nd k v r h.2⟩
      obtain ⟨q, hq, e⟩ := List.mem_map.mp z
      rcases putI_mem hq with rfl | hq
      · exact hj e.symm
      · exact h.1 (List.mem_map.mpr ⟨q, hq, e⟩)
theorem lkI_put (k : Int) (v : α) (j : Int) : ∀ ps : List (Int × α), lkI (putI ps k v) j = if k = j then some v else lkI ps j
  | [] => rfl
  | (i, u) :: r => by
    show lkI (if i = k then (i, v) :: r else (i, u) :: putI r k v) j = if k = j then some v else if i = j then some u else lkI r j
    by_cases h : i = k
    · subst h
      rw [if_pos rfl]
      show (if i = j then some v else lkI r j) = _
      by_cases e : i = j
      · rw [if_pos e, if_pos e]
      · rw [if_neg e, if_neg e, if_neg e]
    · rw [if_neg h]
      show (if i = j then some u else lkI (putI r k v) j) = _
      rw [lkI_put k v j r]
      by_cases e : i = j
      · subst e
        rw [if_pos rfl, if_neg (fun z => h z.symm), if_pos rfl]
      · rw [if_neg e, if_neg e]
theorem lkI_mem : ∀ {ps : List (Int × α)} {k : Int} {v : α}, lkI ps k = some v → (k, v) ∈ ps
  | [], _, _, h => by cases h
  | (i, u) :: r, k, v, h => by
    unfold lkI at h
    by_cases e : i = k
    · rw [if_pos e] at h
      cases h
      subst e
      exact List.mem_cons_self
    · rw [if_neg e] at h
      exact List.mem_cons_of_mem _ (lkI_mem h)
theorem lkI_some : ∀ {ps : List (Int × α)} {k : Int}, k ∈ ps.map (·.1) → (lkI ps k).isSome = true
  | [], _, h => nomatch h
  | (i, u) :: r, k, h => by
    unfold lkI
    by_cases e : i = k
    · rw [if_pos e]; rfl
    · rw [if_neg e]
      rw [List.map_cons, List.mem_cons] at h
      exact lkI_some (h.elim (fun z => (e z.symm).elim) id)
theorem kvI_len (ps : List (Int × α)) : (svK (kvI f ps)).length = ps.length := by unfold svK kvI; rw [List.length_map, List.length_map]
theorem svI_nd {ps : List (Int × α)} (h : (ps.map (·.1)).Nodup) : ((svK (kvI f ps)).map (·.1)).Nodup := by
  have e : (svK (kvI f ps)).map (·.1) = (ps.map (·.1)).map Sum.inl := by
    unfold svK kvI
    rw [List.map_map, List.map_map, List.map_map]
    rfl
  rw [e]
  exact List.Pairwise.map _ (fun a b hab z => hab (by cases z; rfl)) h
theorem lkI_at [Inhabited α] {xs : List (Int × α)} {k : Int} (h : (lkI xs k).isSome = true) : lkK (svK (kvI f xs)) (.inl k) = some (.val (f ((lkI xs k).getD default))) := by
  rw [lk_I]
  cases q : lkI xs k with
  | none => rw [q] at h; cases h
  | some a => rfl
end
section
variable {X : Cx} {na : NA} {sl sl' : Sl} {cs cs1 cs2 cs3 : Cs} {s t u : SV} {pos spos p : Pos} {x : Str} {E : DEnds} {N : List Str} {a b : Expr} {tg iter : Expr}
theorem s1_dputI {α : Type} {f : α → PyData} {o i v : Expr} {p2 : Pos} {n : Nat} {kvs : List (Int × α)} {k : Int} {y : α} {m : Nat} (hr : Room m X.A) (hv : EV X na v sl cs (.val (f y)) cs1) (ho : EV X na o sl cs1 (.cell n) cs1) (hi : EV X na i sl cs1 (.val (.int k)) cs1) (hc : cs1[n]? = some (.dct (svK (kvI f kvs)))) (hz : kvs.length ≤ 1000000) (nd : (kvs.map (·.1)).Nodup) (pc : PutC cs1 n (.dct (svK (kvI f (putI kvs k y)))) cs2) (q : E.nx sl cs2)
    (hs : swapsWith v (some (.Subscript o i p2)) pos.line X.env = pure false := by rfl) : S1 X na (.Assign [.Subscript o i p2] v pos) sl cs E :=
  s1_dput hr hv ho hi hc (KeyOf.int k) (by rw [kvI_len]; exact hz) (svI_nd nd) (by rw [putS_I]; exact pc) q hs
/-! walking a dict's keys: it is locked as long -/
theorem iv_frz {k : Nat} {od : Obj} {us : List (Key × V)} {kvs : List (Key × SV)} (h : EV X na iter sl cs (.cell k) cs1) (hl : cs1[k]? = some (.frz od us kvs)) : IV X na tg iter sl cs (kvs.map fun kv => SV.val (kD kv.1)) (fun cs' => cs'[k]? = some (.frz od us kvs)) cs1 :=
  iv_of (pi_keys pe_any) fun B G ps σ H hn C S R r => h B G ps σ H hn C S _ fun v G1 ps1 H1 C1 u1 r1 => by
    obtain ⟨a, rfl, ea, h1, h2⟩ := C1.cellAt r1 hl
    have hlen : us.length = kvs.length := Paired.length h2
    refine ⟨a, od, rfl, .inl ⟨us, h1, r _ _ _ G1 ps1 H1 C1 u1 (by rw [List.length_map, ← hlen]; exact walk_keys) (fun G' ps' cs' H' C' u' g => (C'.cell k a _ (pre_get u'.p ea) g).1.1) ?_⟩⟩
    intro i H' x H'' G' ps' cs' y C' u' g
    obtain ⟨rfl, ky, w, e, rfl⟩ := y
    obtain ⟨⟨k2, s2⟩, es, ek, _⟩ := pd_getL h2 e
    have ek : ky = k2 := ek
    subst ek
    exact ⟨.val (kD ky), G', by rw [List.getElem?_map, es]; rfl, C', Up.refl _ _, rep_key ky, Same.refl _, fun _ z => .inl z⟩
theorem iv_frzI {α : Type} {f : α → PyData} {k : Nat} {od : Obj} {us : List (Key × V)} {ps : List (Int × α)} (h : EV X na iter sl cs (.cell k) cs1) (hl : cs1[k]? = some (.frz od us (svK (kvI f ps)))) : IV X na tg iter sl cs ((ps.map (·.1)).map fun i => SV.val (.int i)) (fun cs' => cs'[k]? = some (.frz od us (svK (kvI f ps)))) cs1 := by
  have := iv_frz (tg := tg) h hl
  unfold svK kvI at this ⊢
  rw [List.map_map, List.map_map] at this
  rw [List.map_map]
  exact this
theorem iv_frzT {α : Type} {f : α → PyData} {k : Nat} {od : Obj} {us : List (Key × V)} {ps : List (Str × α)} (h : EV X na iter sl cs (.cell k) cs1) (hl : cs1[k]? = some (.frz od us (svK (kvT f ps)))) : IV X na tg iter sl cs ((ps.map (·.1)).map fun i => SV.val (.str i)) (fun cs' => cs'[k]? = some (.frz od us (svK (kvT f ps)))) cs1 := by
  have := iv_frz (tg := tg) h hl
  unfold svK kvT at this ⊢
  rw [List.map_map, List.map_map] at this
  rw [List.map_map]
  exact this
theorem s1_lock {st : Stmt} {k : Nat} {kvs : List (Key × SV)} (hk : cs[k]? = some (.dct kvs))
    (h : ∀ (od : Obj) (us : List (Key × V)), S1 X na st sl (cs.set k (.frz od us kvs)) ⟨fun sl' cs' => cs'[k]? = some (.frz od us kvs) ∧ E.nx sl' (cs'.set k (.dct kvs)), fun s cs' => cs'[k]? = some (.frz od us kvs) ∧ E.rt s (cs'.set k (.dct kvs)), fun sl' cs' => cs'[k]? = some (.frz od us kvs) ∧ E.bk sl' (cs'.set k (.dct kvs)), fun sl' cs' => cs'[k]? = some (.frz od us kvs) ∧ E.ct sl' (cs'.set k (.dct kvs))⟩) : S1 X na st sl cs E :=
  s1_of (ps_lock ps_any) fun B G ps σ H hn C S D L => by
    obtain ⟨p, ep⟩ := C.addr hk
    obtain ⟨⟨us, hH, rus⟩, hB, hG⟩ := C.cell k p _ ep hk
    refine ⟨p, .dK us, hH, trivial, fun od => ?_⟩
    have C1 : Core X.K B G ps (cs.set k (.frz od us kvs)) (upd H p (.frz od (.dK us))) := C.put ep hk (by intro z; cases z) ⟨upd_same, rus⟩
    have back : ∀ {G' : Hp} {ps' : List Addr} {cs' : Cs} {H' : Hp}, Core X.K B G' ps' cs' H' → Up G ps G' ps' → cs'[k]? = some (.frz od us kvs) → H' p = some (.frz od (.dK us)) ∧ Core X.K B G' ps' (cs'.set k (.dct kvs)) (upd H' p (.dK us)) := fun {G' ps' cs' H'} C' u' g => by
      obtain ⟨h1, _, _⟩ := C'.cell k p _ (pre_get u'.p ep) g
      exact ⟨h1.1, C'.put (pre_get u'.p ep) g (by intro z; cases z) ⟨us, upd_same, h1.2⟩⟩
    refine h od us B G ps σ _ hn C1 S _ ⟨?_, ?_, ?_, ?_⟩
    · exact fun sl' cs' G' ps' σ' H' C' u' S' ⟨g, e⟩ => ⟨(back C' u' g).1, L.nx sl' _ G' ps' σ' _ (back C' u' g).2 u' S' e⟩
    · exact fun s' cs' G' ps' v' H' C' u' r' ⟨g, e⟩ => ⟨(back C' u' g).1, L.rt s' _ G' ps' v' _ (back C' u' g).2 u' r' e⟩
    · exact fun sl' cs' G' ps' σ' H' C' u' S' ⟨g, e⟩ => ⟨(back C' u' g).1, L.bk sl' _ G' ps' σ' _ (back C' u' g).2 u' S' e⟩
    · exact fun sl' cs' G' ps' σ' H' C' u' S' ⟨g, e⟩ => ⟨(back C' u' g).1, L.ct sl' _ G' ps' σ' _ (back C' u' g).2 u' S' e⟩
/-- d[k], d locked -/
theorem ev_dgetF {kn : Nat} {od : Obj} {us : List (Key × V)} {kvs : List (Key × SV)} {kd : PyData} {k : Key} {m : Nat} (hr : Room m X.A) (ha : EV X na a sl cs (.cell kn) cs1) (hb : EV X na b sl cs1 (.val kd) cs2) (hd : cs2[kn]? = some (.frz od us kvs)) (hk : KeyOf kd k) (hl : lkK kvs k = some t) (hs : NoSl b := by exact fun _ _ => rfl) : EV X na (.Subscript a b pos) sl cs t cs2 :=
  ev_of (pe_dget (by have := hr.un; omega) pe_any pe_any hs) fun B G ps σ H hn C S Q q => ha B G ps σ H hn C S _ fun v G1 ps1 H1 C1 u1 r1 => hb B G1 ps1 σ H1 hn C1 (Slots.mono u1 S) _ fun w G2 ps2 H2 C2 u2 r2 => by
    obtain ⟨pa, rfl, ea, h1, h2⟩ := C2.cellAt (RepV.mono u2 r1) hd
    obtain ⟨z, e1, e2⟩ := lk_some h2 hl
    refine ⟨pa, z, rfl, ?_, q z G2 ps2 H2 C2 (u1.trans u2) e2⟩
    rw [hk.v r2]
    exact .inl ⟨us, k, .inr ⟨od, h1⟩, rfl, e1.symm⟩
theorem ev_extT {α : Type} {f : α → PyData} {l m : List α} {o e : Expr} {apos : Pos} {k j : Nat} {ys : List SV} (ho : EV X na o sl cs (.cell k) cs1) (he : EV X na e sl cs1 (.cell j) cs2) (hc1 : cs1[k]? = some (.lst ys)) (hc : cs2[k]? = some (.lst ((l.map f).map SV.val))) (hj : cs2[j]? = some (.lst ((m.map f).map SV.val))) (pc : PutC cs2 k (.lst (((l ++ m).map f).map SV.val)) cs3) (hz : l.length + m.length ≤ 1000000)
    (hs : starEach [e] X.env = (false, eval e X.env) :: starEach [] X.env := by rfl)
    (hbase : attributeBase o "extend" X.env (eval o X.env) = eval o X.env := by rfl) (hfew : ((backTo pos (starEach (e :: []) X.env)).all (fun x => !x.1) && (backToKw pos (keywordEach [] X.env)).all (fun x => x.1.isSome)
      && decide ((e :: []).length + ([] : List Keyword).length + (if ([] : List Keyword).isEmpty then 0 else 1) < 30)) = true := by rfl)
    (hline : (apos.endLine == pos.line) = true := by rfl) (hplain : (backTo pos (starEach [] X.env)).any (·.1) = false := by rfl) : EV X na (.Call (.Attribute o "extend" apos) [e] [] pos) sl cs (.val .none) cs3 :=
  ev_of (pe_bm PySem.F.plainAttrs_list PySem.F.slot_list_extend PySem.F.type_list_extend mt_extend pe_any pa_any hbase hfew hline hs hplain) fun B G ps σ H hn C S Q q => ho B G ps σ H hn C S _ fun v G1 ps1 H1 C1 u1 r1 => by
    obtain ⟨a, ea, rfl⟩ := r1
    obtain ⟨ws, hw, _⟩ := (C1.cell k a _ ea hc1).1
    refine ⟨.inl ⟨rfl, ws, SqL.of hw⟩, av_cons he av_nil hs B G1 ps1 σ H1 hn C1 (Slots.mono u1 S) _ fun vs G2 ps2 H2 C2 u2 r2 => ?_⟩
    cases r2 with
    | cons r3 r4 =>
      cases r4
      obtain ⟨b, eb, rfl⟩ := r3
      have ea2 := pre_get u2.p ea
      obtain ⟨zs, hz2, rz⟩ := (C2.cell k a _ ea2 hc).1
      obtain ⟨ms, hm2, rm⟩ := (C2.cell j b _ eb hj).1
      have hlz : zs.length = l.length := by rw [Paired.length rz, List.length_map, List.length_map]
      have hlm : ms.length = m.length := by rw [Paired.length rm, List.length_map, List.length_map]
      rw [List.map_append, List.map_append] at pc
      rw [pc.at] at q
      exact ⟨a, b, zs, ms, rfl, rfl, hz2, hm2, by rw [hlz, hlm, sizeLine_eq]; omega, q _ G2 ps2 _ (C2.put ea2 hc (by intro z; cases z) ⟨_, upd_same, pd_app rz rm⟩) (u1.trans u2) Rep.non⟩
end
end DL
namespace DL
open PySem PySem.Spec PyProof.Rows L2
/-! ### something or None -/
def optD {α : Type} (f : α → PyData) : Option α → PyData
  | none => .none
  | some x => f x
theorem optD_some {α : Type} [Inhabited α] {f : α → PyData} {o : Option α} (h : o.isSome = true) : SV.val (optD f o) = SV.val (f (o.getD default)) := by
  cases o with
  | none => cases h
  | some x => rfl
/-! ### each once -/
def nubL {α : Type} [DecidableEq α] : List α → List α
  | [] => []
  | a :: r => if a ∈ r then nubL r else a :: nubL r
theorem nubL_mem {α : Type} [DecidableEq α] : ∀ (l : List α) (x : α), x ∈ nubL l ↔ x ∈ l
  | [], _ => Iff.rfl
  | a :: r, x => by
    unfold nubL
    split
    · rename_i h
      rw [nubL_mem r, List.mem_cons]
      exact ⟨.inr, fun z => z.elim (fun z => z ▸ h) id⟩
    · rw [List.mem_cons, nubL_mem r, List.mem_cons]
theorem nubL_nd {α : Type} [DecidableEq α] : ∀ (l : List α), (nubL l).Nodup
  | [] => List.Pairwise.nil
  | a :: r => by
    unfold nubL
    split
    · exact nubL_nd r
    · rename_i h
      exact List.nodup_cons.mpr ⟨fun z => h ((nubL_mem r a).mp z), nubL_nd r⟩
theorem nubL_self {α : Type} [DecidableEq α] : ∀ {l : List α}, l.Nodup → nubL l = l
  | [], _ => rfl
  | a :: r, h => by
    rw [List.nodup_cons] at h
    unfold nubL
    rw [if_neg h.1, nubL_self h.2]
section
variable {X : Cx} {na : NA} {sl sl' : Sl} {cs cs1 cs2 cs3 cs4 : Cs} {s t u : SV} {pos spos p pos2 p2 : Pos} {x : Str} {E : DEnds} {N : List Str} {a b : Expr} {tg iter : Expr}
/-! ### lists -/
theorem s1_lputT {α : Type} {f : α → PyData} {o i v : Expr} {p2 : Pos} {k : Nat} {l : List α} {y : α} {z : Int} (hv : EV X na v sl cs (.val (f y)) cs1) (ho : EV X na o sl cs1 (.cell k) cs2) (hi : EV X na i sl cs2 (.val (.int z)) cs2) (hc : cs2[k]? = some (.lst ((l.map f).map SV.val))) (h0 : 0 ≤ z) (h1 : z < l.length) (pc : PutC cs2 k (.lst (((l.set z.toNat y).map f).map SV.val)) cs3) (q : E.nx sl cs3)
    (hs : swapsWithSole [.Subscript o i p2] v pos.line X.env = pure false := by rfl) (hw : swappedStores [.Subscript o i p2] v X.env = pure none := by rfl)
    (ha1 : (assignEach [.Subscript o i p2] X.env).map (·.2) = [assign (.Subscript o i p2) X.env] := by rfl)
    (ha : ∀ v, assign (.Subscript o i p2) X.env v = (do
      let ov ← holding [v] (eval o X.env)
      let iv ← holding [v, ov] (eval i X.env)
      standAt p2
      holding [v, ov, iv] (setItem ov iv v)
      release [v, ov, iv] []) := by intro _; rfl) : S1 X na (.Assign [.Subscript o i p2] v pos) sl cs E := by
  refine s1_lput (j := z.toNat) hv ho hi hc ?_ ?_ q hs hw ha1 ha
  · rw [List.length_map, List.length_map]
    unfold L2.ixN
    rw [if_pos h0, if_pos h1]
  · rw [List.map_set, List.map_set] at pc
    exact pc
theorem ev_popT {α : Type} [Inhabited α] {f : α → PyData} {l : List α} {o e : Expr} {apos : Pos} {k : Nat} {z : Int} {ys : List SV} (ho : EV X na o sl cs (.cell k) cs1) (he : EV X na e sl cs1 (.val (.int z)) cs2) (hc1 : cs1[k]? = some (.lst ys)) (hc : cs2[k]? = some (.lst ((l.map f).map SV.val))) (h0 : 0 ≤ z) (h1 : z < l.length) (hl : l.length ≤ 1000000) (pc : PutC cs2 k (.lst (((l.eraseIdx z.toNat).map f).map SV.val)) cs3)
    (hs : starEach [e] X.env = (false, eval e X.env) :: starEach [] X.env := by rfl)
    (hbase : attributeBase o "pop" X.env (eval o X.env) = eval o X.env := by rfl) (hfew : ((backTo pos (starEach (e :: []) X.env)).all (fun x => !x.1) && (backToKw pos (keywordEach [] X.env)).all (fun x => x.1.isSome)
      && decide ((e :: []).length + ([] : List Keyword).length + (if ([] : List Keyword).isEmpty then 0 else 1) < 30)) = true := by rfl)
    (hline : (apos.endLine == pos.line) = true := by rfl) (hplain : (backTo pos (starEach [] X.env)).any (·.1) = false := by rfl) : EV X na (.Call (.Attribute o "pop" apos) [e] [] pos) sl cs (.val (f (ixD l z))) cs3 :=
  ev_of (pe_bm PySem.F.plainAttrs_list PySem.F.slot_list_pop PySem.F.type_list_pop mt_popAt pe_any pa_any hbase hfew hline hs hplain) fun B G ps σ H hn C S Q q => ho B G ps σ H hn C S _ fun v G1 ps1 H1 C1 u1 r1 => by
    obtain ⟨ad, ea, rfl⟩ := r1
    obtain ⟨ws, hw, _⟩ := (C1.cell k ad _ ea hc1).1
    refine ⟨.inl ⟨rfl, ws, SqL.of hw⟩, av_cons he av_nil hs B G1 ps1 σ H1 hn C1 (Slots.mono u1 S) _ fun vs G2 ps2 H2 C2 u2 r2 => ?_⟩
    cases r2 with
    | cons r3 r4 =>
      cases r4
      cases (r3 : Rep _ _ _ _)
      have ea2 := pre_get u2.p ea
      obtain ⟨zs, hz2, rz⟩ := (C2.cell k ad _ ea2 hc).1
      have hlz : zs.length = l.length := by rw [Paired.length rz, List.length_map, List.length_map]
      have hlt : z.toNat < l.length := by omega
      obtain ⟨y, ey, ry⟩ := pd_get rz (show ((l.map f).map SV.val)[z.toNat]? = some (.val (f l[z.toNat])) by rw [List.getElem?_map, List.getElem?_map, List.getElem?_eq_getElem hlt]; rfl)
      have eix : ixD l z = l[z.toNat] := by
        rw [ixD_eq h0 h1, List.getD_eq_getElem?_getD, List.getElem?_eq_getElem hlt]
        rfl
      rw [pc.at] at q
      rw [eix] at q
      have rz2 : RepVs X.K G2 ps2 (zs.eraseIdx z.toNat) (((l.eraseIdx z.toNat).map f).map SV.val) := by
        rw [List.eraseIdx_eq_take_drop_succ, List.eraseIdx_eq_take_drop_succ, List.map_append, List.map_append, List.map_take, List.map_drop, List.map_take, List.map_drop]
        exact pd_app (pd_take _ rz) (pd_drop _ rz)
      refine ⟨ad, zs, z, z.toNat, y, rfl, rfl, hz2, by omega, by omega, by rw [seqIndex_of h0 (by rw [hlz]; exact h1)], ey, ?_⟩
      exact q _ G2 ps2 _ (C2.put ea2 hc (by intro z; cases z) ⟨_, upd_same, rz2⟩) (u1.trans u2) ry
theorem ev_insT {α : Type} {f : α → PyData} {l : List α} {y : α} {o e d : Expr} {apos : Pos} {k : Nat} {z : Int} {ys : List SV} (ho : EV X na o sl cs (.cell k) cs1) (he : EV X na e sl cs1 (.val (.int z)) cs2) (hd : EV X na d sl cs2 (.val (f y)) cs3) (hc1 : cs1[k]? = some (.lst ys)) (hc : cs3[k]? = some (.lst ((l.map f).map SV.val))) (h0 : 0 ≤ z) (h1 : z ≤ l.length) (hl : l.length ≤ 1000000) (pc : PutC cs3 k (.lst (((l.take z.toNat ++ [y] ++ l.drop z.toNat).map f).map SV.val)) cs4)
    (hs : starEach [e, d] X.env = (false, eval e X.env) :: starEach [d] X.env := by rfl) (hs2 : starEach [d] X.env = (false, eval d X.env) :: starEach [] X.env := by rfl)
    (hbase : attributeBase o "insert" X.env (eval o X.env) = eval o X.env := by rfl) (hfew : ((backTo pos (starEach (e :: [d]) X.env)).all (fun x => !x.1) && (backToKw pos (keywordEach [] X.env)).all (fun x => x.1.isSome)
      && decide ((e :: [d]).length + ([] : List Keyword).length + (if ([] : List Keyword).isEmpty then 0 else 1) < 30)) = true := by rfl)
    (hline : (apos.endLine == pos.line) = true := by rfl) (hplain : (backTo pos (starEach [d] X.env)).any (·.1) = false := by rfl) : EV X na (.Call (.Attribute o "insert" apos) [e, d] [] pos) sl cs (.val .none) cs4 :=
  ev_of (pe_bm PySem.F.plainAttrs_list PySem.F.slot_list_insert PySem.F.type_list_insert mt_insert pe_any pa_any hbase hfew hline hs hplain) fun B G ps σ H hn C S Q q => ho B G ps σ H hn C S _ fun v G1 ps1 H1 C1 u1 r1 => by
    obtain ⟨ad, ea, rfl⟩ := r1
    obtain ⟨ws, hw, _⟩ := (C1.cell k ad _ ea hc1).1
    refine ⟨.inl ⟨rfl, ws, SqL.of hw⟩, av_cons he (av_cons hd av_nil hs2) hs B G1 ps1 σ H1 hn C1 (Slots.mono u1 S) _ fun vs G2 ps2 H2 C2 u2 r2 => ?_⟩
    cases r2 with
    | cons r3 r4 =>
      cases r4 with
      | cons r5 r6 =>
        cases r6
        cases (r3 : Rep _ _ _ _)
        have ea2 := pre_get u2.p ea
        obtain ⟨zs, hz2, rz⟩ := (C2.cell k ad _ ea2 hc).1
        have hlz : zs.length = l.length := by rw [Paired.length rz, List.length_map, List.length_map]
        rw [pc.at] at q
        refine ⟨ad, zs, z, _, rfl, rfl, hz2, by rw [hlz, sizeLine_eq]; omega, h0, by omega, ?_⟩
        refine q _ G2 ps2 _ (C2.put ea2 hc (by intro z; cases z) ⟨_, upd_same, ?_⟩) (u1.trans u2) Rep.non
        rw [List.map_append, List.map_append, List.map_append, List.map_append, List.map_take, List.map_drop, List.map_take, List.map_drop]
        exact pd_app (pd_app (pd_take _ rz) (.cons r5 .nil)) (pd_drop _ rz)
end
end DL
namespace DL
open PySem PySem.Spec PyProof.Rows L2
/-- when equality of data is equality -/
def EqvIs {α : Type} [DecidableEq α] (f : α → PyData) : Prop := ∀ a b, PyData.eqv (f a) (f b) = decide (a = b)
theorem eqv_int : EqvIs PyData.int := fun a b => by
  show (a == b) = decide (a = b)
  rw [Bool.eq_iff_iff, beq_iff_eq, decide_eq_true_eq]
theorem eqv_str : EqvIs PyData.str := fun a b => by
  show (a == b) = decide (a = b)
  rw [Bool.eq_iff_iff, beq_iff_eq, decide_eq_true_eq]
abbrev tieD (q : Int × Int × Int) : PyData := .tuple [.int q.1, .int q.2.1, .int q.2.2]
theorem eqv_tie : EqvIs tieD := fun a b => by
  have e : PyData.eqv (tieD a) (tieD b) = ((a.1 == b.1) && ((a.2.1 == b.2.1) && ((a.2.2 == b.2.2) && true))) := by simp [tieD, PyData.eqv, PyData.eqvAll]
  rw [e, Bool.eq_iff_iff, decide_eq_true_eq, Bool.and_eq_true, Bool.and_eq_true, Bool.and_eq_true, beq_iff_eq, beq_iff_eq, beq_iff_eq]
  constructor
  · rintro ⟨h1, h2, h3, _⟩
    exact Prod.ext h1 (Prod.ext h2 h3)
  · rintro rfl
    exact ⟨rfl, rfl, rfl, rfl⟩
theorem any_is {α : Type} [DecidableEq α] {f : α → PyData} (h : EqvIs f) (y : α) (l : List α) : ((l.map f).any fun z => PyData.eqv z (f y)) = decide (y ∈ l) := by
  rw [List.any_map, Bool.eq_iff_iff, List.any_eq_true, decide_eq_true_eq]
  constructor
  · rintro ⟨z, hz, e⟩
    have e : PyData.eqv (f z) (f y) = true := e
    rw [h, decide_eq_true_eq] at e
    exact e ▸ hz
  · intro hy
    exact ⟨y, hy, by show PyData.eqv (f y) (f y) = true; rw [h]; exact decide_eq_true rfl⟩
section
variable {X : Cx} {na : NA} {sl sl' : Sl} {cs cs1 cs2 cs3 cs4 : Cs} {s t u : SV} {pos spos p pos2 p2 p3 p4 : Pos} {x : Str} {E : DEnds} {N : List Str} {a b : Expr} {tg iter : Expr}
theorem rep_one {α : Type} (n : Nat) (x : α) : (List.replicate n [x]).flatten = List.replicate n x := by
  induction n with
  | zero => rfl
  | succ n ih => rw [List.replicate_succ, List.flatten_cons, ih]; rfl
/-- [y] * n: a new cell -/
theorem ev_repT {α : Type} {f : α → PyData} {y : α} {n : Int} {j m : Nat} (ha : EV X na a sl cs (.cell j) cs1) (hb : EV X na b sl cs1 (.val (.int n)) cs2) (hc : cs2[j]? = some (.lst [.val (f y)])) (h0 : 0 ≤ n) (h1 : n ≤ 1000000) (ac : AppC cs2 (.lst (((List.replicate n.toNat y).map f).map SV.val)) m cs3) : EV X na (.BinOp a .Mult b pos) sl cs (.cell m) cs3 :=
  ev_op op_rep ha hb fun B G ps H v w hn C r1 r2 Q q => by
    obtain ⟨pa, ea, rfl⟩ := r1
    obtain ⟨ws, hw, rw'⟩ := (C.cell j pa _ ea hc).1
    have hl : ws.length = 1 := Paired.length rw'
    refine ⟨pa, n, ws, rfl, Rep.intI r2, hw, by omega, by omega, by rw [hl, sizeLine_eq]; omega, ?_⟩
    match ws, hl, rw', hw with
    | [w0], _, .cons r0 .nil, _ =>
      refine C.newCell ac (fun q hq => ⟨_, upd_same, ?_⟩) fun v' G' ps' H' C' u' r' => q v' G' ps' H' C' u' r'
      rw [rep_one, List.map_replicate, List.map_replicate]
      have r1 : RepV X.K G (ps ++ [q]) w0 (.val (f y)) := RepV.mono ⟨Same.refl _, List.prefix_append _ _⟩ r0
      generalize n.toNat = k
      induction k with
      | zero => exact .nil
      | succ k ih => exact .cons r1 ih
/-- xs[:k] -/
theorem ev_slTo {ds : List PyData} {k : Int} (ha : EV X na a sl cs s cs1) (hb : EV X na b sl cs1 (.val (.int k)) cs2) (hl : IsL cs2 s (ds.map SV.val)) (h0 : 0 ≤ k) (h1 : k ≤ ds.length) : EV X na (.Subscript a (.Slice none (some b) none p2) pos) sl cs (.val (.list (ds.take k.toNat))) cs2 :=
  ev_of (pe_slice sl_list pe_any po_none (po_some pe_any)) fun B G ps σ H hn C S Q q => ha B G ps σ H hn C S _ fun v G1 ps1 H1 C1 u1 r1 => hb B G1 ps1 σ H1 hn C1 (Slots.mono u1 S) _ fun w G2 ps2 H2 C2 u2 r2 => by
    obtain ⟨l, vs, rfl, h3, h2⟩ := hl.sq C2 (RepV.mono u2 r1)
    have k1 := Reps.ofVs h2
    have hlen : vs.length = ds.length := k1.length
    have e : cutV vs none (some k) = vs.take k.toNat := by
      have hk : k = ((k.toNat : Nat) : Int) := by omega
      unfold cutV
      rw [HT.sIx_none, hk, HT.sIx_nat, Nat.min_eq_left (by omega), List.drop_zero, Nat.sub_zero]
      rfl
    refine ⟨k, Rep.intI r2, l, vs, rfl, h3, ?_⟩
    rw [e]
    exact C2.newLst (Reps.take _ k1) fun v G3 ps3 H3 C3 u3 => q v G3 ps3 H3 C3 ((u1.trans u2).trans u3)
/-- xs[k:] -/
theorem ev_slFr {ds : List PyData} {k : Int} (ha : EV X na a sl cs s cs1) (hb : EV X na b sl cs1 (.val (.int k)) cs2) (hl : IsL cs2 s (ds.map SV.val)) (h0 : 0 ≤ k) : EV X na (.Subscript a (.Slice (some b) none none p2) pos) sl cs (.val (.list (ds.drop k.toNat))) cs2 := by
  have hk : k = ((k.toNat : Nat) : Int) := by omega
  rw [hk] at hb
  exact ev_slFrom ha hb hl p2
/-- xs[::-1] -/
theorem ev_slRev {ds : List PyData} {k : Nat} (ha : EV X na a sl cs s cs1) (hl : IsL cs1 s (ds.map SV.val)) : EV X na (.Subscript a (.Slice none none (some (.UnaryOp .USub (.Constant (.int 1) k p2) p3)) p4) pos) sl cs (.val (.list ds.reverse)) cs1 :=
  ev_of (pe_revL pe_any) fun B G ps σ H hn C S Q q => ha B G ps σ H hn C S _ fun v G1 ps1 H1 C1 u1 r1 => by
    obtain ⟨l, vs, rfl, h3, h2⟩ := hl.sq C1 r1
    exact ⟨l, vs, rfl, h3, C1.newLst (Reps.reverse (Reps.ofVs h2)) fun v G3 ps3 H3 C3 u3 => q v G3 ps3 H3 C3 (u1.trans u3)⟩
/-- x in xs, deep -/
theorem room_65 {A : Around} {k : Nat} (hr : Room k A) : A.units + 65 < cLine := by have := hr.un; omega
theorem rv_inD {K : PySem.W.Frag} {d : PyData} {ds : List PyData} (hd : IsDat cs s d) (he : IsDat cs t (.list ds)) (sd : SeqAt.shaped d = true) (se : SeqAt.shaped (.list ds) = true) : RV K na (rInD K) s t cs (.val (.bool (ds.any fun z => PyData.eqv z d))) cs := fun B G ps H v w hn C r1 r2 Q q =>
  ⟨d, ds, IsDat.dp C r1 hd (SeqAt.canLay_of_shaped sd), IsDat.dp C r2 he (SeqAt.canLay_of_shaped se), sd, se, q _ G ps H C (Up.refl _ _) (Rep.bl _)⟩
theorem rv_ninD {K : PySem.W.Frag} {d : PyData} {ds : List PyData} (hd : IsDat cs s d) (he : IsDat cs t (.list ds)) (sd : SeqAt.shaped d = true) (se : SeqAt.shaped (.list ds) = true) : RV K na (rNotInD K) s t cs (.val (.bool (!ds.any fun z => PyData.eqv z d))) cs := fun B G ps H v w hn C r1 r2 Q q =>
  ⟨d, ds, IsDat.dp C r1 hd (SeqAt.canLay_of_shaped sd), IsDat.dp C r2 he (SeqAt.canLay_of_shaped se), sd, se, q _ G ps H C (Up.refl _ _) (Rep.bl _)⟩
theorem tv_inT {α : Type} [DecidableEq α] {f : α → PyData} {y : α} {l : List α} {k : Nat} (hr : Room k X.A) (ha : EV X na a sl cs (.val (f y)) cs1) (hb : EV X na b sl cs1 (.val (.list (l.map f))) cs2) (h : EqvIs f) (sd : SeqAt.shaped (f y) = true) (se : SeqAt.shaped (.list (l.map f)) = true) (hm : behindInMarks .In b = false := by rfl) : TV X na (.Compare a [.In] [b] pos) sl cs (decide (y ∈ l)) cs2 := by
  have := tv_cmp (pos := pos) (op_inD (room_65 hr)) hm ha hb (rv_inD IsDat.val IsDat.val sd se)
  rwa [any_is h] at this
theorem tv_ninT {α : Type} [DecidableEq α] {f : α → PyData} {y : α} {l : List α} {k : Nat} (hr : Room k X.A) (ha : EV X na a sl cs (.val (f y)) cs1) (hb : EV X na b sl cs1 (.val (.list (l.map f))) cs2) (h : EqvIs f) (sd : SeqAt.shaped (f y) = true) (se : SeqAt.shaped (.list (l.map f)) = true) (hm : behindInMarks .NotIn b = false := by rfl) : TV X na (.Compare a [.NotIn] [b] pos) sl cs (!decide (y ∈ l)) cs2 := by
  have := tv_cmp (pos := pos) (op_notInD (room_65 hr)) hm ha hb (rv_ninD IsDat.val IsDat.val sd se)
  rwa [any_is h] at this
theorem dk_list {α : Type} {f : α → PyData} {n : Nat} (hn : n + 1 ≤ 60) (h : ∀ x, dkD n (f x) = true) (l : List α) : SeqAt.shaped (.list (l.map f)) = true := by
  refine dk_shaped (n := n + 1) ?_ hn
  show (l.map f).all (dkD n) = true
  rw [List.all_eq_true]
  intro d hd
  obtain ⟨x, _, rfl⟩ := List.mem_map.mp hd
  exact h x
/-! len(set(xs)), xs a list of ties -/
def rLenTO (K : PySem.W.Frag) (P : Program) (w : World) : List V → Hp → VK → Prop := fun vs H Q => ∃ (a : Addr) (L : List (Addr × List Int)), vs = [V.ref a] ∧ H a = some (SetTO P w a L) ∧ (∀ p ∈ L, SqT K H p.1 (p.2.map V.int)) ∧ ((L.map (·.2)).Nodup → Q (.int (L.length : Nat)) H)
theorem cr_lenTO : CallR X (.builtin "len") (rLenTO X.K X.prog X.w) := by
  intro pins s σ H vs us Q I r h
  obtain ⟨a, L, rfl, ha, hk, q⟩ := h
  have R0 : SetT0 X.prog X.w s.heap a L := (I.hok a _ ha).1
  obtain ⟨es, ep, t, R⟩ := R0.full fun p hp => I.isT (hk p hp)
  obtain ⟨o, ho, hex, hd⟩ := R.ob
  have hsz : es.size = L.length := R.size
  have few := R.few
  rw [Vals.ref1 r]
  exact call_len_set ho hex hd R.fits (by rw [hsz]; omega) ⟨.int (L.length : Nat), H, I.tok _, ⟨_, by rw [hsz]⟩, q R.nd⟩
def tie3 (q : Int × Int × Int) : List Int := [q.1, q.2.1, q.2.2]
theorem reps_ties {K : PySem.W.Frag} {G : Hp} : ∀ {vs : List V} {l : List (Int × Int × Int)}, Reps K G vs (l.map tieD) → ∃ ks : List (Addr × List Int), vs = ks.map (fun p => V.ref p.1) ∧ ks.map (·.2) = l.map tie3 ∧ ∀ p ∈ ks, SqT K G p.1 (p.2.map V.int)
  | _, [], h => by cases h; exact ⟨[], rfl, rfl, fun _ h => nomatch h⟩
  | _, q :: l, h => by
    cases h with
    | cons r rr =>
      obtain ⟨ks, h1, h2, h3⟩ := reps_ties rr
      obtain ⟨a, ws, rfl, g1, g2⟩ := Rep.tupI r
      have e : ws = (tie3 q).map V.int := Reps.ints (ns := tie3 q) g2
      subst e
      refine ⟨(a, tie3 q) :: ks, by rw [h1]; rfl, by rw [List.map_cons, h2]; rfl, fun p hp => ?_⟩
      rcases List.mem_cons.mp hp with rfl | hp
      · exact g1
      · exact h3 p hp
theorem tie3_inj {a b : Int × Int × Int} (h : tie3 a = tie3 b) : a = b := by
  unfold tie3 at h
  injection h with h1 h2
  injection h2 with h2 h3
  injection h3 with h3 _
  exact Prod.ext h1 (Prod.ext h2 h3)
theorem nub_count {l : List (Int × Int × Int)} {L : List (List Int)} (nd : L.Nodup) (h1 : ∀ x ∈ L, x ∈ l.map tie3) (h2 : ∀ x ∈ l.map tie3, x ∈ L) : L.length = (nubL l).length := by
  have nd2 : ((nubL l).map tie3).Nodup := List.Pairwise.map _ (fun a b hab z => hab (tie3_inj z)) (nubL_nd l)
  have p : L.Perm ((nubL l).map tie3) := (List.perm_ext_iff_of_nodup nd nd2).mpr fun x => by
    constructor
    · intro hx
      obtain ⟨q, hq, e⟩ := List.mem_map.mp (h1 x hx)
      exact List.mem_map.mpr ⟨q, (nubL_mem l q).mpr hq, e⟩
    · intro hx
      obtain ⟨q, hq, e⟩ := List.mem_map.mp hx
      exact h2 x (List.mem_map.mpr ⟨q, (nubL_mem l q).mp hq, e⟩)
  rw [p.length_eq, List.length_map]
theorem ev_lenSet {l : List (Int × Int × Int)} {k : Nat} (hr : Room k X.A) (hm : X.mg "len" = none) (hm2 : X.mg "set" = none) (ha : EV X na a sl cs s cs1) (hl : IsL cs1 s ((l.map tieD).map SV.val)) (few : l.length < 64) (hc : X.calm = true := by rfl) (hg : Gl X "len" := by rfl) (hg2 : Gl X "set" := by rfl)
    (hs : starEach [a] X.env = (false, eval a X.env) :: starEach [] X.env := by rfl) (hs2 : starEach [.Call (.Name "set" p2) [a] [] pos2] X.env = (false, eval (.Call (.Name "set" p2) [a] [] pos2) X.env) :: starEach [] X.env := by rfl)
    (hpl : (backTo pos2 (starEach [] X.env)).any (·.1) = false := by rfl) (hpl2 : (backTo pos (starEach [] X.env)).any (·.1) = false := by rfl) :
    EV X na (.Call (.Name "len" p) [.Call (.Name "set" p2) [a] [] pos2] [] pos) sl cs (.val (.int ((nubL l).length : Nat))) cs1 := by
  have hu : X.A.units + 64 < cLine := by have := room_65 hr; omega
  have inner : PE X (.Call (.Name "set" p2) [a] [] pos2) (tCB (rSetOfT X.K X.prog X.w) (tCons (anyE X a) tNil)) := pe_callTy (cr_setOfT hc hu) hg2 hm2 (by decide +kernel) (pa_cons pe_any pa_nil hs) (by decide) (by decide) hs hpl
  refine ev_of (pe_callB cr_lenTO hg hm (by decide +kernel) (pa_cons inner pa_nil hs2) (by decide) (by decide) hs2 hpl2) fun B G ps σ H hn C S Q q => ?_
  refine ha B G ps σ H hn C S _ fun v G1 ps1 H1 C1 u1 r1 => ?_
  obtain ⟨ad, vs, rfl, h1, h2⟩ := hl.sq C1 r1
  obtain ⟨ks, e1, e2, h3⟩ := reps_ties (Reps.ofVs h2)
  subst e1
  have hlen : ks.length = l.length := by have := congrArg List.length e2; rwa [List.length_map, List.length_map] at this
  refine ⟨ad, ks, rfl, h1, fun p hp => Same.seqT C1.gh (h3 p hp), by omega, fun b L hb sub all => ?_⟩
  have C2 := C1.alloc (SetTO X.prog X.w b L) hb
  have u2 : Up G1 ps1 (upd G1 b (SetTO X.prog X.w b L)) ps1 := ⟨Same.new (C1.freeG hb), List.prefix_refl _⟩
  refine ⟨b, L, rfl, upd_same, fun p hp => Same.seqT C2.gh (Same.seqT u2.s (h3 p (sub p hp))), fun nd => ?_⟩
  have hcount : L.length = (nubL l).length := by
    have := nub_count (l := l) nd (fun x hx => by
      obtain ⟨p, hp, e⟩ := List.mem_map.mp hx
      rw [← e2]
      exact List.mem_map.mpr ⟨p, sub p hp, e⟩) (fun x hx => by
      rw [← e2] at hx
      obtain ⟨p, hp, e⟩ := List.mem_map.mp hx
      rw [← e]
      exact all p hp)
    rwa [List.length_map] at this
  rw [hcount]
  exact q _ _ ps1 _ C2 (u1.trans u2) (Rep.int _)
end
end DL
namespace DL
open PySem PySem.Spec PyProof.Rows L2
theorem isNone_opt {α : Type} {f : α → PyData} (h : ∀ x, PyData.isNone (f x) = false) : ∀ o : Option α, PyData.isNone (optD f o) = o.isNone
  | none => rfl
  | some x => h x
theorem erase_len {α : Type} {l : List α} {i : Nat} (h : i < l.length) : (l.eraseIdx i).length + 1 = l.length := by
  rw [List.length_eraseIdx_of_lt h]
  omega
theorem mapS_J {α β σ : Type} {g : α → σ → β × σ} {J : List α → σ → Prop} (step : ∀ e rest s, J (e :: rest) s → J rest (g e s).2) : ∀ (es : List α) (s0 : σ), J es s0 → ∀ i, i ≤ es.length → J (es.drop i) (mapS g (es.take i) s0).2
  | es, s0, h, 0, _ => by simpa [mapS] using h
  | [], s0, h, i + 1, hi => by simp at hi
  | e :: es, s0, h, i + 1, hi => mapS_J step es (g e s0).2 (step e es s0 h) i (by simpa using hi)
section
variable {X : Cx} {na : NA} {sl sl' : Sl} {cs cs1 cs2 cs3 cs4 : Cs} {s t u : SV} {pos spos p pos2 p2 p3 p4 : Pos} {x : Str} {E : DEnds} {N : List Str} {a b : Expr}
theorem lc_SJ {α β σ : Type} {elt tg iter : Expr} {scope : Scope} {own : List (Str × Nat)} {GC : Cs → Prop} (es : List α) (f : α → SV) (h : IV X na tg iter sl cs (es.map f) GC cs1)
    (g : α → σ → β × σ) (v : β → PyData) (s0 : σ) (c : σ → Cs) (J : List α → σ → Prop) (hcs : c s0 = cs1) (a : α → Sl) (c2 : α → σ → Cs) (hj : J es s0) (hz : es.length ≤ 100000) (hG : ∀ s, GC (c s)) (hlen : ∀ s, (c s).length = cs1.length)
    (hg : ∀ e ∈ es, ∀ s, ∀ st H C cl fp, GW (blkOf X scope st H C cl fp) (lenB cs1.length) tg (f e) (wipeS sl (own.map (·.2))) (c s) (own.map (·.2)) fun sl2 cs2 => sl2 = a e ∧ cs2 = c s)
    (hs : ∀ e rest s, J (e :: rest) s → J rest (g e s).2)
    (he : ∀ e rest s, e ∈ es → J (e :: rest) s → (∀ st H C cl fp, EV (blkOf X scope st H C cl fp) (lenB cs1.length) elt (a e) (c s) (.val (v (g e s).1)) (c2 e s)) ∧ AtC cs1.length (c (g e s).2) (c2 e s))
    : LC X na elt tg iter [] scope own sl cs ((mapS g es s0).1.map v) (c (mapS g es s0).2) := by
  cases es with
  | nil =>
    subst hcs
    exact lc_M h [] (fun _ => sl) (fun _ => c s0) rfl (Nat.zero_le _) (hG _) (fun i s e => by simp at e) (fun i s d e => by simp at e)
  | cons e0 er =>
    have get : ∀ {i : Nat} {s : SV}, ((e0 :: er).map f)[i]? = some s → ∃ e, (e0 :: er)[i]? = some e ∧ s = f e ∧ (e0 :: er).getD i e0 = e := fun {i s} e => by
      rw [List.getElem?_map] at e
      cases q : (e0 :: er)[i]? with
      | none => rw [q] at e; cases e
      | some z =>
        rw [q] at e
        cases e
        exact ⟨z, rfl, rfl, by rw [List.getD_eq_getElem?_getD, q]; rfl⟩
    have := lc_gen (elt := elt) (ifs := []) (sl := sl) (scope := scope) (own := own) h (fun i => a ((e0 :: er).getD i e0)) (fun i => c (mapS g ((e0 :: er).take i) s0).2) (fun i => c2 ((e0 :: er).getD i e0) (mapS g ((e0 :: er).take i) s0).2) (fun _ => true) (fun i => v (g ((e0 :: er).getD i e0) (mapS g ((e0 :: er).take i) s0).2).1) (fun i => (mapS g ((e0 :: er).take i) s0).1.map v) hcs rfl (by rw [List.length_map]; exact hz) (fun _ _ => hG _)
      (fun i s e st H C cl fp => by
        obtain ⟨z, h1, rfl, h3⟩ := get e
        rw [h3, hlen]
        exact hg z (List.mem_of_getElem? h1) _ st H C cl fp)
      (fun i s e st H C cl fp => tvs_nil)
      (fun i s e _ => by
        obtain ⟨z, h1, rfl, h3⟩ := get e
        have hlt := (List.getElem?_eq_some_iff.mp h1).1
        have hJ := mapS_J hs (e0 :: er) s0 hj i (Nat.le_of_lt hlt)
        rw [List.drop_eq_getElem_cons hlt, (List.getElem?_eq_some_iff.mp h1).2] at hJ
        obtain ⟨g1, g2⟩ := he z _ (mapS g ((e0 :: er).take i) s0).2 (List.mem_of_getElem? h1) hJ
        have e1 : (e0 :: er).take (i + 1) = (e0 :: er).take i ++ [z] := by rw [List.take_add_one, h1]; rfl
        refine ⟨fun st H C cl fp => ?_, ?_, ?_⟩
        · rw [h3, hlen]
          exact g1 st H C cl fp
        · rw [e1, mapS_snoc, h3]
          exact g2
        · rw [e1, mapS_snoc, h3, List.map_append]
          rfl)
      (fun i s e hk => by cases hk)
    rw [List.length_map, List.take_of_length_le (Nat.le_refl _)] at this
    exact this
end
end DL
namespace DL
open PySem PySem.Spec PyProof.Rows L2
theorem some_of {α : Type} {o : Option α} (h : o.isNone = false) : o.isSome = true := by
  cases o with
  | none => cases h
  | some x => rfl
theorem emod_bd (n : Int) {m : Int} (h : 0 < m) : 0 ≤ n % m ∧ n % m < m := ⟨Int.emod_nonneg _ (by omega), Int.emod_lt_of_pos _ h⟩
section
variable {X : Cx} {na : NA} {sl sl' : Sl} {cs cs1 cs2 cs3 cs4 : Cs} {s t u : SV} {pos spos p pos2 p2 p3 p4 : Pos} {x : Str} {E : DEnds} {N : List Str} {a b : Expr}
/-- a cell of one's own is taken as data, and lives no more -/
theorem ev_frz {k : Nat} {c : CC} {d d' : PyData} (ha : EV X na a sl cs (.cell k) cs1) (hk : na.n ≤ k) (hc : cs1[k]? = some c) (hd : c.data = some d) (e : d = d') (pc : PutC cs1 k .dead cs2) : EV X na a sl cs (.val d') cs2 := by
  subst e
  rw [pc.at]
  intro B G ps σ H hn C S Q q
  refine ha B G ps σ H hn C S Q fun v G1 ps1 H1 C1 u1 r1 => ?_
  obtain ⟨p, ep, rfl⟩ := r1
  obtain ⟨g1, g2, g3⟩ := C1.cell k p c ep hc
  have hnd : c ≠ .dead := fun z => by subst z; cases hd
  have hG : G1 p = none := g3.elim (fun z => (hnd z).elim) id
  obtain ⟨ob, hH, hrr⟩ := g1.data hd
  have C2 := C1.freeze (by have hle := na.len B hn; omega) ep hc hnd hH
  exact q (.ref p) _ ps1 H1 C2 ⟨u1.s.trans (Same.new hG), u1.p⟩ (hrr _ (Same.new hG) upd_same)
def memB {α : Type} [DecidableEq α] (y : α) (l : List α) : Bool := decide (y ∈ l)
theorem memB_true {α : Type} [DecidableEq α] {y : α} {l : List α} : memB y l = true ↔ y ∈ l := decide_eq_true_iff
theorem tv_inM {α : Type} [DecidableEq α] {f : α → PyData} {y : α} {l : List α} {k : Nat} (hr : Room k X.A) (ha : EV X na a sl cs (.val (f y)) cs1) (hb : EV X na b sl cs1 (.val (.list (l.map f))) cs2) (h : EqvIs f) (sd : SeqAt.shaped (f y) = true) (se : SeqAt.shaped (.list (l.map f)) = true) (hm : behindInMarks .In b = false := by rfl) : TV X na (.Compare a [.In] [b] pos) sl cs (memB y l) cs2 := tv_inT hr ha hb h sd se hm
theorem tv_ninM {α : Type} [DecidableEq α] {f : α → PyData} {y : α} {l : List α} {k : Nat} (hr : Room k X.A) (ha : EV X na a sl cs (.val (f y)) cs1) (hb : EV X na b sl cs1 (.val (.list (l.map f))) cs2) (h : EqvIs f) (sd : SeqAt.shaped (f y) = true) (se : SeqAt.shaped (.list (l.map f)) = true) (hm : behindInMarks .NotIn b = false := by rfl) : TV X na (.Compare a [.NotIn] [b] pos) sl cs (!memB y l) cs2 := tv_ninT hr ha hb h sd se hm
/-- x, y = a, b -/
theorem s1_par {a b : Expr} {x y : Str} {i j m : Nat} {s t : SV} {sl1 sl2 : Sl} {px py pt pt2 : Pos} {kt k2 : Nat} (T : TabL X m) (hN : X.N = N) (hc : X.calm = true) (h : AV X na [a, b] sl cs [s, t] cs1) (p1 : Put N sl x i s sl1) (p2 : Put N sl1 y j t sl2) (hij : i ≠ j) (hx : X.env.scope.names.lookup x = some .local) (hy : X.env.scope.names.lookup y = some .local) (q : E.nx sl2 cs1)
    (hw : swappedStores [.Tuple [.Name x px, .Name y py] kt pt] (.Tuple [a, b] k2 pt2) X.env = pure (some [x, y]) := by rfl) (hs : swapsWithSole [.Tuple [.Name x px, .Name y py] kt pt] (.Tuple [a, b] k2 pt2) pos.line X.env = pure false := by rfl) :
    S1 X na (.Assign [.Tuple [.Name x px, .Name y py] kt pt] (.Tuple [a, b] k2 pt2) pos) sl cs E := by
  subst hN
  obtain ⟨h1, h2⟩ := p1.at
  subst h2
  obtain ⟨h3, h4⟩ := p2.at
  subst h4
  exact s1_of (ps_par hc T.nd h1 h3 hij hx hy pa_any hw hs) fun B G ps σ H hn C S D L => h B G ps σ H hn C S _ fun vs G1 ps1 H1 C1 u1 r1 => by
    cases r1 with
    | cons ra r2 =>
      cases r2 with
      | cons rb r3 =>
        cases r3
        exact ⟨_, _, rfl, L.nx _ cs1 G1 ps1 _ H1 C1 u1 (Slots.set (Slots.set (Slots.mono u1 S) ra i) rb j) q⟩
theorem rgD_0L (n : Int) : rgD 0 n = ((List.range n.toNat).map fun i : Nat => (i : Int)).map PyData.int := by
  have := rgD_0 n
  injection this with h
  injection h
theorem ev_listRgC {n : Int} {m : Nat} {es : List Int} (hc : X.calm = true) (hm : X.mg "list" = none) (hg : Gl X "list") (hm2 : X.mg "range" = none) (hg2 : Gl X "range") (ha : EV X na a sl cs (.val (.int n)) cs1) (h0 : 0 ≤ n) (h1 : n ≤ 16777216) (e : rgD 0 n = es.map PyData.int) (ac : AppC cs1 (.lst ((es.map PyData.int).map SV.val)) m cs2)
    (hs : starEach [a] X.env = (false, eval a X.env) :: starEach [] X.env := by rfl) (hs2 : starEach [.Call (.Name "range" p2) [a] [] pos2] X.env = (false, eval (.Call (.Name "range" p2) [a] [] pos2) X.env) :: starEach [] X.env := by rfl) :
    EV X na (.Call (.Name "list" p) [.Call (.Name "range" p2) [a] [] pos2] [] pos) sl cs (.cell m) cs2 :=
  ev_of (pe_listRg hc hg hm (prg_1 hg2 hm2 pe_any hs) hs2) fun B G ps σ H hn C S Q q => ha B G ps σ H hn C S _ fun v G1 ps1 H1 C1 u1 r1 =>
    ⟨n, Rep.intI r1, RgOk.of_le (Int.le_refl 0) h1 (by omega) h0, C1.newCell ac (fun p hp => ⟨rgV 0 n, upd_same, RepVs.mono ⟨Same.refl _, List.prefix_append _ _⟩ (e ▸ Reps.vs (reps_rg 0 n))⟩) fun v G2 ps2 H2 C2 u2 => q v G2 ps2 H2 C2 (u1.trans u2)⟩
end
end DL
namespace DL
open PySem PySem.Spec PyProof.Rows L2
theorem RenA.repsG {K : PySem.W.Frag} {G : Hp} {ps : List Addr} {κ : List Nat} : ∀ {a b : List SV} {vs : List V}, RenA κ a b → RepVs K G ps vs b → RepVs K G (pick ps κ) vs a
  | _, _, _, .nil, h => by cases h; exact .nil
  | _, _, _, .val t, h => by
    cases h with
    | cons h r => exact .cons h (RenA.repsG t r)
  | _, _, _, .cell (j := j) (k := k) e t, h => by
    cases h with
    | cons h r =>
      obtain ⟨p, hp, hv⟩ := h
      refine .cons ⟨p, ?_, hv⟩ (RenA.repsG t r)
      unfold pick
      rw [List.getElem?_map, e]
      show some (ps.getD k 0) = some p
      simp [List.getD, hp]
section
variable {X : Cx} {na : NA} {sl sl' : Sl} {cs cs1 cs2 cs3 cs4 : Cs} {s t u : SV} {pos spos p pos2 p2 p3 p4 : Pos} {x : Str} {E : DEnds} {N : List Str} {a b e : Expr} {es : List Expr} {k j n : Nat} {spec : Spec}
/-- a call: any cells are handed on (κ: all that stand within, too), any come back -/
theorem ev_callG {ss svs : List SV} {κ : List Nat} {d d2 da db csm : Cs} {r r2 : SV} (c : Cal X.prog X.w X.K X.mg X.base k x n spec) (hr : Room j X.A) (hk : k ≤ j) (hg : Gl X x)
    (ha : AV X na (e :: es) sl cs ss cs1) (S : SelR cs1 κ κ d) (hren : RenA κ svs ss) (h : spec svs d r d2) (hq : Paired (RenC (fun _ => true) (backOf κ cs1.length)) d2 (da ++ db)) (hda : da.length = κ.length) (hs : SetA cs1 κ da csm) (e1 : csm ++ db = cs2) (e2 : r.ren (backOf κ cs1.length) = r2) (nd : κ.Nodup) (hn : Nat.beq svs.length n = true)
    (hdb : (x == ("__debug__" : Str)) = false := by decide) (he : starEach (e :: es) X.env = (false, eval e X.env) :: starEach es X.env := by rfl) (hpl : (backTo pos (starEach es X.env)).any (·.1) = false := by rfl) :
    EV X na (.Call (.Name x p) (e :: es) [] pos) sl cs r2 cs2 := by
  subst e1
  subst e2
  exact ev_callR c hr hk hg (fun B G ps σ H hna C Sl Q q => ha B G ps σ H hna C Sl _ fun vs G1 ps1 H1 C1 u1 r1 => by
    show spM X.K n spec (vs ++ []) H1 Q E0
    rw [List.append_nil]
    refine ⟨G1, pick ps1 κ, svs, d, r, d2, h, Nat.eq_of_beq_eq_true hn, C1.enterG S nd, RenA.repsG hren r1, fun v G' ps' H' C' u' r' => ?_⟩
    obtain ⟨C2, back⟩ := C1.leaveG S nd C' hq hda hs
    refine q v G' _ H' C2 (u1.trans ⟨u'.s, List.prefix_append _ _⟩) ?_
    exact RepV.ren (P := fun _ => true) (fun k p _ e => back k p e) r' (by cases r <;> rfl)) hdb he hpl
/-- a tuple that holds cells -/
theorem ev_tupC {es : List Expr} {kx : Nat} {ss : List SV} {n : Nat} (h : AV X na es sl cs ss cs1) (ac : AppC cs1 (.tup ss) n cs2) (hz : Nat.ble ss.length 1000000 = true) : EV X na (.Tuple es kx pos) sl cs (.cell n) cs2 :=
  ev_of (pe_tup pa_any) fun B G ps σ H hn C S Q q => h B G ps σ H hn C S _ fun vs G1 ps1 H1 C1 u1 r1 => by
    exact ⟨sz (by rw [Paired.length r1]; exact Nat.le_of_ble_eq_true hz), C1.newCell ac (fun p hp => ⟨vs, upd_same, RepVs.mono ⟨Same.refl _, List.prefix_append _ _⟩ r1⟩) fun v G2 ps2 H2 C2 u2 => q v G2 ps2 H2 C2 (u1.trans u2)⟩
end
end DL
namespace DL
open PySem PySem.Spec PyProof.Rows L2
/-- what kind of thing a value or a cell is -/
def CC.tyOf : CC → Option String
  | .lst _ => some "list"
  | .dct _ => some "dict"
  | .tup _ => some "tuple"
  | _ => none
inductive Kind (cs : Cs) : SV → String → Prop
  | val {d : PyData} : Kind cs (.val d) (tyOf d)
  | cell {k : Nat} {c : CC} {t : String} : cs[k]? = some c → c.tyOf = some t → Kind cs (.cell k) t
theorem Kind.tyX {K : PySem.W.Frag} {B : Bs} {G : Hp} {ps : List Addr} {cs : Cs} {H : Hp} {v : V} {s : SV} {t : String} (C : Core K B G ps cs H) (r : RepV K G ps v s) (h : Kind cs s t) : TyX K H v (.type t) := by
  cases h with
  | val => exact Rep.tyX C.gh r
  | @cell k c _ hc ht =>
    obtain ⟨p, rfl, _, rc⟩ := C.cellAt r hc
    cases c with
    | lst xs => cases ht; obtain ⟨vs, h, _⟩ := rc; exact .base (.lst h)
    | dct xs => cases ht; obtain ⟨vs, h, _⟩ := rc; exact .base (.dK h)
    | tup xs => cases ht; obtain ⟨vs, h, _⟩ := rc; exact .base (.tup h)
    | ins _ _ => cases ht
    | dead => cases ht
    | frz _ _ _ => cases ht
section
variable {X : Cx} {na : NA} {sl sl' : Sl} {cs cs1 cs2 cs3 cs4 : Cs} {s t u : SV} {pos spos p pos2 p2 p3 p4 apos : Pos} {x : Str} {E : DEnds} {N : List Str} {a b e : Expr} {es : List Expr} {R : Sl → Cs → Prop}
theorem ev_isiC {T : Str} {T' ty : String} {p2 : Pos} {k : Bool} (hm : X.mg "isinstance" = none) (hg : Gl X "isinstance") (ha : EV X na a sl cs s cs1) (hK : Kind cs1 s ty) (hmT : X.mg T = none) (hgT : Gl X T) (hbT : bootBuiltins T = some (.type T')) (hk : PySem.W.kitOne X.K (.type ty) (.type T') = some k) (hT : T ≠ "__name__" := by decide) (hT2 : (T == ("__debug__" : Str)) = false := by decide)
    (hs : starEach [a, .Name T p2] X.env = (false, eval a X.env) :: starEach [.Name T p2] X.env := by rfl) (hs2 : starEach [.Name T p2] X.env = (false, eval (.Name T p2) X.env) :: starEach [] X.env := by rfl) (hpl : (backTo pos (starEach [.Name T p2] X.env)).any (·.1) = false := by rfl) :
    EV X na (.Call (.Name "isinstance" p) [a, .Name T p2] [] pos) sl cs (.val (.bool k)) cs1 := by
  refine ev_of (pe_callB call_isi hg hm (by decide +kernel) (pa_cons pe_any (pa_cons (pe_bltn (v := .ty T') hgT hmT hbT rfl hT hT2) pa_nil hs2) hs) (by decide) (by decide) hs hpl) fun B G ps σ H hn C S Q q => ha B G ps σ H hn C S _ fun v G1 ps1 H1 C1 u1 r1 => ?_
  exact ⟨v, .ty T', _, _, k, rfl, .ty T', hK.tyX C1 r1, hk, q _ G1 ps1 H1 C1 u1 (Rep.bl _)⟩
/-- a part of a tuple that is a cell -/
theorem ev_ixC {a b : Expr} {k : Nat} {xs : List SV} {i : Int} (ha : EV X na a sl cs (.cell k) cs1) (hb : EV X na b sl cs1 (.val (.int i)) cs2) (hl : cs2[k]? = some (.tup xs)) (h : L2.atI xs i = some t) (hs : PlainIx b := by exact fun _ _ => rfl) : EV X na (.Subscript a b pos) sl cs t cs2 :=
  ev_of (pe_ix ix_tup pe_any pe_any hs) (de_op ha hb fun B G ps H v w hn C r1 r2 Q q => by
    obtain ⟨p, rfl, _, vs, h1, h2⟩ := C.cellAt r1 hl
    cases q' : ixN xs.length i with
    | none => unfold atI at h; rw [q'] at h; cases h
    | some j =>
      have h' : xs[j]? = some t := by unfold atI at h; rw [q'] at h; exact h
      obtain ⟨z, hz, rz⟩ := pd_get h2 h'
      refine ⟨p, vs, i, z, rfl, Rep.intI r2, .inl (.inl h1), ?_, q z G ps H C (Up.refl _ _) rz⟩
      unfold atI
      rw [Paired.length h2, q']
      exact hz)
theorem rc_lenC {k : Nat} {xs : List SV} (hl : cs[k]? = some (.tup xs)) : RC X.K na (fun xs H Q => ∃ p ys, xs = [.ref p] ∧ (SqL X.K H p ys ∨ SqT X.K H p ys) ∧ Q (.int ys.length) H) [.cell k] cs (.val (.int (xs.length : Int))) cs := rc1 fun B G ps H v hn C r1 Q q => by
  obtain ⟨p, rfl, _, ws, h1, h2⟩ := C.cellAt r1 hl
  exact ⟨p, ws, rfl, .inr (.inl (.inl h1)), q _ G ps H C (Up.refl _ _) (by rw [Paired.length h2]; exact Rep.int _)⟩
/-- a, b = t, a tuple that is a cell -/
theorem gx_tupC {es : List Expr} {kx k : Nat} {xs : List SV} {n : Nat} (hc : X.calm = true) (hl : cs[k]? = some (.tup xs)) (h : GXs X na es xs sl cs R) (hn' : xs.length = n)
    (hn : (assignEach es X.env).length = n := by rfl) (hst : (assignEach es X.env).findIdx? (·.1) = none := by rfl) : GX X na (.Tuple es kx pos) (.cell k) sl cs R :=
  gx_of (pg_tup hc pgs_any hn hst) fun B G ps σ H v hn C S r Q q => by
    obtain ⟨p, rfl, _, vs, h1, h2⟩ := C.cellAt r hl
    exact ⟨_, _, rfl, .inl (.inl h1), (Paired.length h2).trans hn', h B G ps σ H _ hn C S h2 Q q⟩
/-- x.clear() -/
theorem ev_clearL {k : Nat} {xs : List SV} (ha : EV X na a sl cs (.cell k) cs1) (hc : cs1[k]? = some (.lst xs)) (p : PutC cs1 k (.lst []) cs2) (hbase : attributeBase a "clear" X.env (eval a X.env) = eval a X.env := by rfl) (hline : (apos.endLine == pos.line) = true := by rfl) :
    EV X na (.Call (.Attribute a "clear" apos) [] [] pos) sl cs (.val .none) cs2 :=
  ev_of (pe_bm0 PySem.F.plainAttrs_list PySem.F.slot_list_clear PySem.F.type_list_clear mt_clear pe_any hbase hline) fun B G ps σ H hn C S Q q => ha B G ps σ H hn C S _ fun v G1 ps1 H1 C1 u1 r1 => by
    obtain ⟨l, rfl, e, ws, h1, h2⟩ := C1.cellAt r1 hc
    rw [p.at] at q
    exact ⟨.inl ⟨rfl, ws, SqL.of h1⟩, l, ws, rfl, rfl, h1, q _ G1 ps1 _ (C1.put (c' := .lst []) e hc (by intro z; cases z) ⟨_, upd_same, .nil⟩) u1 Rep.non⟩
/-! ### the content of cells within cells, as data -/
inductive Deep (cs : Cs) : SV → PyData → Prop
  | val {d : PyData} : Deep cs (.val d) d
  | flat {k : Nat} {c : CC} {d : PyData} : cs[k]? = some c → c.data = some d → Deep cs (.cell k) d
  | tup {k : Nat} {xs : List SV} {ds : List PyData} : cs[k]? = some (.tup xs) → Paired (Deep cs) xs ds → Deep cs (.cell k) (.tuple ds)
end
end DL
namespace DL
open PySem PySem.Spec PyProof.Rows L2
theorem ret_gen {na : Nat} {s s2 : SV} {d c2 : Cs} (κs κ : List Nat) (eκ : List.range na ++ κs = κ) (nd : κ.Nodup) (S : SelR c2 κ κ d) (am : s2.amid (fun k => κ.contains k) = true) (e : s2.ren (fun k => κ.idxOf k) = s) : RetOk na s d s2 c2 := by
  subst eκ
  exact .gen nd S am e
/-! ### comparisons of cells within cells -/
inductive IsDat2 (cs : Cs) : SV → PyData → Prop
  | base {s : SV} {d : PyData} : IsDat cs s d → IsDat2 cs s d
  | tup {k : Nat} {xs : List SV} {ds : List PyData} : cs[k]? = some (.tup xs) → Paired (IsDat cs) xs ds → IsDat2 cs (.cell k) (.tuple ds)
theorem IsDat.dpAll {K : PySem.W.Frag} {B : Bs} {G : Hp} {ps : List Addr} {cs : Cs} {H : Hp} (C : Core K B G ps cs H) : ∀ {xs : List SV} {ds : List PyData} {vs : List V}, Paired (IsDat cs) xs ds → RepVs K G ps vs xs → PyData.canLayAll0 ds = true → DpAll K H vs ds
  | _, _, _, .nil, .nil, _ => .nil
  | _, _, _, .cons h t, .cons r rr, l => by
    simp only [PyData.canLayAll0, Bool.and_eq_true] at l
    exact .cons (h.dp C r l.1) (IsDat.dpAll C t rr l.2)
theorem IsDat2.dp {K : PySem.W.Frag} {B : Bs} {G : Hp} {ps : List Addr} {cs : Cs} {H : Hp} {v : V} {s : SV} {d : PyData} (C : Core K B G ps cs H) (r : RepV K G ps v s) (h : IsDat2 cs s d) (l : d.canLay0 = true) : Dp K H v d := by
  cases h with
  | base h => exact h.dp C r l
  | tup hc hp =>
    obtain ⟨p, rfl, _, vs, h1, h2⟩ := C.cellAt r hc
    exact .tup (.inl (.inl h1)) (IsDat.dpAll C hp h2 (by simpa only [PyData.canLay0] using l))
section
variable {X : Cx} {na : NA} {sl : Sl} {cs cs1 cs2 : Cs} {s t : SV} {pos : Pos} {a b : Expr} {d e : PyData} {k : Nat}
theorem ev_eqD2 (hr : Room k X.A) (ha : EV X na a sl cs s cs1) (hb : EV X na b sl cs1 t cs2) (hd : IsDat2 cs2 s d) (he : IsDat2 cs2 t e) (sd : SeqAt.shaped d = true) (se : SeqAt.shaped e = true) : EV X na (.Compare a [.Eq] [b] pos) sl cs (.val (.bool (PyData.eqv d e))) cs2 :=
  ev_cmp (op_eqD (by have := hr.un; omega)) (nomark _) ha hb fun B G ps H v w hn C r1 r2 Q q =>
    ⟨d, e, hd.dp C r1 (SeqAt.canLay_of_shaped sd), he.dp C r2 (SeqAt.canLay_of_shaped se), sd, se, q _ G ps H C (Up.refl _ _) (Rep.bl _)⟩
theorem tv_eqD2 (hr : Room k X.A) (ha : EV X na a sl cs s cs1) (hb : EV X na b sl cs1 t cs2) (hd : IsDat2 cs2 s d) (he : IsDat2 cs2 t e) (sd : SeqAt.shaped d = true) (se : SeqAt.shaped e = true) : TV X na (.Compare a [.Eq] [b] pos) sl cs (PyData.eqv d e) cs2 :=
  tv_cmp (op_eqD (by have := hr.un; omega)) (nomark _) ha hb fun B G ps H v w hn C r1 r2 Q q =>
    ⟨d, e, hd.dp C r1 (SeqAt.canLay_of_shaped sd), he.dp C r2 (SeqAt.canLay_of_shaped se), sd, se, q _ G ps H C (Up.refl _ _) (Rep.bl _)⟩
theorem tv_inMC {α : Type} [DecidableEq α] {f : α → PyData} {y : α} {l : List α} {m j : Nat} (hr : Room m X.A) (ha : EV X na a sl cs (.val (f y)) cs1) (hb : EV X na b sl cs1 (.cell j) cs2) (hc : cs2[j]? = some (.lst ((l.map f).map SV.val))) (h : EqvIs f) (sd : SeqAt.shaped (f y) = true) (se : SeqAt.shaped (.list (l.map f)) = true) (hm : behindInMarks .In b = false := by rfl) : TV X na (.Compare a [.In] [b] pos) sl cs (memB y l) cs2 := by
  have := tv_cmp (pos := pos) (op_inD (room_65 hr)) hm ha hb (rv_inD IsDat.val (IsDat.cell hc (by first | exact data_map _ | (show (svData _).map _ = _; rw [svData_map]; rfl))) sd se)
  rwa [any_is h] at this
theorem tv_ninMC {α : Type} [DecidableEq α] {f : α → PyData} {y : α} {l : List α} {m j : Nat} (hr : Room m X.A) (ha : EV X na a sl cs (.val (f y)) cs1) (hb : EV X na b sl cs1 (.cell j) cs2) (hc : cs2[j]? = some (.lst ((l.map f).map SV.val))) (h : EqvIs f) (sd : SeqAt.shaped (f y) = true) (se : SeqAt.shaped (.list (l.map f)) = true) (hm : behindInMarks .NotIn b = false := by rfl) : TV X na (.Compare a [.NotIn] [b] pos) sl cs (!memB y l) cs2 := by
  have := tv_cmp (pos := pos) (op_notInD (room_65 hr)) hm ha hb (rv_ninD IsDat.val (IsDat.cell hc (by first | exact data_map _ | (show (svData _).map _ = _; rw [svData_map]; rfl))) sd se)
  rwa [any_is h] at this
theorem tv_neD2 (hr : Room k X.A) (ha : EV X na a sl cs s cs1) (hb : EV X na b sl cs1 t cs2) (hd : IsDat2 cs2 s d) (he : IsDat2 cs2 t e) (sd : SeqAt.shaped d = true) (se : SeqAt.shaped e = true) : TV X na (.Compare a [.NotEq] [b] pos) sl cs (!PyData.eqv d e) cs2 :=
  tv_cmp (op_neD (by have := hr.un; omega)) (nomark _) ha hb fun B G ps H v w hn C r1 r2 Q q =>
    ⟨d, e, hd.dp C r1 (SeqAt.canLay_of_shaped sd), he.dp C r2 (SeqAt.canLay_of_shaped se), sd, se, q _ G ps H C (Up.refl _ _) (Rep.bl _)⟩
end
end DL
namespace DL
open PySem PySem.Spec PyProof.Rows L2
section
variable {K : PySem.W.Frag} {B : Bs} {G H : Hp} {ps : List Addr} {cs : Cs}
theorem Core.pair (C : Core K B G ps cs H) {T : Addr} (hT : H T = none) {x y : V} {d e : PyData} (rx : Rep K G x d) (ry : Rep K G y e) :
    ∃ G'', Core K B G'' ps cs (upd H T (.tup [x, y])) ∧ Up G ps G'' ps ∧ RepV K G'' ps (.ref T) (.val (.tuple [d, e])) ∧ Same H (upd H T (.tup [x, y])) ∧ ∀ b, G'' b ≠ none → G b ≠ none ∨ H b = none := by
  refine ⟨upd G T (.tup [x, y]), C.alloc _ hT, ⟨Same.new (C.freeG hT), List.prefix_refl _⟩, ?_, Same.new hT, fun b e => ?_⟩
  · have sm : Same G (upd G T (.tup [x, y])) := Same.new (C.freeG hT)
    exact .tup (.inl (.inl upd_same)) (.cons (Rep.mono sm rx) (.cons (Rep.mono sm ry) .nil))
  · by_cases z : b = T
    · subst z
      exact .inr hT
    · rw [upd_ne z] at e
      exact .inl e
end
section
variable {X : Cx} {na : NA} {sl sl' : Sl} {cs cs1 cs2 cs3 : Cs} {s t u : SV} {pos spos p : Pos} {x : Str} {E : DEnds} {N : List Str} {a b iter : Expr} {tg : Expr} {tpos apos cpos : Pos} {elts : List Expr} {kk : Nat}
def enumL {α : Type} (xs : List α) : List (Nat × α) := xs.zipIdx.map fun q => (q.2, q.1)
theorem enumL_at {α : Type} {xs : List α} {i : Nat} : (enumL xs)[i]? = xs[i]?.map fun x => (i, x) := by
  unfold enumL
  rw [List.getElem?_map, List.getElem?_zipIdx]
  cases xs[i]? <;> simp
theorem enumL_len {α : Type} (xs : List α) : (enumL xs).length = xs.length := by
  unfold enumL
  rw [List.length_map, List.length_zipIdx]
abbrev enP (f : α → PyData) (q : Nat × α) : SV := .val (.tuple [.int (q.1 : Int), f q.2])
/-- for i, x in enumerate(xs), xs a list of data -/
theorem iv_enumC {α : Type} {f : α → PyData} {l : List α} {k : Nat} (hm : X.mg "enumerate" = none) (hg : Gl X "enumerate") (h : EV X na a sl cs (.cell k) cs1) (hl : cs1[k]? = some (.lst ((l.map f).map SV.val))) (hs : starEach [a] X.env = (false, eval a X.env) :: starEach [] X.env := by rfl) :
    IV X na (.Tuple elts kk tpos) (.Call (.Name "enumerate" p) [a] [] pos) sl cs ((enumL l).map (enP f)) (fun cs' => cs'[k]? = some (.lst ((l.map f).map SV.val))) cs1 :=
  iv_of (pi_enum hg hm pa_any hs) fun B G ps σ H hn C S R r => (av_cons h av_nil hs) B G ps σ H hn C S _ fun vs G1 ps1 H1 C1 u1 r1 => by
    cases r1 with
    | cons r1 r2 =>
    cases r2
    obtain ⟨ad, rfl, ea, ws, h1, h2⟩ := C1.cellAt r1 hl
    have hlen : ws.length = l.length := (Paired.length h2).trans (by rw [List.length_map, List.length_map])
    refine ⟨ad, ws, rfl, SqL.of h1, r _ (fun H => ∃ vs, SqL X.K H ad vs ∧ vs.length = ws.length) (fun i H v H' => ∃ T x, v = .ref T ∧ H T = none ∧ H' = upd H T (.tup [.int (i : Nat), x]) ∧ ∀ vs, SqL X.K H ad vs → vs[i]? = some x) G1 ps1 H1 C1 u1 ?_ ?_ ?_⟩
    · rw [List.length_map, enumL_len]
      rw [← hlen]
      refine ⟨fun i H hi ⟨vs, q, l⟩ => ⟨vs, vs[i]'(by omega), q, by simp [show i < vs.length by omega]⟩, fun H ⟨vs, q, l⟩ => ⟨vs, q, Nat.le_of_eq l⟩, fun i H v H' hi q y => ?_⟩
      obtain ⟨T, x, h1, h2, h3, h4⟩ := y
      exact ⟨T, x, h1, h2, h3, h4⟩
    · intro G' ps' cs' H' C' u' g
      obtain ⟨vs', h1', h2'⟩ := (C'.cell k ad _ (pre_get u'.p ea) g).1
      exact ⟨vs', SqL.of h1', (Paired.length h2').trans (Paired.length h2).symm⟩
    · intro i H' v H'' G' ps' cs' y C' u' g
      obtain ⟨T, x, rfl, hT, rfl, e⟩ := y
      obtain ⟨vs', h1', h2'⟩ := (C'.cell k ad _ (pre_get u'.p ea) g).1
      obtain ⟨s, es, rs⟩ := pd_getL h2' (e vs' (SqL.of h1'))
      rw [List.getElem?_map, List.getElem?_map] at es
      obtain ⟨z, ez, rfl⟩ := Option.map_eq_some_iff.mp es
      obtain ⟨z0, ez0, rfl⟩ := Option.map_eq_some_iff.mp ez
      obtain ⟨G'', c1, c2, c3, c4, c5⟩ := C'.pair hT (Rep.int (K := X.K) (G := G') (i : Nat)) rs
      refine ⟨_, G'', ?_, c1, c2, c3, c4, c5⟩
      rw [List.getElem?_map, enumL_at, ez0]
      rfl
theorem iv_enumV {α : Type} {f : α → PyData} {l : List α} (hm : X.mg "enumerate" = none) (hg : Gl X "enumerate") (h : EV X na a sl cs (.val (.list (l.map f))) cs1) (hs : starEach [a] X.env = (false, eval a X.env) :: starEach [] X.env := by rfl) :
    IV X na (.Tuple elts kk tpos) (.Call (.Name "enumerate" p) [a] [] pos) sl cs ((enumL l).map (enP f)) (fun _ => True) cs1 :=
  iv_of (pi_enum hg hm pa_any hs) fun B G ps σ H hn C S R r => (av_cons h av_nil hs) B G ps σ H hn C S _ fun vs G1 ps1 H1 C1 u1 r1 => by
    cases r1 with
    | cons r1 r2 =>
    cases r2
    obtain ⟨ad, ws, rfl, h1, h2⟩ := Rep.lstI r1
    have hlen : ws.length = l.length := h2.length.trans (by rw [List.length_map])
    refine ⟨ad, ws, rfl, C1.gh.seq h1, r _ _ _ G1 ps1 H1 C1 u1 (by rw [List.length_map, enumL_len, ← hlen]; exact walk_enum) (fun G' ps' cs' H' C' u' g => C'.gh.seq (u'.s.seq h1)) ?_⟩
    intro i H' v H'' G' ps' cs' y C' u' g
    obtain ⟨T, x0, x, rfl, hT, rfl, ei, e⟩ := y
    obtain rfl := Option.some.inj ei
    obtain ⟨d, ed, rd⟩ := h2.getV e
    rw [List.getElem?_map] at ed
    obtain ⟨z0, ez0, rfl⟩ := Option.map_eq_some_iff.mp ed
    obtain ⟨G'', c1, c2, c3, c4, c5⟩ := C'.pair hT (Rep.int (K := X.K) (G := G') (i : Nat)) (Rep.mono u'.s rd)
    refine ⟨_, G'', ?_, c1, c2, c3, c4, c5⟩
    rw [List.getElem?_map, enumL_at, ez0]
    rfl
/-- for v in d.values(), d locked -/
theorem iv_vals {α : Type} {f : α → PyData} {k : Nat} {od : Obj} {us : List (Key × V)} {kvs : List (Str × α)} (h : EV X na a sl cs (.cell k) cs1) (hl : cs1[k]? = some (.frz od us (svK (kvT f kvs)))) (hbase : attributeBase a "values" X.env (eval a X.env) = eval a X.env := by rfl) (hline : (apos.endLine == cpos.line) = true := by rfl) :
    IV X na tg (.Call (.Attribute a "values" apos) [] [] cpos) sl cs ((kvs.map (·.2)).map fun z => SV.val (f z)) (fun cs' => cs'[k]? = some (.frz od us (svK (kvT f kvs)))) cs1 :=
  iv_of (pi_values pe_any hbase hline) fun B G ps σ H hn C S R r => h B G ps σ H hn C S _ fun v G1 ps1 H1 C1 u1 r1 => by
    obtain ⟨ad, rfl, ea, h1, h2⟩ := C1.cellAt r1 hl
    have hlen : us.length = kvs.length := (Paired.length h2).trans (by unfold svK kvT; rw [List.length_map, List.length_map])
    refine ⟨ad, od, us, rfl, h1, r _ (fun H => H ad = some (.frz od (.dK us))) _ G1 ps1 H1 C1 u1 (by rw [List.length_map, List.length_map, ← hlen]; exact walk_values) (fun G' ps' cs' H' C' u' g => (C'.cell k ad _ (pre_get u'.p ea) g).1.1) ?_⟩
    intro i H' x H'' G' ps' cs' y C' u' g
    obtain ⟨rfl, ky, e⟩ := y
    have rk := (C'.cell k ad _ (pre_get u'.p ea) g).1.2
    obtain ⟨⟨k2, s2⟩, es, ek, rs⟩ := pd_getL rk e
    unfold svK kvT at es
    rw [List.getElem?_map, List.getElem?_map] at es
    obtain ⟨z, ez, e2⟩ := Option.map_eq_some_iff.mp es
    obtain ⟨z0, ez0, rfl⟩ := Option.map_eq_some_iff.mp ez
    cases e2
    exact ⟨.val (f z0.2), G', by rw [List.getElem?_map, List.getElem?_map, ez0]; rfl, C', Up.refl _ _, rs, Same.refl _, fun _ z => .inl z⟩
/-- list(d.values()) -/
def tListVals (te : TE) : TE := fun σ H Q => te σ H fun x H1 => ∃ (d : Addr) (kvs : List (Key × V)), x = .ref d ∧ H1 d = some (.dK kvs) ∧ ∀ p, H1 p = none → Q (.ref p) (upd H1 p (.lst (kvs.map Prod.snd)))
theorem vals_at {kvs : List (Key × V)} {vs : List (Key × Value)} (r : Paired (fun (a : Key × V) (b : Key × Value) => a.1 = b.1 ∧ RelV a.2 b.2) kvs vs) : ∀ {ws : List Value}, ws.length = vs.length → (∀ (j : Nat) (v : Value), ws[j]? = some v → ∃ k : Key, vs[j]? = some (k, v)) → Vals (kvs.map Prod.snd) ws := by
  induction r with
  | nil =>
    intro ws e _
    have : ws = [] := List.eq_nil_of_length_eq_zero e
    subst this
    exact .nil
  | cons h t ih =>
    intro ws e hw
    cases ws with
    | nil => cases e
    | cons w ws =>
      refine .cons ?_ (ih (by simpa using e) fun j v ev => ?_)
      · obtain ⟨k, ek⟩ := hw 0 w rfl
        simp only [List.getElem?_cons_zero, Option.some.injEq] at ek
        rw [ek] at h
        exact h.2
      · have := hw (j + 1) v (by simpa using ev)
        simpa using this
theorem pe_listVals {e : Expr} {te : TE} (hc : X.calm = true) (he : PE X e te) (hg : Gl X "list") (hm : X.mg "list" = none) (hv : bootBuiltins "list" = some (.type "list")) (hbase : attributeBase e "values" X.env (eval e X.env) = eval e X.env := by rfl) (hline : (apos.endLine == cpos.line) = true := by rfl)
    (hs : starEach [.Call (.Attribute e "values" apos) [] [] cpos] X.env = (false, eval (.Call (.Attribute e "values" apos) [] [] cpos) X.env) :: starEach [] X.env := by rfl) :
    PE X (.Call (.Name "list" p) [.Call (.Attribute e "values" apos) [] [] cpos] [] pos) (tListVals te) := by
  refine ⟨fun pins s σ H Q I hq => ?_⟩
  refine wpAny_Call_Name_kw (ld_blt I hg hm hv ?_)
  refine PyProof.Rows.callWith_type1 ?_ hs rfl
  rw [hs]
  show wpAny _ _ (spliced ((false, eval (.Call (.Attribute e "values" apos) [] [] cpos) X.env) :: backTo pos (starEach [] X.env))) _ _ s
  refine Calls.spliced_cons ?_
  refine wpAny_Call_method (T := "dict") (id := "dict.values") hbase rfl hline F.plainAttrs_dict F.slot_dict_values F.type_dict_values (thn (he.run pins s σ H _ I hq) fun u s1 ⟨x, H1, I1, rx, d, kvs, ex, hd, q⟩ => ?_)
  subst ex
  obtain rfl : u = Value.ref d := rx
  obtain ⟨hz, hs0, vs, kv, hdo⟩ := I1.hok d _ hd
  obtain ⟨ep, hat⟩ := hdo.dictAt
  have lk : kvs.length = vs.length := Paired.length kv
  have I2 : Inv X pins σ H1 { s1 with heap := s1.heap.push { cls := .type "dict_values", data := .fields #[.ref d] } } := I1.kept (t' := s1.toks) fun b ob q => Heap.get?_push_of_some _ q
  refine ⟨hdo.typeIs, hdo.mapOf.noDict, ?_⟩
  show wpAny _ _ (callWith cpos (.builtin "dict.values") [.ref d] [] []) _ X.xe s1
  refine method_meetsIn F.slot_dict_values F.entry_dict_values rfl (PySem.evalArgs_none ⟨rfl, hdo.typeIs, F.args_dict_values_1 _, _, meets_dict_values (mixKind X.prog X.w) d hs0, ⟨vs, hdo⟩, ?_⟩)
  refine Calls.spliced_nil ?_
  refine PySem.W.kdl_call (PySem.W.kdl_values (knd := mixKind X.prog X.w) (kvs := vs) (ep := ep)) (I1.ok.hd hc) ⟨⟨_, Heap.get?_push_size _ rfl, rfl, rfl⟩, hat.push _⟩ (by omega) fun h' tk acc c' hk hD hacc => ?_
  have hv : Vals (kvs.map Prod.snd) acc.toList := vals_at kv (by rw [Array.length_toList]; exact hacc.1) fun j v e => hacc.2 j v (by rw [← Array.getElem?_toList]; exact e)
  refine ⟨.ref _, _, I2.laid (t' := tk) (o := .lst (kvs.map Prod.snd)) hk (Nat.le_refl _) ?_, rfl, q _ (I2.hok.fresh (Nat.le_refl _))⟩
  exact ⟨by rw [List.length_map]; exact hz, acc.toList, c', hv, by rw [Array.toArray_toList]; exact hD⟩
theorem reps_vals {K : PySem.W.Frag} {G : Hp} {ps : List Addr} : ∀ {us : List (Key × V)} {kvs : List (Key × SV)}, RepKs K G ps us kvs → RepVs K G ps (us.map Prod.snd) (kvs.map Prod.snd)
  | _, _, .nil => .nil
  | _, _, .cons h t => .cons h.2 (reps_vals t)
theorem vals_T {α : Type} {f : α → PyData} (kvs : List (Str × α)) : (svK (kvT f kvs)).map Prod.snd = ((kvs.map (·.2)).map f).map SV.val := by
  unfold svK kvT
  rw [List.map_map, List.map_map, List.map_map, List.map_map]
  rfl
/-- list(d.values()): a new list that may change -/
theorem ev_listValsC {α : Type} {f : α → PyData} {kvs : List (Str × α)} {n : Nat} (hc : X.calm = true) (hm : X.mg "list" = none) (hg : Gl X "list") (ha : EV X na a sl cs s cs1) (hd : IsD cs1 s (svK (kvT f kvs))) (ac : AppC cs1 (.lst (((kvs.map (·.2)).map f).map SV.val)) n cs2) (hbase : attributeBase a "values" X.env (eval a X.env) = eval a X.env := by rfl) (hline : (apos.endLine == cpos.line) = true := by rfl)
    (hs : starEach [.Call (.Attribute a "values" apos) [] [] cpos] X.env = (false, eval (.Call (.Attribute a "values" apos) [] [] cpos) X.env) :: starEach [] X.env := by rfl) :
    EV X na (.Call (.Name "list" p) [.Call (.Attribute a "values" apos) [] [] cpos] [] pos) sl cs (.cell n) cs2 :=
  ev_of (pe_listVals hc pe_any hg hm (by decide +kernel) hbase hline hs) fun B G ps σ H hn C S Q q => ha B G ps σ H hn C S _ fun v G1 ps1 H1 C1 u1 r1 => by
    obtain ⟨l, us, rfl, h1, h2⟩ := hd.at C1 r1
    refine ⟨l, us, rfl, h1, C1.newCell ac (fun p hp => ⟨us.map Prod.snd, upd_same, ?_⟩) fun v G2 ps2 H2 C2 u2 => q v G2 ps2 H2 C2 (u1.trans u2)⟩
    have := reps_vals h2
    rw [vals_T] at this
    exact RepVs.mono ⟨Same.refl _, List.prefix_append _ _⟩ this
/-- sep.join(xs) -/
theorem ev_join {z : Str} {ys : List Str} (ha : EV X na a sl cs (.val (.str z)) cs1) (hb : EV X na b sl cs1 s cs2) (hl : IsL cs2 s ((ys.map PyData.str).map SV.val)) (hz : (ys.map (·.length)).sum + ys.length * z.length ≤ 16777216)
    (hs : starEach [b] X.env = (false, eval b X.env) :: starEach [] X.env := by rfl) (hbase : attributeBase a "join" X.env (eval a X.env) = eval a X.env := by rfl) (hline : (apos.endLine == pos.line) = true := by rfl) :
    EV X na (.Call (.Attribute a "join" apos) [b] [] pos) sl cs (.val (.str (Txt.join z ys))) cs2 :=
  ev_of (pe_join pe_any pe_any hs hbase hline) fun B G ps σ H hn C S Q q => ha B G ps σ H hn C S _ fun v G1 ps1 H1 C1 u1 r1 => ⟨⟨z, Rep.strI r1⟩, hb B G1 ps1 σ H1 hn C1 (Slots.mono u1 S) _ fun w G2 ps2 H2 C2 u2 r2 => by
    obtain ⟨l, vs, rfl, h1, h2⟩ := hl.sq C2 r2
    have e : vs = ys.map V.str := Reps.strs (Reps.ofVs h2)
    subst e
    exact ⟨z, l, ys, Rep.strI r1, rfl, .inl h1, hz, q _ G2 ps2 H2 C2 (u1.trans u2) (Rep.str _)⟩⟩
/-- d.clear() -/
theorem ev_clearD {k : Nat} {kvs : List (Key × SV)} (ha : EV X na a sl cs (.cell k) cs1) (hc : cs1[k]? = some (.dct kvs)) (p : PutC cs1 k (.dct []) cs2) (hbase : attributeBase a "clear" X.env (eval a X.env) = eval a X.env := by rfl) (hline : (apos.endLine == pos.line) = true := by rfl) :
    EV X na (.Call (.Attribute a "clear" apos) [] [] pos) sl cs (.val .none) cs2 :=
  ev_of (pe_dclear pe_any hbase hline) fun B G ps σ H hn C S Q q => ha B G ps σ H hn C S _ fun v G1 ps1 H1 C1 u1 r1 => by
    obtain ⟨l, rfl, e, ws, h1, h2⟩ := C1.cellAt r1 hc
    rw [p.at] at q
    exact ⟨.inr (.inr (.inl ⟨rfl, .inl ⟨_, h1⟩⟩)), l, ws, rfl, rfl, h1, q _ G1 ps1 _ (C1.put (c' := .dct []) e hc (by intro z; cases z) ⟨_, upd_same, .nil⟩) u1 Rep.non⟩
end
end DL
namespace DL
open PySem PySem.Spec PyProof.Rows L2
section
variable {X : Cx} {na : NA} {sl sl' : Sl} {cs cs1 cs2 cs3 : Cs} {s t u : SV} {pos spos p : Pos} {x : Str} {a b : Expr}
theorem inV_str (y : Str) : ∀ l : List Str, inV (.str y) (l.map V.str) = memB y l
  | [] => rfl
  | z :: l => by
    have ih := inV_str y l
    unfold inV at ih ⊢
    rw [List.map_cons, List.any_cons, ih]
    unfold memB
    show ((z == y) || decide (y ∈ l)) = decide (y ∈ z :: l)
    rw [Bool.eq_iff_iff, Bool.or_eq_true, beq_iff_eq, decide_eq_true_eq, decide_eq_true_eq, List.mem_cons, eq_comm]
theorem flat_strs : ∀ l : List Str, (l.map V.str).all flatV = true
  | [] => rfl
  | z :: l => by
    rw [List.map_cons, List.all_cons, flat_strs l]
    rfl
theorem tv_inTS {y : Str} {l : List Str} (ha : EV X na a sl cs (.val (.str y)) cs1) (hb : EV X na b sl cs1 (.val (.tuple (l.map PyData.str))) cs2) (hm : behindInMarks .In b = false := by rfl) : TV X na (.Compare a [.In] [b] pos) sl cs (memB y l) cs2 :=
  tv_cmp (pos := pos) op_in_seq hm ha hb fun B G ps H v w hn C r1 r2 Q q => by
    obtain ⟨ad, vs, rfl, h1, h2⟩ := Rep.tupI r2
    have e : vs = l.map V.str := Reps.strs h2
    subst e
    obtain rfl := Rep.strI r1
    refine ⟨ad, _, rfl, .inr (Same.seqT C.gh h1), rfl, flat_strs l, ?_⟩
    rw [inV_str]
    exact q _ G ps H C (Up.refl _ _) (Rep.bl _)
theorem tv_ninTS {y : Str} {l : List Str} (ha : EV X na a sl cs (.val (.str y)) cs1) (hb : EV X na b sl cs1 (.val (.tuple (l.map PyData.str))) cs2) (hm : behindInMarks .NotIn b = false := by rfl) : TV X na (.Compare a [.NotIn] [b] pos) sl cs (!memB y l) cs2 :=
  tv_cmp (pos := pos) op_notIn_seq hm ha hb fun B G ps H v w hn C r1 r2 Q q => by
    obtain ⟨ad, vs, rfl, h1, h2⟩ := Rep.tupI r2
    have e : vs = l.map V.str := Reps.strs h2
    subst e
    obtain rfl := Rep.strI r1
    refine ⟨ad, _, rfl, .inr (Same.seqT C.gh h1), rfl, flat_strs l, ?_⟩
    show Q (.bl (!inV (.str y) (l.map V.str))) H
    rw [inV_str]
    exact q _ G ps H C (Up.refl _ _) (Rep.bl _)
end
end DL
namespace DL
open PySem PySem.Spec PyProof.Rows L2
/-! ### tuples of the same content, compared -/
section
open PySem.SeqAt PySem.AutoSeq1 PySem.MeetsSeq PySem.MeetsSeq2 PySem.MeetsSeq3 PySem.SeqRoads2
variable {prog : Program} {w : World}
theorem tup_ne_same (a1 a2 : Addr) (u1 u2 : Array Value) (k1 k2 : Nat) (q1 q2 : Option Addr) (z1 z2 : Array (Option Value)) :
    MeetsIn prog w (Builtin.«tuple.__ne__» ⟨[.ref a1, .ref a2], []⟩)
      (fun A R s => s.heap.get? a1 = some { cls := .type "tuple", dict := q1, data := .seq u1 k1, slots := z1 } ∧ s.heap.get? a2 = some { cls := .type "tuple", dict := q2, data := .seq u2 k2, slots := z2 } ∧
        u1.size = u2.size ∧ (∀ j (g1 : j < u1.size) (g2 : j < u2.size), EqIn prog w A.in1 s u1[j] u2[j] true) ∧ R (.ok (.ret (.bool false))) s) :=
  .of_wp fun A R s hh => by
    obtain ⟨hp, gg, dd, tk, os⟩ := s
    obtain ⟨e1, e2, ez, he, hR⟩ := hh
    have sub := AutoSeq1.sub_tuple_tuple
    have len : (u1.toList.zip u2.toList).length = u1.size := by simp; omega
    wp_walk using AutoSeq1.wpAny_loadPart' e1, AutoSeq1.wpAny_loadPart' e2, wpAny_forIn_list _ (fun rest b s' => b.1 = none ∧ s' = ⟨hp, gg, dd, tk, os⟩ ∧ ∃ i, rest = (u1.toList.zip u2.toList).drop i) _
    case turn =>
      rintro ⟨v1, v2⟩ rest b s' ⟨hb', rfl, i, hz⟩
      have lt : i < (u1.toList.zip u2.toList).length := by
        refine Nat.lt_of_not_le fun ge => ?_
        rw [List.drop_of_length_le ge] at hz
        cases hz
      have lt1 : i < u1.size := by omega
      have lt2 : i < u2.size := by omega
      rw [List.drop_eq_getElem_cons lt] at hz
      injection hz with both more
      obtain rfl : v1 = u1[i] := by have := congrArg Prod.fst both; simpa using this
      obtain rfl : v2 = u2[i] := by have := congrArg Prod.snd both; simpa using this
      refine wpAny_bind (he i lt1 lt2 _ _ ?_)
      wp_walk
      exact ⟨rfl, rfl, i + 1, more⟩
    case fin =>
      rintro ⟨b1, b2⟩ s' ⟨hb', rfl, i, hz⟩
      simp only at hb'
      subst hb'
      wp_walk
      exact ⟨_, rfl, by simpa [Builtin.Tuple.tupleCompareSizes, bne, ez] using hR⟩
    case h => exact ⟨rfl, rfl, 0, rfl⟩
theorem rc_ne_same {A : Around} {s : Shared} {E : Value → Shared → Prop} {a1 a2 : Addr} {u1 u2 : Array Value} {Q : Value → Shared → Prop} (t1 : s.heap.IsTuple a1 u1) (t2 : s.heap.IsTuple a2 u2) (ez : u1.size = u2.size) (hu : A.units < cLine)
    (he : ∀ j (g1 : j < u1.size) (g2 : j < u2.size), EqIn prog w A.in1 s u1[j] u2[j] true) (h : Q (.bool false) s) : wpAny (model prog w) A (compareOp .NotEq (.ref a1) (.ref a2)) Q E s := by
  obtain ⟨⟨c1, d1, x1, z1⟩, o1, hc1, n1, hd1⟩ := id t1
  obtain ⟨⟨c2, d2, x2, z2⟩, o2, hc2, n2, hd2⟩ := id t2
  simp only at hc1 hd1 hc2 hd2
  subst hc1 hd1 hc2 hd2
  refine wpAny_richCompare_same_room (T := "tuple") (op := .NotEq) ⟨_, o1, rfl⟩ ⟨_, o2, rfl⟩ F.slot_tuple_ne (call_meetsIn F.slot_tuple_ne ⟨_, o1, rfl⟩ F.entry_tuple_ne (F.args_tuple_ne_2 _ _) (tup_ne_same a1 a2 u1 u2 n1 n2 d1 d2 z1 z2) ?_) hu
  exact ⟨o1, o2, ez, he, show Value.bool false ≠ Value.notImplemented ∧ Q (.bool false) s from ⟨(fun x => nomatch x), h⟩⟩
end
theorem paired_at {α β : Type} {R : α → β → Prop} : ∀ {xs : List α} {ys : List β}, Paired R xs ys → ∀ j (h1 : j < xs.length) (h2 : j < ys.length), R xs[j] ys[j]
  | _, _, .cons h _, 0, _, _ => h
  | _, _, .cons _ t, j + 1, h1, h2 => paired_at t j (by simpa using h1) (by simpa using h2)
theorem vals_ix {xs : List V} {us : List Value} (r : Vals xs us) : ∀ j (h1 : j < xs.length) (h2 : j < us.length), RelV xs[j] us[j] := by
  induction r with
  | nil => intro j h1 _; cases h1
  | cons h t ih =>
    intro j h1 h2
    cases j with
    | zero => exact h
    | succ j => exact ih j (by simpa using h1) (by simpa using h2)
def SameV (K : PySem.W.Frag) (H : Hp) (x y : V) : Prop := (∃ d, Dp K H x d ∧ Dp K H y d ∧ SeqAt.shaped d = true ∧ PyData.eqv d d = true) ∨
  ∃ a b ks ls, x = .ref a ∧ y = .ref b ∧ H a = some (.dK ks) ∧ H b = some (.dK ls) ∧ ks.length = ls.length ∧ ∀ p ∈ ks, ∃ y d, valV ls p.1 = some y ∧ Dp K H p.2 d ∧ Dp K H y d ∧ SeqAt.shaped d = true ∧ PyData.eqv d d = true
theorem SameV.at {X : Cx} {pins : List (Addr × Obj)} {σ : L2.St} {H : Hp} {s : Shared} (I : Inv X pins σ H s) {A : Around} (hu : A.in1.units < cLine) (hu2 : A.in1.in1.units + 64 < cLine) {x y : V} (h : SameV X.K H x y) {v u : Value} (rx : RelV x v) (ry : RelV y u) : SeqAt.EqIn X.prog X.w A.in1 s v u true := by
  rcases h with ⟨d, d1, d2, sd, ed⟩ | ⟨a, b, ks, ls, rfl, rfl, ea, eb, hlen, hp⟩
  · obtain ⟨as, r1⟩ := Dp.reads I d _ v d1 rx
    obtain ⟨bs, r2⟩ := Dp.reads I d _ u d2 ry
    have := PySem.W.keq_at (A := A) r1 r2 sd sd (by show A.in1.units + 64 < cLine; have : A.in1.in1.units = A.in1.units + 1 := rfl; omega)
    rw [ed] at this
    exact this.inModel _ _
  · obtain rfl : v = Value.ref a := rx
    obtain rfl : u = Value.ref b := ry
    by_cases hab : a = b
    · subst hab
      exact (SeqAt.EqAt.same _).inModel _ _
    · obtain ⟨_, ya, va, ra, da⟩ := (show ObjOk X.prog X.w H s.heap a (.dK ks) from I.hok a _ ea)
      obtain ⟨_, yb, vb, rb, db⟩ := (show ObjOk X.prog X.w H s.heap b (.dK ls) from I.hok b _ eb)
      have hl : va.length = vb.length := by rw [← ra.length, ← rb.length]; exact hlen
      refine SeqAt.EqIn.of_refs hab fun E Q hq => ?_
      exact PySem.W.keq_eq (knd := mixKind X.prog X.w) (r := true) ya yb da db hu (fun _ => hits_deep I hu2 rb ra hp) (by simpa [hl] using hq)
def rTupNe (K : PySem.W.Frag) : R2 := fun x y H Q => ∃ a b xs ys, x = .ref a ∧ y = .ref b ∧ SqT K H a xs ∧ SqT K H b ys ∧ Paired (SameV K H) xs ys ∧ Q (.bl false) H
theorem op_neTup {X : Cx} (hu : X.A.units + 1 < cLine) (hu2 : X.A.units + 2 + 64 < cLine) : OpR X (compareOp .NotEq) (rTupNe X.K) := by
  intro pins s σ H x y v u Q I rx ry h
  obtain ⟨a, b, xs, ys, rfl, rfl, ea, eb, hp, q⟩ := h
  obtain rfl : v = Value.ref a := rx
  obtain rfl : u = Value.ref b := ry
  obtain ⟨is1, r1, t1, _⟩ := I.tuple ea
  obtain ⟨is2, r2, t2, _⟩ := I.tuple eb
  have l1 := r1.length
  have l2 := r2.length
  have l3 := Paired.length hp
  refine rc_ne_same t1 t2 (by simp; omega) (by omega) (fun j g1 g2 => ?_) ⟨.bl false, H, I, rfl, q⟩
  have j1 : j < xs.length := by simp at g1; omega
  have j2 : j < ys.length := by omega
  have hj : SameV X.K H xs[j] ys[j] := paired_at hp j j1 j2
  exact hj.at (A := X.A) I hu hu2 (by simpa using vals_ix r1 j j1 (by simpa using g1)) (by simpa using vals_ix r2 j j2 (by simpa using g2))
inductive SameD (cs : Cs) : SV → SV → Prop
  | dat {s t : SV} {d : PyData} : IsDat cs s d → IsDat cs t d → SeqAt.shaped d = true → PyData.eqv d d = true → SameD cs s t
  | dct {s t : SV} {kvs : List (Key × PyData)} : IsD cs s (svK kvs) → IsD cs t (svK kvs) → (∀ kv ∈ kvs, SeqAt.shaped kv.2 = true ∧ PyData.eqv kv.2 kv.2 = true) → (kvs.map (·.1)).Nodup → SameD cs s t
theorem SameD.same {K : PySem.W.Frag} {B : Bs} {G H : Hp} {ps : List Addr} {cs : Cs} (C : Core K B G ps cs H) {s t : SV} (h : SameD cs s t) {v u : V} (r1 : RepV K G ps v s) (r2 : RepV K G ps u t) : SameV K H v u := by
  cases h with
  | dat h1 h2 sd ed => exact .inl ⟨_, IsDat.dp C r1 h1 (SeqAt.canLay_of_shaped sd), IsDat.dp C r2 h2 (SeqAt.canLay_of_shaped sd), sd, ed⟩
  | dct hd he hf nd =>
    obtain ⟨a, us, rfl, h1, h2⟩ := hd.at C r1
    obtain ⟨b, ls, rfl, h3, h4⟩ := he.at C r2
    obtain ⟨h5, h6, h7, h8⟩ := repKs_deep C.gh hf h2 h4
    refine .inr ⟨a, b, us, ls, rfl, rfl, h1, h3, h5, fun p hp => ?_⟩
    obtain ⟨y, d, k1, k2⟩ := h8 p hp
    exact ⟨y, d, valV_mem (by rw [h7]; exact nd) k1, k2⟩
theorem SameD.all {K : PySem.W.Frag} {B : Bs} {G H : Hp} {ps : List Addr} {cs : Cs} (C : Core K B G ps cs H) : ∀ {xs ys : List SV} {vs us : List V}, Paired (SameD cs) xs ys → RepVs K G ps vs xs → RepVs K G ps us ys → Paired (SameV K H) vs us
  | _, _, _, _, .nil, .nil, .nil => .nil
  | _, _, _, _, .cons h t, .cons r1 t1, .cons r2 t2 => .cons (h.same C r1 r2) (SameD.all C t t1 t2)
section
variable {X : Cx} {na : NA} {sl sl' : Sl} {cs cs1 cs2 cs3 : Cs} {s t u : SV} {pos spos p : Pos} {x : Str} {a b : Expr}
/-- (..) != (..), tuples that hold things of the same content -/
theorem tv_neTup {i j k : Nat} {xs ys : List SV} (hr : Room k X.A) (ha : EV X na a sl cs (.cell i) cs1) (hb : EV X na b sl cs1 (.cell j) cs2) (e1 : cs2[i]? = some (.tup xs)) (e2 : cs2[j]? = some (.tup ys)) (hp : Paired (SameD cs2) xs ys) : TV X na (.Compare a [.NotEq] [b] pos) sl cs false cs2 :=
  tv_cmp (op_neTup (by have := hr.un; omega) (by have := hr.un; omega)) (nomark _) ha hb fun B G ps H v w hn C r1 r2 Q q => by
    obtain ⟨p1, rfl, _, vs, h1, h2⟩ := C.cellAt r1 e1
    obtain ⟨p2, rfl, _, us, h3, h4⟩ := C.cellAt r2 e2
    exact ⟨p1, p2, vs, us, rfl, rfl, SqT.of h1, SqT.of h3, SameD.all C hp h2 h4, q _ G ps H C (Up.refl _ _) (Rep.bl _)⟩
end
end DL
namespace DL
open PySem PySem.Spec PyProof.Rows L2
theorem enumL_lt {α : Type} {xs : List α} {i : Nat} {x : α} (h : (i, x) ∈ enumL xs) : i < xs.length := by
  unfold enumL at h
  obtain ⟨⟨y, j⟩, h1, h2⟩ := List.mem_map.mp h
  cases h2
  exact (List.mem_zipIdx' h1).1
theorem enumL_mem {α : Type} {xs : List α} {i : Nat} {x : α} (h : (i, x) ∈ enumL xs) : x ∈ xs := by
  unfold enumL at h
  obtain ⟨⟨y, j⟩, h1, h2⟩ := List.mem_map.mp h
  cases h2
  exact List.fst_mem_of_mem_zipIdx h1
theorem enumL_snd {α : Type} (xs : List α) : (enumL xs).map (·.2) = xs := by
  unfold enumL
  rw [List.map_map]
  exact List.zipIdx_map_fst 0 xs
theorem cut_both {α : Type} (xs : List α) (k m : Nat) : (xs.drop (min k xs.length)).take (min m xs.length - min k xs.length) = (xs.drop k).take (m - k) := by
  by_cases hk : k ≤ xs.length
  · rw [Nat.min_eq_left hk]
    by_cases hm : m ≤ xs.length
    · rw [Nat.min_eq_left hm]
    · rw [Nat.min_eq_right (by omega), List.take_of_length_le (by rw [List.length_drop]; omega), List.take_of_length_le (by rw [List.length_drop]; omega)]
  · rw [Nat.min_eq_right (by omega : xs.length ≤ k), List.drop_of_length_le (Nat.le_refl _), List.drop_of_length_le (by omega), List.take_nil, List.take_nil]
section
variable {X : Cx} {na : NA} {sl sl' : Sl} {cs cs1 cs2 cs3 : Cs} {s t u : SV} {pos spos p p2 p3 p4 : Pos} {x : Str} {a b c : Expr}
/-- t + u, tuples -/
theorem ev_catT {ds es : List PyData} (ha : EV X na a sl cs (.val (.tuple ds)) cs1) (hb : EV X na b sl cs1 (.val (.tuple es)) cs2) (hz : ds.length + es.length ≤ 1000000) : EV X na (.BinOp a .Add b pos) sl cs (.val (.tuple (ds ++ es))) cs2 :=
  ev_op op_catA ha hb fun B G ps H v w hn C r1 r2 Q q => by
    obtain ⟨q1, vs, rfl, h1, h2⟩ := Rep.tupI r1
    obtain ⟨q2, ws, rfl, h3, h4⟩ := Rep.tupI r2
    refine ⟨q1, q2, vs, ws, rfl, rfl, Same.seqT C.gh h1, Same.seqT C.gh h3, sz (by rw [h2.length, h4.length]; exact hz), fun e => ?_, fun _ e => ?_, fun _ _ => C.newTup (h2.append h4) q⟩
    · subst e
      cases h2
      exact q _ G ps H C (Up.refl _ _) r2
    · subst e
      cases h4
      rw [List.append_nil] at q
      exact q _ G ps H C (Up.refl _ _) r1
/-- xs[k:m], none below nought -/
theorem ev_slFT {ds : List PyData} {k m : Nat} (ha : EV X na a sl cs s cs1) (hb : EV X na b sl cs1 (.val (.int (k : Int))) cs2) (hc : EV X na c sl cs2 (.val (.int (m : Int))) cs3) (hl : IsL cs3 s (ds.map SV.val)) : EV X na (.Subscript a (.Slice (some b) (some c) none p2) pos) sl cs (.val (.list ((ds.drop k).take (m - k)))) cs3 :=
  ev_of (pe_slice sl_list pe_any (po_some pe_any) (po_some pe_any)) fun B G ps σ H hn C S Q q => ha B G ps σ H hn C S _ fun v G1 ps1 H1 C1 u1 r1 => hb B G1 ps1 σ H1 hn C1 (Slots.mono u1 S) _ fun w G2 ps2 H2 C2 u2 r2 => ⟨(k : Int), Rep.intI r2, hc B G2 ps2 σ H2 hn C2 (Slots.mono u2 (Slots.mono u1 S)) _ fun w' G3 ps3 H3 C3 u3 r3 => by
    obtain ⟨l, vs, rfl, h1, h2⟩ := hl.sq C3 (RepV.mono u3 (RepV.mono u2 r1))
    have k1 := Reps.ofVs h2
    have e : cutV vs (some (k : Int)) (some (m : Int)) = (vs.drop k).take (m - k) := by
      unfold cutV
      rw [HT.sIx_nat, HT.sIx_nat]
      exact cut_both vs k m
    refine ⟨(m : Int), Rep.intI r3, l, vs, rfl, h1, ?_⟩
    rw [e]
    exact C3.newLst (Reps.take _ (Reps.drop k k1)) fun v G4 ps4 H4 C4 u4 => q v G4 ps4 H4 C4 (((u1.trans u2).trans u3).trans u4)⟩
end
end DL
namespace DL
open PySem PySem.Spec PyProof.Rows L2
section
variable {X : Cx} {na : NA} {sl sl' : Sl} {cs cs1 cs2 cs3 : Cs} {s t u : SV} {pos spos p p2 p3 p4 : Pos} {x : Str} {a b c : Expr}
/-- a op b op' c, whole numbers, where c changes nothing -/
theorem tv_chain {op op' : CmpOp} {r r' : R2} {k k' : Bool} (ho : OpR X (compareOp op) r) (ho' : OpR X (compareOp op') r') (ha : EV X na a sl cs s cs1) (hb : EV X na b sl cs1 t cs2) (hr : RV X.K na r s t cs2 (.val (.bool k)) cs2) (hc : EV X na c sl cs2 u cs2) (hr' : RV X.K na r' t u cs2 (.val (.bool k')) cs2)
    (hm : lastMarks [op, op'] [b, c] = false := by with_unfolding_all rfl) : TV X na (.Compare a [op, op'] [b, c] pos) sl cs (k && k') cs2 := by
  refine tv_of (pt_chain ho ho' pe_any pe_any pe_any hm) fun B G ps σ H hn C S Q q => ha B G ps σ H hn C S _ fun v G1 ps1 H1 C1 u1 r1 => hb B G1 ps1 σ H1 hn C1 (Slots.mono u1 S) _ fun w G2 ps2 H2 C2 u2 r2 =>
    hr B G2 ps2 H2 v w hn C2 (RepV.mono u2 r1) r2 _ fun z G3 ps3 H3 C3 u3 r3 => ?_
  cases (r3 : Rep _ _ _ _)
  refine ⟨k, rfl, ?_⟩
  cases k with
  | false =>
    rw [if_neg (by decide)]
    exact ⟨false, rfl, q G3 ps3 H3 C3 ((u1.trans u2).trans u3)⟩
  | true =>
    rw [if_pos rfl]
    refine hc B G3 ps3 σ H3 hn C3 (Slots.mono ((u1.trans u2).trans u3) S) _ fun w' G4 ps4 H4 C4 u4 r4 => ?_
    refine hr' B G4 ps4 H4 w w' hn C4 (RepV.mono (u3.trans u4) r2) r4 _ fun z G5 ps5 H5 C5 u5 r5 => ?_
    cases (r5 : Rep _ _ _ _)
    exact ⟨k', rfl, q G5 ps5 H5 C5 ((((u1.trans u2).trans u3).trans u4).trans u5)⟩
theorem tv_ltle {i j l : Int} (ha : EV X na a sl cs (.val (.int i)) cs1) (hb : EV X na b sl cs1 (.val (.int j)) cs2) (hc : EV X na c sl cs2 (.val (.int l)) cs2) (hm : lastMarks [.Lt, .LtE] [b, c] = false := by with_unfolding_all rfl) : TV X na (.Compare a [.Lt, .LtE] [b, c] pos) sl cs (decide (i < j) && decide (j ≤ l)) cs2 := tv_chain op_lt op_le ha hb rv_bool hc rv_bool hm
theorem tv_lele {i j l : Int} (ha : EV X na a sl cs (.val (.int i)) cs1) (hb : EV X na b sl cs1 (.val (.int j)) cs2) (hc : EV X na c sl cs2 (.val (.int l)) cs2) (hm : lastMarks [.LtE, .LtE] [b, c] = false := by with_unfolding_all rfl) : TV X na (.Compare a [.LtE, .LtE] [b, c] pos) sl cs (decide (i ≤ j) && decide (j ≤ l)) cs2 := tv_chain op_le op_le ha hb rv_bool hc rv_bool hm
theorem tv_lelt {i j l : Int} (ha : EV X na a sl cs (.val (.int i)) cs1) (hb : EV X na b sl cs1 (.val (.int j)) cs2) (hc : EV X na c sl cs2 (.val (.int l)) cs2) (hm : lastMarks [.LtE, .Lt] [b, c] = false := by with_unfolding_all rfl) : TV X na (.Compare a [.LtE, .Lt] [b, c] pos) sl cs (decide (i ≤ j) && decide (j < l)) cs2 := tv_chain op_le op_lt ha hb rv_bool hc rv_bool hm
theorem tv_ltlt {i j l : Int} (ha : EV X na a sl cs (.val (.int i)) cs1) (hb : EV X na b sl cs1 (.val (.int j)) cs2) (hc : EV X na c sl cs2 (.val (.int l)) cs2) (hm : lastMarks [.Lt, .Lt] [b, c] = false := by with_unfolding_all rfl) : TV X na (.Compare a [.Lt, .Lt] [b, c] pos) sl cs (decide (i < j) && decide (j < l)) cs2 := tv_chain op_lt op_lt ha hb rv_bool hc rv_bool hm
/-- t[:k] of a tuple, k less than its length -/
theorem ev_slTT {ds : List PyData} {k : Nat} (ha : EV X na a sl cs (.val (.tuple ds)) cs1) (hb : EV X na b sl cs1 (.val (.int (k : Int))) cs2) (hk : k < ds.length) : EV X na (.Subscript a (.Slice none (some b) none p2) pos) sl cs (.val (.tuple (ds.take k))) cs2 :=
  ev_of (pe_slice sl_tup pe_any po_none (po_some pe_any)) fun B G ps σ H hn C S Q q => ha B G ps σ H hn C S _ fun v G1 ps1 H1 C1 u1 r1 => hb B G1 ps1 σ H1 hn C1 (Slots.mono u1 S) _ fun w G2 ps2 H2 C2 u2 r2 => by
    obtain ⟨q1, vs, rfl, h1, h2⟩ := Rep.tupI (RepV.mono (s := .val (.tuple ds)) u2 r1)
    have hlen : vs.length = ds.length := h2.length
    have e : cutV vs none (some (k : Int)) = vs.take k := by
      unfold cutV
      rw [HT.sIx_none, HT.sIx_nat, Nat.min_eq_left (by omega), List.drop_zero, Nat.sub_zero]
    refine ⟨(k : Int), Rep.intI r2, q1, vs, rfl, Same.seqT C2.gh h1, ?_, ?_⟩
    · rw [HT.sIx_nat]
      omega
    · rw [e]
      exact C2.newTup (Reps.take _ h2) fun v G3 ps3 H3 C3 u3 => q v G3 ps3 H3 C3 ((u1.trans u2).trans u3)
end
theorem dk_tupl {α : Type} {f : α → PyData} {n : Nat} (hn : n + 1 ≤ 60) (h : ∀ x, dkD n (f x) = true) (l : List α) : SeqAt.shaped (.tuple (l.map f)) = true := by
  refine dk_shaped (n := n + 1) ?_ hn
  show (l.map f).all (dkD n) = true
  rw [List.all_eq_true]
  intro d hd
  obtain ⟨x, _, rfl⟩ := List.mem_map.mp hd
  exact h x
theorem eqv_nil {α : Type} (f : α → PyData) (xs : List α) : PyData.eqv (.tuple (xs.map f)) (.tuple []) = xs.isEmpty := by
  cases xs <;> simp [PyData.eqv, PyData.eqvAll]
theorem eqv_nilL {α : Type} (f : α → PyData) (xs : List α) : PyData.eqv (.list (xs.map f)) (.list []) = xs.isEmpty := by
  cases xs <;> simp [PyData.eqv, PyData.eqvAll]
end DL
namespace DL
open PySem PySem.Spec PyProof.Rows L2
/-! ### instances -/
def putFS (f : Str) (s : SV) : List (Str × SV) → List (Str × SV)
  | [] => [(f, s)]
  | (g, x) :: r => if g = f then (g, s) :: r else (g, x) :: putFS f s r
section
variable {K : PySem.W.Frag} {G : Hp} {ps : List Addr}
theorem fs_get {f : Str} {t : SV} : ∀ {us : List (Str × V)} {fs : List (Str × SV)}, RepKs K G ps us fs → fs.lookup f = some t → ∃ w, us.lookup f = some w ∧ RepV K G ps w t
  | _, _, .nil, h => by cases h
  | (g', w) :: us, (g, z) :: fs, .cons h r, e => by
    obtain ⟨h1, h2⟩ := h
    cases (show g' = g from h1)
    rw [List.lookup_cons] at e ⊢
    cases q : (f == g') with
    | true =>
      rw [q] at e
      cases e
      exact ⟨w, rfl, h2⟩
    | false =>
      rw [q] at e
      exact fs_get r e
theorem fs_none {f : Str} : ∀ {us : List (Str × V)} {fs : List (Str × SV)}, RepKs K G ps us fs → fs.lookup f = none → us.lookup f = none
  | _, _, .nil, h => rfl
  | (g', w) :: us, (g, z) :: fs, .cons h r, e => by
    obtain ⟨h1, h2⟩ := h
    cases (show g' = g from h1)
    rw [List.lookup_cons] at e ⊢
    cases q : (f == g') with
    | true => rw [q] at e; cases e
    | false =>
      rw [q] at e
      exact fs_none r e
theorem fs_put {f : Str} {v : V} {s : SV} (h : RepV K G ps v s) : ∀ {us : List (Str × V)} {fs : List (Str × SV)}, RepKs K G ps us fs → RepKs K G ps (putF f v us) (putFS f s fs)
  | _, _, .nil => .cons ⟨rfl, h⟩ .nil
  | (g', w) :: us, (g, z) :: fs, .cons q r => by
    obtain ⟨h1, h2⟩ := q
    cases (show g' = g from h1)
    show RepKs K G ps (if g' = f then (g', v) :: us else (g', w) :: putF f v us) (if g' = f then (g', s) :: fs else (g', z) :: putFS f s fs)
    by_cases e : g' = f
    · rw [if_pos e, if_pos e]
      exact .cons ⟨rfl, h⟩ r
    · rw [if_neg e, if_neg e]
      exact .cons ⟨rfl, h2⟩ (fs_put h r)
end
section
variable {X : Cx} {na : NA} {sl sl' : Sl} {cs cs0 cs1 cs2 cs3 cs4 : Cs} {s t u : SV} {pos spos p pos2 p2 p3 p4 apos tpos : Pos} {x : Str} {E : DEnds} {N : List Str} {a b o e : Expr} {es : List Expr} {k j n : Nat} {spec : Spec} {C : Addr} {fs : List (Str × SV)} {f : Str}
/-- o.f -/
theorem ev_fld (ho : EV X na o sl cs (.cell k) cs1) (hc : cs1[k]? = some (.ins C fs)) (c : Cls X.K C) (nf : NoAttr X.K C f) (l : fs.lookup f = some t) (hb : attributeBase o f X.env (eval o X.env) = eval o X.env := by rfl) : EV X na (.Attribute o f pos) sl cs t cs1 :=
  ev_of (pe_fld pe_any hb) fun B G ps σ H hn C0 S Q q => ho B G ps σ H hn C0 S _ fun v G1 ps1 H1 C1 u1 r1 => by
    obtain ⟨p, rfl, _, dx, us, h1, h2⟩ := C1.cellAt r1 hc
    obtain ⟨w, hw, rw⟩ := fs_get h2 l
    exact ⟨p, C, dx, us, w, rfl, h1, c, nf, hw, q w G1 ps1 H1 C1 u1 rw⟩
/-- o.f = e -/
theorem s1_fld (hv : EV X na e sl cs s cs1) (ho : EV X na o sl cs1 (.cell k) cs2) (hc : cs2[k]? = some (.ins C fs)) (c : Cls X.K C) (nf : NoAttr X.K C f) (hz : Nat.blt fs.length 1000 = true) (pc : PutC cs2 k (.ins C (putFS f s fs)) cs3) (q : E.nx sl cs3)
    (hs : swapsWith e (some (.Attribute o f p2)) pos.line X.env = pure false := by rfl) : S1 X na (.Assign [.Attribute o f p2] e pos) sl cs E :=
  s1_of (ps_fld pe_any pe_any hs) fun B G ps σ H hn C0 S D L => hv B G ps σ H hn C0 S _ fun w G1 ps1 H1 C1 u1 r1 => ho B G1 ps1 σ H1 hn C1 (Slots.mono u1 S) _ fun w2 G2 ps2 H2 C2 u2 r2 => by
    obtain ⟨p, rfl, e, dx, us, h1, h2⟩ := C2.cellAt r2 hc
    rw [pc.at] at q
    have hz : fs.length < 1000 := by simpa [Nat.blt_eq] using hz
    refine ⟨p, C, dx, us, rfl, h1, c, nf, by rw [Paired.length h2]; exact hz, ?_⟩
    exact L.nx sl _ G2 ps2 σ _ (C2.put (c' := .ins C (putFS f s fs)) e hc (by intro z; cases z) ⟨dx, _, upd_same, fs_put (RepV.mono u2 r1) h2⟩) (u1.trans u2) (Slots.mono (u1.trans u2) S) q
/-- o.f += e, whole numbers -/
theorem s1_fldaug {i j : Int} (ho : EV X na o sl cs (.cell k) cs1) (hc : cs1[k]? = some (.ins C fs)) (c : Cls X.K C) (nf : NoAttr X.K C f) (l : fs.lookup f = some (.val (.int i))) (hv : EV X na e sl cs1 (.val (.int j)) cs1) (hz : Nat.blt fs.length 1000 = true) (pc : PutC cs1 k (.ins C (putFS f (.val (.int (i + j))) fs)) cs3) (q : E.nx sl cs3) :
    S1 X na (.AugAssign (.Attribute o f tpos) .Add e pos) sl cs E :=
  s1_of (ps_fldaug pe_any pe_any in_add) fun B G ps σ H hn C0 S D L => ho B G ps σ H hn C0 S _ fun w G1 ps1 H1 C1 u1 r1 => by
    obtain ⟨p, rfl, _, dx, us, h1, h2⟩ := C1.cellAt r1 hc
    obtain ⟨w, hw, rw1⟩ := fs_get h2 l
    refine ⟨p, C, dx, us, w, rfl, h1, c, nf, hw, hv B G1 ps1 σ H1 hn C1 (Slots.mono u1 S) _ fun v G2 ps2 H2 C2 u2 r2 => ⟨i, j, Rep.intI rw1, Rep.intI r2, ?_⟩⟩
    obtain ⟨p', ep, e2, dx', us', h3, h4⟩ := C2.cellAt (RepV.mono u2 r1) hc
    cases ep
    rw [pc.at] at q
    have hz : fs.length < 1000 := by simpa [Nat.blt_eq] using hz
    refine ⟨dx', us', h3, by rw [Paired.length h4]; exact hz, ?_⟩
    exact L.nx sl _ G2 ps2 σ _ (C2.put (c' := .ins C (putFS f (.val (.int (i + j))) fs)) e2 hc (by intro z; cases z) ⟨dx', _, upd_same, fs_put (show RepV X.K G2 ps2 (.int (i + j)) (.val (.int (i + j))) from Rep.int _) h4⟩) (u1.trans u2) (Slots.mono (u1.trans u2) S) q
end
/-! ### methods -/
structure CalM (P : Program) (w : World) (K : PySem.W.Frag) (mg : Str → Option Value) (base : Heap) (C : Addr) (k : Nat) (m : Str) (n : Nat) (spec : Spec) : Prop where
  ex : ∃ (f : Addr) (fd : FuncData) (ps : List Str), FnOk P w K mg base CX0 k f fd ps (spM K n spec) ∧ Meth K C m f ∧ Binds K fd ps []
theorem CalM.mono {P : Program} {w : World} {K : PySem.W.Frag} {mg : Str → Option Value} {base : Heap} {C : Addr} {j k n : Nat} {x : Str} {spec : Spec} (c : CalM P w K mg base C j x n spec) (h : j ≤ k) : CalM P w K mg base C k x n spec := by
  obtain ⟨f, fd, ps, F, r⟩ := c.ex
  exact ⟨f, fd, ps, F.mono h, r⟩
theorem CalM.imp {P : Program} {w : World} {K : PySem.W.Frag} {mg : Str → Option Value} {base : Heap} {C : Addr} {k n : Nat} {x : Str} {spec spec' : Spec} (c : CalM P w K mg base C k x n spec) (h : ∀ a b s d, spec' a b s d → spec a b s d) : CalM P w K mg base C k x n spec' := by
  obtain ⟨f, fd, ps, F, r⟩ := c.ex
  exact ⟨f, fd, ps, F.imp fun vs H Q E ⟨G, qs, svs, cs, s, cs', q, r⟩ => ⟨G, qs, svs, cs, s, cs', h _ _ _ _ q, r⟩, r⟩
/-- __init__ -/
structure CalI (P : Program) (w : World) (K : PySem.W.Frag) (mg : Str → Option Value) (base : Heap) (C : Addr) (k : Nat) (n : Nat) (spec : Spec) : Prop where
  ex : ∃ (f : Addr) (fd : FuncData) (ps : List Str), FnOk P w K mg base CX0 k f fd ps (spM K n spec) ∧ Mk K C f ∧ Binds K fd ps []
/-- a def of a class, as it stands behind the top -/
structure DefM (K : PySem.W.Frag) (C : Addr) (m qual : Str) (st : Stmt) (ps : List Str) : Prop where
  ex : ∃ (f : Addr) (fd : FuncData), Fun K m qual st f fd ∧ Meth K C m f ∧ Binds K fd ps []
structure DefI (K : PySem.W.Frag) (C : Addr) (qual : Str) (st : Stmt) (ps : List Str) : Prop where
  ex : ∃ (f : Addr) (fd : FuncData), Fun K "__init__" qual st f fd ∧ Mk K C f ∧ Binds K fd ps []
theorem fnok_body {P : Program} {w : World} {K : PySem.W.Frag} {mg : Str → Option Value} {base : Heap} {x ql : Str} {st : Stmt} {f : Addr} {fd : FuncData} {N ps : List Str} {k m : Nat} {spec : Spec} (F : Fun K x ql st f fd) (S : FnScope N ps (defScope st)) (tb : tabOk (N.take m) (defScope st) = true)
    (body : ∀ (f : Addr) (cdv : Value) (A : Around) (outer : List Env) (s : Shared) (H : Hp) (E : XK), Room k (cxN P w K mg base N ql (defScope st) f cdv A outer s H E).A → Tab (cxN P w K mg base N ql (defScope st) f cdv A outer s H E) m → TabL (cxN P w K mg base N ql (defScope st) f cdv A outer s H E) m →
      ∀ svs cs sv cs', spec svs cs sv cs' → svs.length = ps.length →
      SX (cxN P w K mg base N ql (defScope st) f cdv A outer s H E) (lenB cs.length) (defBody st) (svs.map some ++ List.replicate (N.length - svs.length) none) cs { nx := fun _ cs2 => RetOk cs.length sv cs' (.val .none) cs2, rt := fun s2 cs2 => RetOk cs.length sv cs' s2 cs2 }) :
    FnOk P w K mg base CX0 (k + 1) f fd ps (spM K ps.length spec) := by
  refine F.ok S (fun vs H Q E ⟨G, qs, svs, cs, s, cs', h, hl, C, r, q⟩ => by rw [Paired.length r, hl]) (fun cdv A outer s H vs Q E hr ⟨G, qs, svs, cs, sv, cs', h, hl, C, r, q⟩ => ⟨_, pss_any, ?_⟩)
  obtain ⟨T, TL⟩ := tab_of (X := cxN P w K mg base N ql (defScope st) f cdv A outer s H E) tb rfl rfl S.nd (fun _ => rfl)
  have hb := body f cdv A outer s H E hr T TL svs cs sv cs' h hl
  refine hb ⟨G, H, qs⟩ G qs _ H C.len C (slots_start r) _ ⟨fun sl2 cs2 G' ps' σ' H' C' u' S' e => ?_, fun s2 cs2 G' ps' v H' C' u' r' e => ?_, fun _ _ _ _ _ _ _ _ _ e => e.elim, fun _ _ _ _ _ _ _ _ _ e => e.elim⟩
  · obtain ⟨G2, ps2, C2, u2, r2⟩ := e.go C' C.len u' (show RepV K G' ps' .non (.val .none) from Rep.non)
    exact q .non G2 ps2 H' C2 u2 r2
  · obtain ⟨G2, ps2, C2, u2, r2⟩ := e.go C' C.len u' r'
    exact q v G2 ps2 H' C2 u2 r2
theorem calM_def {P : Program} {w : World} {K : PySem.W.Frag} {mg : Str → Option Value} {base : Heap} {C : Addr} {x ql : Str} {st : Stmt} {N ps : List Str} {k m : Nat} {spec : Spec} (D : DefM K C x ql st ps) (S : FnScope N ps (defScope st)) (tb : tabOk (N.take m) (defScope st) = true)
    (body : ∀ (f : Addr) (cdv : Value) (A : Around) (outer : List Env) (s : Shared) (H : Hp) (E : XK), Room k (cxN P w K mg base N ql (defScope st) f cdv A outer s H E).A → Tab (cxN P w K mg base N ql (defScope st) f cdv A outer s H E) m → TabL (cxN P w K mg base N ql (defScope st) f cdv A outer s H E) m →
      ∀ svs cs sv cs', spec svs cs sv cs' → svs.length = ps.length →
      SX (cxN P w K mg base N ql (defScope st) f cdv A outer s H E) (lenB cs.length) (defBody st) (svs.map some ++ List.replicate (N.length - svs.length) none) cs { nx := fun _ cs2 => RetOk cs.length sv cs' (.val .none) cs2, rt := fun s2 cs2 => RetOk cs.length sv cs' s2 cs2 }) :
    CalM P w K mg base C (k + 1) x ps.length spec := by
  obtain ⟨f, fd, F, hm, b⟩ := D.ex
  exact ⟨f, fd, ps, fnok_body F S tb body, hm, b⟩
theorem calI_def {P : Program} {w : World} {K : PySem.W.Frag} {mg : Str → Option Value} {base : Heap} {C : Addr} {ql : Str} {st : Stmt} {N ps : List Str} {k m : Nat} {spec : Spec} (D : DefI K C ql st ps) (S : FnScope N ps (defScope st)) (tb : tabOk (N.take m) (defScope st) = true)
    (body : ∀ (f : Addr) (cdv : Value) (A : Around) (outer : List Env) (s : Shared) (H : Hp) (E : XK), Room k (cxN P w K mg base N ql (defScope st) f cdv A outer s H E).A → Tab (cxN P w K mg base N ql (defScope st) f cdv A outer s H E) m → TabL (cxN P w K mg base N ql (defScope st) f cdv A outer s H E) m →
      ∀ svs cs sv cs', spec svs cs sv cs' → svs.length = ps.length →
      SX (cxN P w K mg base N ql (defScope st) f cdv A outer s H E) (lenB cs.length) (defBody st) (svs.map some ++ List.replicate (N.length - svs.length) none) cs { nx := fun _ cs2 => RetOk cs.length sv cs' (.val .none) cs2, rt := fun s2 cs2 => RetOk cs.length sv cs' s2 cs2 }) :
    CalI P w K mg base C (k + 1) ps.length spec := by
  obtain ⟨f, fd, F, hm, b⟩ := D.ex
  exact ⟨f, fd, ps, fnok_body F S tb body, hm, b⟩
/-- nothing is promised -/
theorem calM_none {P : Program} {w : World} {K : PySem.W.Frag} {mg : Str → Option Value} {base : Heap} {C : Addr} {x q : Str} {st : Stmt} {ps : List Str} {k n : Nat} {spec : Spec} (D : DefM K C x q st ps) (no : ∀ a c s d, ¬ spec a c s d) : CalM P w K mg base C k x n spec := by
  obtain ⟨f, fd, F, hm, b⟩ := D.ex
  exact ⟨f, fd, ps, ⟨fun vs H Q E ⟨_, _, _, _, _, _, h, _⟩ => (no _ _ _ _ h).elim, fun A outer s H args us vs Q E _ _ _ _ ⟨_, _, _, _, _, _, h, _⟩ => (no _ _ _ _ h).elim⟩, hm, b⟩
section
variable {X : Cx} {na : NA} {sl sl' : Sl} {cs cs0 cs1 cs2 cs3 cs4 : Cs} {s t u : SV} {pos spos p pos2 p2 p3 p4 apos tpos : Pos} {x : Str} {E : DEnds} {N : List Str} {a b o e : Expr} {es : List Expr} {k j n : Nat} {spec : Spec} {C : Addr} {fs : List (Str × SV)} {m : Str}
/-- o.m(e, ..): any cells are handed on, any come back -/
theorem ev_methG {pl : Sem Bool} {k0 : Nat} {ss svs : List SV} {κ : List Nat} {d d2 da db csm : Cs} {r r2 : SV} (c : CalM X.prog X.w X.K X.mg X.base C k m n spec) (hr : Room j X.A) (hk : k ≤ j) (cl : Cls X.K C)
    (ho : EV X na o sl cs (.cell k0) cs0) (hc : cs0[k0]? = some (.ins C fs)) (hno : fs.lookup m = none) (ha : AV X na (e :: es) sl cs0 ss cs1) (S : SelR cs1 κ κ d) (hren : RenA κ svs (.cell k0 :: ss)) (h : spec svs d r d2) (hq : Paired (RenC (fun _ => true) (backOf κ cs1.length)) d2 (da ++ db)) (hda : da.length = κ.length) (hs : SetA cs1 κ da csm) (e1 : csm ++ db = cs2) (e2 : r.ren (backOf κ cs1.length) = r2) (nd : κ.Nodup) (hn : Nat.beq svs.length n = true)
    (hst : starEach (e :: es) X.env = (false, eval e X.env) :: starEach es X.env := by rfl) (hpl : (backTo pos (starEach es X.env)).any (·.1) = false := by rfl)
    (ht : eval (.Call (.Attribute o m apos) (e :: es) [] pos) X.env = (do
      let ov ← eval o X.env
      standAt apos.atName
      let (f, first) ← holding [ov] (getMethod ov m pl)
      callWith pos f first (backTo pos (starEach (e :: es) X.env)) (backToKw pos (keywordEach [] X.env))) := by rfl) :
    EV X na (.Call (.Attribute o m apos) (e :: es) [] pos) sl cs r2 cs2 := by
  subst e1
  subst e2
  obtain ⟨f, fd, ps, F, hm, b⟩ := c.ex
  refine ev_of (pe_meth pe_any cl hm F (hr.mono hk) b .nil pass0 pa_any hst hpl ht) fun B G ps σ H hna C0 Sl Q q => ho B G ps σ H hna C0 Sl _ fun v G0 ps0 H0 C0 u0 r0 => ?_
  obtain ⟨p, rfl, ep, dx, us, h1, h2⟩ := C0.cellAt r0 hc
  refine ⟨p, dx, us, rfl, h1, fs_none h2 hno, ha B G0 ps0 σ H0 hna C0 (Slots.mono u0 Sl) _ fun vs G1 ps1 H1 C1 u1 r1 => ?_⟩
  show spM X.K n spec (.ref p :: (vs ++ [])) H1 Q E0
  rw [List.append_nil]
  refine ⟨G1, pick ps1 κ, svs, d, r, d2, h, Nat.eq_of_beq_eq_true hn, C1.enterG S nd, RenA.repsG hren (.cons (RepV.mono u1 r0) r1), fun v G' ps' H' C' u' r' => ?_⟩
  obtain ⟨C2, back⟩ := C1.leaveG S nd C' hq hda hs
  refine q v G' _ H' C2 ((u0.trans u1).trans ⟨u'.s, List.prefix_append _ _⟩) ?_
  exact RepV.ren (P := fun _ => true) (fun k p _ e => back k p e) r' (by cases r <;> rfl)
theorem ev_methG0 {pl : Sem Bool} {k0 : Nat} {svs : List SV} {κ : List Nat} {d d2 da db csm : Cs} {r r2 : SV} (c : CalM X.prog X.w X.K X.mg X.base C k m n spec) (hr : Room j X.A) (hk : k ≤ j) (cl : Cls X.K C)
    (ho : EV X na o sl cs (.cell k0) cs1) (hc : cs1[k0]? = some (.ins C fs)) (hno : fs.lookup m = none) (S : SelR cs1 κ κ d) (hren : RenA κ svs [.cell k0]) (h : spec svs d r d2) (hq : Paired (RenC (fun _ => true) (backOf κ cs1.length)) d2 (da ++ db)) (hda : da.length = κ.length) (hs : SetA cs1 κ da csm) (e1 : csm ++ db = cs2) (e2 : r.ren (backOf κ cs1.length) = r2) (nd : κ.Nodup) (hn : Nat.beq svs.length n = true)
    (ht : eval (.Call (.Attribute o m apos) [] [] pos) X.env = (do
      let ov ← eval o X.env
      standAt apos.atName
      let (f, first) ← holding [ov] (getMethod ov m pl)
      callWith pos f first (backTo pos (starEach [] X.env)) (backToKw pos (keywordEach [] X.env))) := by rfl) :
    EV X na (.Call (.Attribute o m apos) [] [] pos) sl cs r2 cs2 := by
  subst e1
  subst e2
  obtain ⟨f, fd, ps, F, hm, b⟩ := c.ex
  refine ev_of (pe_meth0 pe_any cl hm F (hr.mono hk) b .nil pass0 ht) fun B G ps σ H hna C0 Sl Q q => ho B G ps σ H hna C0 Sl _ fun v G1 ps1 H1 C1 u1 r1 => ?_
  obtain ⟨p, rfl, ep, dx, us, h1, h2⟩ := C1.cellAt r1 hc
  refine ⟨p, dx, us, rfl, h1, fs_none h2 hno, ?_⟩
  show spM X.K n spec [.ref p] H1 Q E0
  refine ⟨G1, pick ps1 κ, svs, d, r, d2, h, Nat.eq_of_beq_eq_true hn, C1.enterG S nd, RenA.repsG hren (.cons r1 .nil), fun v G' ps' H' C' u' r' => ?_⟩
  obtain ⟨C2, back⟩ := C1.leaveG S nd C' hq hda hs
  refine q v G' _ H' C2 (u1.trans ⟨u'.s, List.prefix_append _ _⟩) ?_
  exact RepV.ren (P := fun _ => true) (fun k p _ e => back k p e) r' (by cases r <;> rfl)
/-- C(e, ..) -/
theorem ev_makeG {i : Nat} {ss svs : List SV} {κ : List Nat} {csn d d2 da db csm : Cs} (c : CalI X.prog X.w X.K X.mg X.base C k n spec) (hr : Room j X.A) (hk : k + 1 ≤ j) (hg : Gl X x) (hm : X.mg x = some (.ref C))
    (ha : AV X na (e :: es) sl cs ss cs1) (ac : AppC cs1 (.ins C []) i csn) (S : SelR csn κ κ d) (hren : RenA κ svs (.cell i :: ss)) (h : spec svs d (.val .none) d2) (hq : Paired (RenC (fun _ => true) (backOf κ csn.length)) d2 (da ++ db)) (hda : da.length = κ.length) (hs : SetA csn κ da csm) (e1 : csm ++ db = cs2) (nd : κ.Nodup) (hn : Nat.beq svs.length n = true)
    (hdb : (x == ("__debug__" : Str)) = false := by decide) (he : starEach (e :: es) X.env = (false, eval e X.env) :: starEach es X.env := by rfl) (hpl : (backTo pos (starEach es X.env)).any (·.1) = false := by rfl) :
    EV X na (.Call (.Name x p) (e :: es) [] pos) sl cs (.cell i) cs2 := by
  subst e1
  obtain ⟨f, fd, ps, F, M, b⟩ := c.ex
  obtain ⟨rfl, rfl⟩ := ac.at
  refine ev_of (pe_make M F (hr.mono hk) hg hm b .nil pass0 pa_any hdb he hpl) fun B G ps σ H hna C0 Sl Q q => ha B G ps σ H hna C0 Sl _ fun vs G1 ps1 H1 C1 u1 r1 => ?_
  intro y dy hy hd hne
  show spM X.K n spec (.ref y :: (vs ++ [])) _ _ E0
  rw [List.append_nil]
  have Ca := C1.outside (o := .own y) (C1.notMem hd) (C1.freeG hd) (C1.free0 hd)
  have hy2 : upd H1 dy (.own y) y = none := by rw [upd_ne (Ne.symm hne)]; exact hy
  have Cb := Ca.cellNew (o := .ins C dy []) (c := .ins C []) hy2 ⟨dy, [], upd_same, .nil⟩
  have ry : RepV X.K G1 (ps1 ++ [y]) (.ref y) (.cell cs1.length) := ⟨y, by rw [← C1.len]; exact pre_snoc_get ps1 y, rfl⟩
  have ux : Up G1 ps1 G1 (ps1 ++ [y]) := ⟨Same.refl _, List.prefix_append _ _⟩
  refine ⟨G1, pick (ps1 ++ [y]) κ, svs, d, _, d2, h, Nat.eq_of_beq_eq_true hn, Cb.enterG S nd, RenA.repsG hren (.cons ry (RepVs.mono ux r1)), fun v G' ps' H' C' u' r' => ?_⟩
  obtain ⟨C2, back⟩ := Cb.leaveG S nd C' hq hda hs
  cases (r' : Rep _ _ _ _)
  exact ⟨rfl, q (.ref y) G' _ H' C2 ((u1.trans ux).trans ⟨u'.s, List.prefix_append _ _⟩) (RepV.mono ⟨u'.s, List.prefix_append _ _⟩ ry)⟩
end
/-! ### as the printed texts want it -/
theorem lkF_here {k : Str} {v : SV} {r : List (Str × SV)} : List.lookup k ((k, v) :: r) = some v := by
  rw [List.lookup_cons, beq_self_eq_true]
theorem lkF_past {k g : Str} {v : SV} {r : List (Str × SV)} {o : Option SV} (h : (k == g) = false) (t : List.lookup k r = o) : List.lookup k ((g, v) :: r) = o := by
  rw [List.lookup_cons, h]
  exact t
theorem lkF_nil {k : Str} : List.lookup k ([] : List (Str × SV)) = none := rfl
theorem pfS_nil {f : Str} {s : SV} : putFS f s [] = [(f, s)] := rfl
theorem pfS_here {f : Str} {s x : SV} {r : List (Str × SV)} : putFS f s ((f, x) :: r) = (f, s) :: r := if_pos rfl
theorem pfS_past {f g : Str} {s x : SV} {r r' : List (Str × SV)} (h : ¬ g = f) (t : putFS f s r = r') : putFS f s ((g, x) :: r) = (g, x) :: r' := (if_neg h).trans (congrArg _ t)
section
variable {X : Cx} {na : NA} {sl : Sl} {cs cs1 cs2 cs3 : Cs} {s : SV} {pos p2 tpos : Pos} {E : DEnds} {o e : Expr} {k : Nat} {C : Addr} {fs fs' : List (Str × SV)} {f : Str}
theorem s1_fldE (hv : EV X na e sl cs s cs1) (ho : EV X na o sl cs1 (.cell k) cs2) (hc : cs2[k]? = some (.ins C fs)) (c : Cls X.K C) (nf : NoAttr X.K C f) (hz : Nat.blt fs.length 1000 = true) (hp : putFS f s fs = fs') (pc : PutC cs2 k (.ins C fs') cs3) (q : E.nx sl cs3)
    (hs : swapsWith e (some (.Attribute o f p2)) pos.line X.env = pure false := by rfl) : S1 X na (.Assign [.Attribute o f p2] e pos) sl cs E := by
  subst hp
  exact s1_fld hv ho hc c nf hz pc q hs
theorem s1_fldaugE {i j : Int} (ho : EV X na o sl cs (.cell k) cs1) (hc : cs1[k]? = some (.ins C fs)) (c : Cls X.K C) (nf : NoAttr X.K C f) (l : fs.lookup f = some (.val (.int i))) (hv : EV X na e sl cs1 (.val (.int j)) cs1) (hz : Nat.blt fs.length 1000 = true) (hp : putFS f (.val (.int (i + j))) fs = fs') (pc : PutC cs1 k (.ins C fs') cs3) (q : E.nx sl cs3) :
    S1 X na (.AugAssign (.Attribute o f tpos) .Add e pos) sl cs E := by
  subst hp
  exact s1_fldaug ho hc c nf l hv hz pc q
end
end DL
namespace DL
open PySem PySem.Spec PyProof.Rows L2
/-! ### enumerate(tuple) -/
section
theorem meets_enumerate_newT (l : Addr) (items : Array Value) (n : Nat) (dct : Option Addr) (sl : Array (Option Value)) :
    Meets (Builtin.«enumerate.__new__» ⟨[.type "enumerate", .ref l], []⟩) (fun _ R s => s.heap.get? l = some { cls := .type "tuple", dict := dct, data := .seq items n, slots := sl } ∧
      R (.ok (.ret (.ref (s.heap.push { cls := .type "tuple_iterator", data := .fields #[.ref l, .int 0 0] }).objs.size)))
        { s with heap := (s.heap.push { cls := .type "tuple_iterator", data := .fields #[.ref l, .int 0 0] }).push { cls := .type "enumerate", data := .fields #[.none, .bool false, .ref s.heap.objs.size, rawInt 0, .none, .none] } }) :=
  .of_wp fun prog w A R s h => by
    obtain ⟨hp, g, d, tk, os⟩ := s; obtain ⟨hl, h⟩ := h
    have hsub := sub_enumerate
    have hL : Heap.IsTuple (Shared.heap ⟨hp, g, d, tk, os⟩) l items := ⟨_, hl, rfl, n, rfl⟩
    wp_walk using wpAny_loadPart' hl
    refine wpAny_stack_any fun st => wpAny_pure ?_
    split
    · rename_i c _ _ _ _ _
      cases (c == Value.type "enumerate")
      · wp_walk using wpAny_loadPart' hl, wpAny_pyIter_tuple hL
        exact ⟨_, rfl, h⟩
      · wp_walk using wpAny_loadPart' hl, wpAny_pyIter_tuple hL
        exact ⟨_, rfl, h⟩
    · wp_walk using wpAny_loadPart' hl, wpAny_pyIter_tuple hL
      exact ⟨_, rfl, h⟩
variable {prog : Program} {w : World} {A : Around} {E : Value → Shared → Prop} {s : Shared}
theorem call_enumerate_tuple {l : Addr} {items : Array Value} {Q : Value → Shared → Prop} (hL : s.heap.IsTuple l items)
    (h : ∀ h', IsEnum h' (s.heap.objs.size + 1) s.heap.objs.size 0 .none → h'.IsTupleIter s.heap.objs.size l 0 → h'.objs.size = s.heap.objs.size + 2 →
      (∀ b o, s.heap.get? b = some o → h'.get? b = some o) → Q (.ref (s.heap.objs.size + 1)) { s with heap := h' }) :
    wpAny (model prog w) A (call (.type "enumerate") [.ref l]) Q E s := by
  obtain ⟨⟨c, dct, dt, sl⟩, hl, hc, n, hd⟩ := hL
  replace hc : c = .type "tuple" := hc
  replace hd : dt = .seq items n := hd
  subst hc hd
  refine callType_new F.called_enumerate (by decide) (F.typeCall_enumerate_1 _) (F.newCall_enumerate_1 _) (fun obj => F.args_object_init_2 obj _) F.entry_enumerate_new
    (meets_enumerate_newT l items n dct sl) ⟨hl, ?_⟩
  have hz : (s.heap.push { cls := .type "tuple_iterator", data := .fields #[.ref l, .int 0 0] }).objs.size = s.heap.objs.size + 1 := Heap.size_push ..
  show _ ∧ _
  rw [hz]
  have he : IsEnum ((s.heap.push { cls := .type "tuple_iterator", data := .fields #[.ref l, .int 0 0] }).push
      { cls := .type "enumerate", data := .fields #[.none, .bool false, .ref s.heap.objs.size, rawInt 0, .none, .none] }) (s.heap.objs.size + 1) s.heap.objs.size 0 .none := by
    have := Heap.get?_push_size (s.heap.push { cls := .type "tuple_iterator", data := .fields #[.ref l, .int 0 0] })
      (o := { cls := .type "enumerate", data := .fields #[.none, .bool false, .ref s.heap.objs.size, rawInt 0, .none, .none] }) rfl
    rw [hz] at this; exact this
  refine ⟨⟨_, he, rfl⟩, h _ he ⟨_, Heap.get?_push_of_some _ (Heap.get?_push_size _ rfl), rfl, rfl⟩ (by rw [Heap.size_push, hz]) fun b o x => Heap.get?_push_of_some _ (Heap.get?_push_of_some _ x)⟩
/-- a tuple's iterator, as enumerate draws from it -/
theorem draws_tuple (hh : A.handled = none) {it l : Addr} {items : Array Value} (hne : l ≠ it) : Draws prog w A it [it, l] items.size (fun i x => items[i]? = some x) (fun i h => h.IsTupleIter it l i ∧ h.IsTuple l items) where
  live := fun i h ⟨⟨o, q, _⟩, _⟩ => ⟨o, q⟩
  frame := fun i h h' ⟨h1, ⟨o, q, r⟩⟩ k => ⟨h1.at fun o q => k it (by simp) o q, ⟨o, k l (by simp) o q, r⟩⟩
  item := fun i s Q E hi ⟨h1, h2⟩ hQ => RZ.nextOf_tuple_item h1 h2 (x := items[i]) (by simp [hi]) fun h' hit hs => hQ _ h' s.toks (by simp [hi]) ⟨hit, by
    obtain ⟨o, q, r⟩ := h2
    exact ⟨o, (hs.2 l hne).trans q, r⟩⟩ hs
  done := fun s Q E ⟨h1, h2⟩ hE => RZ.nextOf_tuple_end hh h1 h2 (by simp) hE
end
def IteT (K : PySem.W.Frag) (a : Addr) : It :=
  ⟨fun i H => ∃ (xs : List V) (x : V), SqT K H a xs ∧ xs[i]? = some x, fun i H v H' => ∃ T x, v = .ref T ∧ H T = none ∧ H' = upd H T (.tup [.int (i : Nat), x]) ∧ ∀ xs, SqT K H a xs → xs[i]? = some x, fun i H => ∃ xs : List V, SqT K H a xs ∧ xs.length ≤ i⟩
theorem turn_enumT {P : Program} {w : World} {K : PySem.W.Frag} {elts : List Expr} {kk : Nat} {tpos : Pos} (a e it : Addr) :
    Turn P w K (.Tuple elts kk tpos) (IteT K a) [e, it] e (fun i h => (∃ old, IsEnum h e it ((i : Nat) : Int) old) ∧ h.IsTupleIter it a i ∧ e ≠ it ∧ a ≠ it) where
  mem := by simp
  obj := fun i h st b hb => by
    obtain ⟨⟨old, he⟩, ⟨o, ho, hc, hd⟩, _⟩ := st
    have e' : b = e ∨ b = it := by simpa using hb
    rcases e' with z | z
    · rw [z]; exact ⟨_, he, fun v q => nomatch q⟩
    · rw [z]; exact ⟨o, ho, fun v q => by rw [hd] at q; cases q⟩
  keep := fun i h h' st k => let ⟨⟨old, he⟩, hi, hne⟩ := st; ⟨⟨old, k e (by simp) _ he⟩, hi.at fun o q => k it (by simp) o q, hne⟩
  item := by
    intro X hP hw hK hc i pins s σ H E I hf st hg
    subst hP hw hK
    obtain ⟨⟨old, he⟩, hit, hne, hai⟩ := st
    obtain ⟨xs, x, hq, hx⟩ := hg
    obtain ⟨its, rv, p, hz⟩ := I.tuple hq
    obtain ⟨u, hu, ru⟩ := rv.get hx
    have p : s.heap.IsTuple a its.toArray := p
    have hel : e < s.heap.objs.size := Heap.lt_size he
    have hil : it < s.heap.objs.size := by obtain ⟨_, q, _⟩ := hit; exact Heap.lt_size q
    have hea : e ≠ a := fun z => by
      obtain ⟨o, q, r, _⟩ := p
      rw [← z, he] at q
      cases q
      exact absurd (Value.type.inj r) (by decide)
    have hh : X.A.in1.handled = none := I.ok.hd hc
    refine wpAny_pyNext_enum_itemD (draws_tuple hh (items := its.toArray) hai) he ⟨hit, p⟩ (by
      have := (List.getElem?_eq_some_iff.mp hu).1
      simpa using this) hne (by simp [hne, hea]) fun x' h' tk hx' ho hst hT hsz hk => ?_
    have ex : x' = u := by
      have hx' : its.toArray[i]? = some x' := hx'
      rw [List.getElem?_toArray, hu] at hx'
      exact (Option.some.inj hx').symm
    subst ex
    obtain ⟨hit', _⟩ := hst
    refine ⟨_, rfl, wpAny_letOwnedTupleGo_enum (s := { s with heap := h', toks := tk + 1 }) ho fun h'' he' sb => ?_⟩
    have hT2 : h''.get? s.heap.objs.size = some { cls := .type "tuple", data := .seq #[.int i tk, x'] } := (sb.2 _ (Nat.ne_of_gt hel)).trans hT
    have new : ObjOk X.prog X.w (upd H s.heap.objs.size (.tup [.int (i : Nat), x])) h'' s.heap.objs.size (.tup [.int (i : Nat), x]) :=
      ⟨by show 2 ≤ sizeLine; decide, [.int i tk, x'], .cons ⟨_, rfl⟩ (.cons ru .nil), ⟨_, hT2, rfl, _, rfl⟩⟩
    have I1 : Inv X pins σ (upd H s.heap.objs.size (.tup [.int (i : Nat), x])) { s with heap := h'', toks := tk + 1 } :=
      I.turnedNew (ch := [e, it]) (fun b ob hb q => (sb.2 b (fun z => hb (by simp [z]))).trans (hk b ob (fun z => hb (by simp [z])) (fun z => hb (by simp [z])) q)) hf (Nat.le_refl _) new
    refine ⟨.ref s.heap.objs.size, _, I1, rfl, ⟨_, x, rfl, I.hok.fresh (Nat.le_refl _), rfl, fun ys hy => by rw [I.tuple_inj hy hq]; exact hx⟩, ⟨⟨x', ?_⟩, hit'.at fun o q => (sb.2 it (Ne.symm hne)).trans q, hne, hai⟩, fun b hb => ?_⟩
    · have e1 : ((i + 1 : Nat) : Int) = (i : Int) + 1 := by omega
      rw [e1]; exact he'
    · have hb' : b < s.heap.objs.size := by
        have e' : b = e ∨ b = it := by simpa using hb
        rcases e' with z | z
        · rw [z]; exact hel
        · rw [z]; exact hil
      rw [upd_ne (Nat.ne_of_lt hb')]
      exact (hf b hb).1
  done := by
    intro X hP hw hK hc i pins s σ H E I hf st hg
    subst hP hw hK
    obtain ⟨⟨old, he⟩, hit, hne, hai⟩ := st
    obtain ⟨xs, hq, hx⟩ := hg
    obtain ⟨its, rv, p, hz⟩ := I.tuple hq
    obtain ⟨f0, f1, f2, f3, f4, f5⟩ := hf it (by simp)
    have p : s.heap.IsTuple a its.toArray := p
    have hl := rv.length
    have hh : X.A.in1.handled = none := I.ok.hd hc
    have hT : s.TypeIs (.ref e) "enumerate" := ⟨_, he, rfl⟩
    show wpAny _ _ (pyNext (.ref e)) _ _ _
    unfold pyNext
    refine wpAny_bind (wpAny_attempt (wpAny_callSpecial?_slot (name := Str.ofString "__next__") hT F.slot_enumerate_next
      (wpAny_call_entry F.slot_enumerate_next hT F.entry_enumerate_next ?_ (F.args_enumerate_next_1 _))))
    show wpAny _ _ (field (.ref e) 2 >>= _) _ _ _
    refine wpAny_bind (wpAny_field he rfl (x := .ref it) rfl ?_)
    refine wpAny_bind (RZ.nextOf_tuple_end hh hit p (by simp; omega) fun h' x he' hx' => ?_)
    obtain ⟨o, ho, hc⟩ := hx'
    refine wpAny_bind (wpAny_isInstance (T := "StopIteration") (b := true) ⟨o, ho, hc⟩ isSubtype_stop ?_)
    exact wpAny_pure ⟨rfl, I.turned (t' := s.toks) (fun b o hb q => he' b o hb q) f0 f1 f3 f4 f5⟩
  self := fun A i s Q E st h => let ⟨⟨_, he⟩, _⟩ := st; wpAny_pyIter_enum he h
def iEnumT (K : PySem.W.Frag) (ta : TA) : TI := fun σ H R => ta σ H fun vs H1 => ∃ a xs, vs = [.ref a] ∧ SqT K H1 a xs ∧ R (IteT K a) H1
theorem pi_enumT {X : Cx} {e : Expr} {ta : TA} {p pos tpos : Pos} {elts : List Expr} {kk : Nat} (hg : Gl X "enumerate") (hm : X.mg "enumerate" = none) (ha : PA X [e] ta) (hs : starEach [e] X.env = [(false, eval e X.env)] := by rfl) :
    PI X (.Tuple elts kk tpos) (.Call (.Name "enumerate" p) [e] [] pos) (iEnumT X.K ta) := by
  refine ⟨fun pins s σ H R I h => ?_⟩
  refine Call_ (ld_blt I hg hm boot_enumerate (PyProof.Rows.callWith_type1 (thn (ha.run pos pins s σ H _ I h) fun us s1 ⟨vs, H1, I1, r1, q1⟩ => ?_) hs rfl))
  obtain ⟨a, xs, ex, hq, q⟩ := q1
  subst ex
  cases r1 with
  | cons r rr =>
    cases rr
    cases r
    obtain ⟨its, rv, p', hz⟩ := I1.tuple hq
    have p' : s1.heap.IsTuple a its.toArray := p'
    refine call_enumerate_tuple p' fun h' he hit hsz hk => wpAny_pyIter_enum he ?_
    have I2 : Inv X pins σ H1 { s1 with heap := h' } := I1.kept (t' := s1.toks) hk
    have hai : a ≠ s1.heap.objs.size := by
      obtain ⟨_, q, _⟩ := p'
      exact Nat.ne_of_lt (Heap.lt_size q)
    refine ⟨s1.heap.objs.size + 1, [s1.heap.objs.size + 1, s1.heap.objs.size], _, _, H1, rfl, I2, turn_enumT a (s1.heap.objs.size + 1) s1.heap.objs.size, ⟨⟨.none, he⟩, hit, Nat.succ_ne_self _, hai⟩, fun b hb => ?_, q⟩
    have e' : b = s1.heap.objs.size + 1 ∨ b = s1.heap.objs.size := by simpa using hb
    have hle : s1.heap.objs.size ≤ b := by
      rcases e' with z | z
      · rw [z]; exact Nat.le_add_right _ _
      · rw [z]; exact Nat.le_refl _
    exact I1.fpOk hle (I1.hok.fresh hle)
section
variable {X : Cx} {na : NA} {sl sl' : Sl} {cs cs1 cs2 cs3 : Cs} {s t u : SV} {pos spos p : Pos} {x : Str} {E : DEnds} {N : List Str} {a b iter : Expr} {tg : Expr} {tpos apos cpos : Pos} {elts : List Expr} {kk : Nat}
theorem iv_enumT {α : Type} {f : α → PyData} {l : List α} (hm : X.mg "enumerate" = none) (hg : Gl X "enumerate") (h : EV X na a sl cs (.val (.tuple (l.map f))) cs1) (hs : starEach [a] X.env = (false, eval a X.env) :: starEach [] X.env := by rfl) :
    IV X na (.Tuple elts kk tpos) (.Call (.Name "enumerate" p) [a] [] pos) sl cs ((enumL l).map (enP f)) (fun _ => True) cs1 :=
  iv_of (pi_enumT hg hm pa_any hs) fun B G ps σ H hn C S R r => (av_cons h av_nil hs) B G ps σ H hn C S _ fun vs G1 ps1 H1 C1 u1 r1 => by
    cases r1 with
    | cons r1 r2 =>
    cases r2
    obtain ⟨ad, ws, rfl, h1, h2⟩ := Rep.tupI r1
    have hlen : ws.length = l.length := h2.length.trans (by rw [List.length_map])
    refine ⟨ad, ws, rfl, Same.seqT C1.gh h1, r _ (fun H => ∃ vs, SqT X.K H ad vs ∧ vs.length = ws.length ∧ vs = ws) (fun i H v H' => ∃ T x, v = .ref T ∧ H T = none ∧ H' = upd H T (.tup [.int (i : Nat), x]) ∧ ∀ vs, SqT X.K H ad vs → vs[i]? = some x) G1 ps1 H1 C1 u1 ?_ ?_ ?_⟩
    · rw [List.length_map, enumL_len]
      rw [← hlen]
      refine ⟨fun i H hi ⟨vs, q, l, _⟩ => ⟨vs, vs[i]'(by omega), q, by simp [show i < vs.length by omega]⟩, fun H ⟨vs, q, l, _⟩ => ⟨vs, q, Nat.le_of_eq l⟩, fun i H v H' hi q y => ?_⟩
      obtain ⟨T, x, h1, h2, h3, h4⟩ := y
      exact ⟨T, x, h1, h2, h3, h4⟩
    · intro G' ps' cs' H' C' u' g
      exact ⟨ws, Same.seqT C'.gh (Same.seqT u'.s h1), rfl, rfl⟩
    · intro i H' v H'' G' ps' cs' y C' u' g
      obtain ⟨T, x, rfl, hT, rfl, e⟩ := y
      have e1 := e ws (Same.seqT C'.gh (Same.seqT u'.s h1))
      obtain ⟨d, ed, rd⟩ := h2.getV e1
      rw [List.getElem?_map] at ed
      obtain ⟨z0, ez0, rfl⟩ := Option.map_eq_some_iff.mp ed
      obtain ⟨G'', c1, c2, c3, c4, c5⟩ := C'.pair hT (Rep.int (K := X.K) (G := G') (i : Nat)) (Rep.mono u'.s rd)
      refine ⟨_, G'', ?_, c1, c2, c3, c4, c5⟩
      rw [List.getElem?_map, enumL_at, ez0]
      rfl
/-- for x, y in zip(t, u), tuples of data -/
theorem iv_zipT {α β : Type} {f : α → PyData} {g : β → PyData} {l : List α} {m : List β} (hm : X.mg "zip" = none) (hg : Gl X "zip") (ha : EV X na a sl cs (.val (.tuple (l.map f))) cs1) (hb : EV X na b sl cs1 (.val (.tuple (m.map g))) cs2) (hs : starEach [a, b] X.env = (false, eval a X.env) :: starEach [b] X.env := by rfl) (hs2 : starEach [b] X.env = (false, eval b X.env) :: starEach [] X.env := by rfl) (hpl : (backTo pos (starEach [b] X.env)).any (·.1) = false := by rfl) :
    IV X na (.Tuple elts kk tpos) (.Call (.Name "zip" p) [a, b] [] pos) sl cs ((l.zip m).map fun q => SV.val (.tuple [f q.1, g q.2])) (fun _ => True) cs2 :=
  iv_of (RZ.pi_zipA hg hm pa_any hs hpl) fun B G ps σ H hn C S R r => (av_cons ha (av_cons hb av_nil hs2) hs) B G ps σ H hn C S _ fun vs G1 ps1 H1 C1 u1 r1 => by
    cases r1 with
    | cons r1 r2 =>
    cases r2 with
    | cons r2 r3 =>
    cases r3
    obtain ⟨ad, ws, rfl, h1, h2⟩ := Rep.tupI r1
    obtain ⟨bd, zs, rfl, h3, h4⟩ := Rep.tupI r2
    have hl1 : ws.length = l.length := h2.length.trans (by rw [List.length_map])
    have hl2 : zs.length = m.length := h4.length.trans (by rw [List.length_map])
    refine ⟨ad, bd, ws, zs, rfl, .inr ⟨Same.seqT C1.gh h1, Same.seqT C1.gh h3, r _ (fun H => SqT X.K H ad ws ∧ SqT X.K H bd zs) (fun i H v H' => ∃ T x y, v = .ref T ∧ H T = none ∧ H' = upd H T (.tup [x, y]) ∧ ws[i]? = some x ∧ zs[i]? = some y) G1 ps1 H1 C1 u1 ?_ ?_ ?_⟩⟩
    · rw [List.length_map, List.length_zip, ← hl1, ← hl2]
      refine ⟨fun i H hi ⟨q1, q2⟩ => ⟨ws, zs, ws[i]'(by omega), zs[i]'(by omega), q1, q2, by simp [show i < ws.length by omega], by simp [show i < zs.length by omega]⟩, fun H ⟨q1, q2⟩ => ⟨ws, zs, q1, q2, by omega⟩, fun i H v H' hi q y => ?_⟩
      obtain ⟨T, x, y, h1, h2, h3, h4, h5⟩ := y
      exact ⟨T, x, y, h1, h2, h3, h4 _ q.1, h5 _ q.2⟩
    · intro G' ps' cs' H' C' u' g
      exact ⟨Same.seqT C'.gh (Same.seqT u'.s h1), Same.seqT C'.gh (Same.seqT u'.s h3)⟩
    · intro i H' v H'' G' ps' cs' y C' u' g
      obtain ⟨T, x, y, rfl, hT, rfl, e1, e2⟩ := y
      obtain ⟨d, ed, rd⟩ := h2.getV e1
      obtain ⟨d2, ed2, rd2⟩ := h4.getV e2
      rw [List.getElem?_map] at ed ed2
      obtain ⟨z0, ez0, rfl⟩ := Option.map_eq_some_iff.mp ed
      obtain ⟨z1, ez1, rfl⟩ := Option.map_eq_some_iff.mp ed2
      obtain ⟨G'', c1, c2, c3, c4, c5⟩ := C'.pair hT (Rep.mono u'.s rd) (Rep.mono u'.s rd2)
      refine ⟨_, G'', ?_, c1, c2, c3, c4, c5⟩
      have ez : (l.zip m)[i]? = some (z0, z1) := List.getElem?_zip_eq_some.mpr ⟨ez0, ez1⟩
      rw [List.getElem?_map, ez]
      rfl
/-- for k, v in d.items(), d locked -/
theorem iv_items {α : Type} {f : α → PyData} {k : Nat} {od : Obj} {us : List (Key × V)} {kvs : List (Str × α)} (h : EV X na a sl cs (.cell k) cs1) (hl : cs1[k]? = some (.frz od us (svK (kvT f kvs)))) (hbase : attributeBase a "items" X.env (eval a X.env) = eval a X.env := by rfl) (hline : (apos.endLine == cpos.line) = true := by rfl) :
    IV X na (.Tuple elts kk tpos) (.Call (.Attribute a "items" apos) [] [] cpos) sl cs (kvs.map fun q => SV.val (.tuple [.str q.1, f q.2])) (fun cs' => cs'[k]? = some (.frz od us (svK (kvT f kvs)))) cs1 :=
  iv_of (pi_items pe_any hbase hline) fun B G ps σ H hn C S R r => h B G ps σ H hn C S _ fun v G1 ps1 H1 C1 u1 r1 => by
    obtain ⟨ad, rfl, ea, h1, h2⟩ := C1.cellAt r1 hl
    have hlen : us.length = kvs.length := (Paired.length h2).trans (by unfold svK kvT; rw [List.length_map, List.length_map])
    refine ⟨ad, od, us, rfl, h1, r _ (fun H => H ad = some (.frz od (.dK us))) _ G1 ps1 H1 C1 u1 (by rw [List.length_map, ← hlen]; exact walk_items) (fun G' ps' cs' H' C' u' g => (C'.cell k ad _ (pre_get u'.p ea) g).1.1) ?_⟩
    intro i H' v' H'' G' ps' cs' y C' u' g
    obtain ⟨T, x, z, rfl, hT, rfl, e1, e2⟩ := y
    have rk := (C'.cell k ad _ (pre_get u'.p ea) g).1.2
    obtain ⟨q, eq, rfl⟩ := Option.map_eq_some_iff.mp e1
    have e2 : us[i]?.map Prod.snd = some z := e2
    rw [eq] at e2
    cases e2
    obtain ⟨⟨k2, s2⟩, es, ek, rs⟩ := pd_getL rk eq
    unfold svK kvT at es
    rw [List.getElem?_map, List.getElem?_map] at es
    obtain ⟨z', ez, e2⟩ := Option.map_eq_some_iff.mp es
    obtain ⟨z0, ez0, rfl⟩ := Option.map_eq_some_iff.mp ez
    cases e2
    have ek : q.1 = Sum.inr z0.1 := ek
    rw [ek] at *
    obtain ⟨G'', c1, c2, c3, c4, c5⟩ := C'.pair hT (x := kV (Sum.inr z0.1)) (d := .str z0.1) (Rep.str _) rs
    refine ⟨_, G'', ?_, c1, c2, c3, c4, c5⟩
    rw [List.getElem?_map, ez0]
    rfl
end
end DL
namespace DL
open PySem PySem.Spec PyProof.Rows L2
/-! ### zip(tuple, list): what zip draws from, told by itself -/
section
variable {prog : Program} {w : World} {A : Around} {E : Value → Shared → Prop} {s : Shared}
/-- an iterator at i over what lies at l: S k says that k things have been drawn -/
structure Src (prog : Program) (w : World) (i l : Addr) (n : Nat) (at_ : Nat → Value → Prop) (S : Nat → Heap → Prop) : Prop where
  fr : ∀ k c h h', c ≠ i → c ≠ l → Heap.ExtBut c h h' → S k h → S k h'
  item : ∀ (A : Around) (E : Value → Shared → Prop) (s : Shared) (k : Nat) (x : Value) (Q : Value → Shared → Prop), at_ k x → S k s.heap → (∀ h', S (k + 1) h' → Heap.SameBut i s.heap h' → Q x { s with heap := h' }) → wpAny (model prog w) A (Builtin.SmallTypes.nextOf (.ref i)) Q E s
  done : ∀ (A : Around) (E : Value → Shared → Prop) (s : Shared) (k : Nat) (Q : Value → Shared → Prop), A.handled = none → n ≤ k → S k s.heap → (∀ h' e, Heap.ExtBut i s.heap h' → (∃ o, h'.get? e = some o ∧ o.cls = .type "StopIteration") → E (.ref e) { s with heap := h' }) → wpAny (model prog w) A (Builtin.SmallTypes.nextOf (.ref i)) Q E s
theorem src_tup {i l : Addr} {vs : Array Value} : Src prog w i l vs.size (fun k x => vs[k]? = some x) (fun k h => h.IsTupleIter i l k ∧ h.IsTuple l vs ∧ l ≠ i) where
  fr k c h h' c1 c2 x := fun ⟨a, b, n⟩ => ⟨a.extBut x (Ne.symm c1), b.extBut x (Ne.symm c2), n⟩
  item A E s k x Q hx := fun ⟨a, b, n⟩ hQ => RZ.nextOf_tuple_item a b hx fun h' a' sb => hQ h' ⟨a', b.extBut sb.extBut n, n⟩ sb
  done A E s k Q hh hk := fun ⟨a, b, n⟩ hE => RZ.nextOf_tuple_end hh a b (by simp [hk]) hE
theorem src_lst {i l : Addr} {vs : Array Value} : Src prog w i l vs.size (fun k x => vs[k]? = some x) (fun k h => h.IsListIter i l k ∧ h.IsList l vs ∧ l ≠ i) where
  fr k c h h' c1 c2 x := fun ⟨a, b, n⟩ => ⟨a.extBut x (Ne.symm c1), b.extBut x (Ne.symm c2), n⟩
  item A E s k x Q hx := fun ⟨a, b, n⟩ hQ => wpAny_nextOf_list_item a b hx fun h' a' sb => hQ h' ⟨a', b.extBut sb.extBut n, n⟩ sb
  done A E s k Q hh hk := fun ⟨a, b, n⟩ hE => wpAny_nextOf_list_end hh a b (by simp [hk]) hE
variable {z TI TO i1 i2 l1 l2 : Addr} {n1 n2 : Nat} {p1 p2 : Nat → Value → Prop} {S1 S2 : Nat → Heap → Prop} {k : Nat} {x y a b : Value}
/-- one pair more -/
theorem zipS_item {Q : Value → Shared → Prop} (D : ZipApart z TI TO i1 i2 l1 l2) (s1 : Src prog w i1 l1 n1 p1 S1) (s2 : Src prog w i2 l2 n2 p2 S2)
    (hz : IsZip s.heap z TI TO .none) (hTI : IsPair s.heap TI (.ref i1) (.ref i2)) (hTO : IsPair s.heap TO a b) (h1 : S1 k s.heap) (h2 : S2 k s.heap) (hx : p1 k x) (hy : p2 k y)
    (hQ : ∀ h', IsZip h' z TI TO (rawInt s.heap.objs.size) → IsPair h' TO x y → S1 (k + 1) h' → S2 (k + 1) h' → IsPair h' s.heap.objs.size x y →
      (∀ c o, c ≠ z → c ≠ TO → c ≠ i1 → c ≠ i2 → s.heap.get? c = some o → h'.get? c = some o) → Q (.ref s.heap.objs.size) { s with heap := h' }) :
    wpAny (model prog w) A (Builtin.«zip.__next__» ⟨[.ref z], []⟩) (fun fin s' => ∃ v, fin = .done (.ret v) ∧ Q v s') E s := by
  show wpAny _ _ (field (.ref z) 2 >>= _) _ _ _
  refine wpAny_bind (wpAny_field hz rfl (x := .bool false) rfl ?_)
  show wpAny _ _ (field (.ref z) 3 >>= _) _ _ _
  refine wpAny_bind (wpAny_field hz rfl (x := .ref TI) rfl (wpAny_bind (wpAny_seqItems hTI rfl ?_)))
  show wpAny _ _ (Builtin.SmallTypes.ownedTupleIsFree (.ref z) >>= _) _ _ _
  refine wpAny_bind ?_
  unfold Builtin.SmallTypes.ownedTupleIsFree
  refine wpAny_bind (wpAny_field hz rfl (x := .none) rfl (wpAny_pure ?_))
  simp only [if_true]
  refine wpAny_bind (wpAny_rule (wpAny_bind (wpAny_field hz rfl (x := .ref TO) rfl (wpAny_bind (wpAny_setField_rec hz (by simp) fun g1 (z1 : IsZip g1 z TI TO .ellipsis) b1 => ?_)))))
  refine wpAny_bind ?_
  simp only [List.zipIdx_cons, List.zipIdx_nil, List.forIn_cons, List.forIn_nil]
  -- the first of the two
  refine wpAny_bind (wpAny_bind (wpAny_onRaise ?_))
  show wpAny _ _ (Builtin.SmallTypes.nextOf (.ref i1) >>= _) _ _ _
  refine wpAny_bind (s1.item _ _ _ k x _ hx (s1.fr k z _ _ D.i1z.symm D.l1z.symm b1.extBut h1) fun g2 q2 b2 => wpAny_pure ?_)
  have t2 : IsPair g2 TO a b := b2.extBut _ _ D.TOi1 (b1.extBut _ _ D.TOz hTO)
  refine wpAny_bind (wpAny_seqItems t2 rfl (wpAny_bind (wpAny_updateSeq_pair t2 fun g3 (t3 : IsPair g3 TO x b) b3 => wpAny_bind (wpAny_letGo (wpAny_pure ?_)))))
  -- the second one
  refine wpAny_bind (wpAny_bind (wpAny_onRaise ?_))
  show wpAny _ _ (Builtin.SmallTypes.nextOf (.ref i2) >>= _) _ _ _
  have q3 : S2 k g3 := s2.fr k TO _ _ D.TOi2 D.l2TO.symm b3.extBut (s2.fr k i1 _ _ D.i12 D.l2i1.symm b2.extBut (s2.fr k z _ _ D.i2z.symm D.l2z.symm b1.extBut h2))
  refine wpAny_bind (s2.item _ _ _ k y _ hy q3 fun g4 q4 b4 => wpAny_pure ?_)
  have t4 : IsPair g4 TO x b := b4.extBut _ _ D.TOi2 t3
  refine wpAny_bind (wpAny_seqItems t4 rfl (wpAny_bind (wpAny_updateSeq_pair t4 fun g5 (t5 : IsPair g5 TO x y) b5 => wpAny_bind (wpAny_letGo (wpAny_pure (wpAny_pure ?_))))))
  refine wpAny_bind (wpAny_seqItems t5 rfl (wpAny_bind (wpAny_newTuple ?_)))
  have sz : g5.objs.size = s.heap.objs.size := by rw [b5.1, b4.1, b3.1, b2.1, b1.1]
  have z5 : IsZip g5 z TI TO .ellipsis := b5.extBut _ _ D.TOz.symm (b4.extBut _ _ D.i2z.symm (b3.extBut _ _ D.TOz.symm (b2.extBut _ _ D.i1z.symm z1)))
  have k5 : ∀ c o, c ≠ z → c ≠ TO → c ≠ i1 → c ≠ i2 → s.heap.get? c = some o → g5.get? c = some o := fun c o c1 c2 c3 c4 e => b5.extBut _ _ c2 (b4.extBut _ _ c4 (b3.extBut _ _ c2 (b2.extBut _ _ c3 (b1.extBut _ _ c1 e))))
  have q5 : S1 (k + 1) g5 := s1.fr _ TO _ _ D.TOi1 D.l1TO.symm b5.extBut (s1.fr _ i2 _ _ D.i12.symm D.l1i2.symm b4.extBut (s1.fr _ TO _ _ D.TOi1 D.l1TO.symm b3.extBut q2))
  have r5 : S2 (k + 1) g5 := s2.fr _ TO _ _ D.TOi2 D.l2TO.symm b5.extBut q4
  have lz : z < g5.objs.size := Heap.lt_size z5
  show wpAny _ _ (Builtin.SmallTypes.ownedTupleHandOut (.ref z) (.ref g5.objs.size) >>= _) _ _ _
  refine wpAny_bind ?_
  unfold Builtin.SmallTypes.ownedTupleHandOut
  have z6 : IsZip (g5.push { cls := .type "tuple", data := .seq #[x, y] }) z TI TO .ellipsis := Heap.get?_push_of_some _ z5
  refine wpAny_bind (wpAny_setField_rec z6 (by simp) fun g7 (z7 : IsZip g7 z TI TO (rawInt g5.objs.size)) b7 => ?_)
  refine wpAny_setField_rec z7 (by simp) fun g8 (z8 : IsZip g8 z TI TO (rawInt g5.objs.size)) b8 => ?_
  have up : Heap.ExtBut z g5 g8 := fun c o c1 e => b8.extBut _ _ c1 (b7.extBut _ _ c1 (Heap.get?_push_of_some _ e))
  have tp : IsPair g8 g5.objs.size x y := b8.extBut _ _ (Nat.ne_of_gt lz) (b7.extBut _ _ (Nat.ne_of_gt lz) (Heap.get?_push_size _ rfl))
  refine wpAny_pure ⟨_, rfl, ?_⟩
  show Q (.ref g5.objs.size) _
  rw [sz] at z8 tp ⊢
  exact hQ g8 z8 (up _ _ D.TOz t5) (s1.fr _ z _ _ D.i1z.symm D.l1z.symm up q5) (s2.fr _ z _ _ D.i2z.symm D.l2z.symm up r5) tp fun c o c1 c2 c3 c4 e => up c o c1 (k5 c o c1 c2 c3 c4 e)
/-- no more pairs -/
theorem zipS_end {Q : Fin → Shared → Prop} (hh : A.handled = none) (D : ZipApart z TI TO i1 i2 l1 l2) (s1 : Src prog w i1 l1 n1 p1 S1) (s2 : Src prog w i2 l2 n2 p2 S2) (hx1 : ∀ k, k < n1 → ∃ x, p1 k x)
    (hz : IsZip s.heap z TI TO .none) (hTI : IsPair s.heap TI (.ref i1) (.ref i2)) (hTO : IsPair s.heap TO a b) (h1 : S1 k s.heap) (h2 : S2 k s.heap) (he : n1 ≤ k ∨ n2 ≤ k)
    (hE : ∀ h' e, (∀ c o, c ≠ z → c ≠ TO → c ≠ i1 → c ≠ i2 → s.heap.get? c = some o → h'.get? c = some o) → (∃ o, h'.get? e = some o ∧ o.cls = .type "StopIteration") → E (.ref e) { s with heap := h' }) :
    wpAny (model prog w) A (Builtin.«zip.__next__» ⟨[.ref z], []⟩) Q E s := by
  show wpAny _ _ (field (.ref z) 2 >>= _) _ _ _
  refine wpAny_bind (wpAny_field hz rfl (x := .bool false) rfl ?_)
  show wpAny _ _ (field (.ref z) 3 >>= _) _ _ _
  refine wpAny_bind (wpAny_field hz rfl (x := .ref TI) rfl (wpAny_bind (wpAny_seqItems hTI rfl ?_)))
  show wpAny _ _ (Builtin.SmallTypes.ownedTupleIsFree (.ref z) >>= _) _ _ _
  refine wpAny_bind ?_
  unfold Builtin.SmallTypes.ownedTupleIsFree
  refine wpAny_bind (wpAny_field hz rfl (x := .none) rfl (wpAny_pure ?_))
  simp only [if_true]
  refine wpAny_bind (wpAny_rule (wpAny_bind (wpAny_field hz rfl (x := .ref TO) rfl (wpAny_bind (wpAny_setField_rec hz (by simp) fun g1 (z1 : IsZip g1 z TI TO .ellipsis) b1 => ?_)))))
  refine wpAny_bind ?_
  simp only [List.zipIdx_cons, List.zipIdx_nil, List.forIn_cons, List.forIn_nil]
  refine wpAny_bind (wpAny_bind (wpAny_onRaise ?_))
  show wpAny _ _ (Builtin.SmallTypes.nextOf (.ref i1) >>= _) _ _ _
  have h1' := s1.fr k z _ _ D.i1z.symm D.l1z.symm b1.extBut h1
  by_cases hk : n1 ≤ k
  · refine wpAny_bind (s1.done _ _ _ k _ hh hk h1' fun g2 e b2 ⟨oe, e1, e2⟩ => ?_)
    have z2 : IsZip g2 z TI TO .ellipsis := b2 _ _ D.i1z.symm z1
    have ne : e ≠ z := fun q => by subst q; rw [z2] at e1; cases e1; simp at e2
    exact wpAny_setField_rec z2 (by simp) fun g3 _ b3 => hE g3 e (fun c o c1 _ c3 _ q => b3.extBut _ _ c1 (b2 _ _ c3 (b1.extBut _ _ c1 q))) ⟨oe, b3.extBut _ _ ne e1, e2⟩
  · obtain ⟨x, hx⟩ := hx1 k (by omega)
    refine wpAny_bind (s1.item _ _ _ k x _ hx h1' fun g2 q2 b2 => wpAny_pure ?_)
    have t2 : IsPair g2 TO a b := b2.extBut _ _ D.TOi1 (b1.extBut _ _ D.TOz hTO)
    refine wpAny_bind (wpAny_seqItems t2 rfl (wpAny_bind (wpAny_updateSeq_pair t2 fun g3 t3 b3 => wpAny_bind (wpAny_letGo (wpAny_pure ?_)))))
    refine wpAny_bind (wpAny_bind (wpAny_onRaise ?_))
    show wpAny _ _ (Builtin.SmallTypes.nextOf (.ref i2) >>= _) _ _ _
    have q3 : S2 k g3 := s2.fr k TO _ _ D.TOi2 D.l2TO.symm b3.extBut (s2.fr k i1 _ _ D.i12 D.l2i1.symm b2.extBut (s2.fr k z _ _ D.i2z.symm D.l2z.symm b1.extBut h2))
    refine wpAny_bind (s2.done _ _ _ k _ hh (he.resolve_left hk) q3 fun g4 e b4 ⟨oe, e1, e2⟩ => ?_)
    have z4 : IsZip g4 z TI TO .ellipsis := b4 _ _ D.i2z.symm (b3.extBut _ _ D.TOz.symm (b2.extBut _ _ D.i1z.symm z1))
    have ne : e ≠ z := fun q => by subst q; rw [z4] at e1; cases e1; simp at e2
    exact wpAny_setField_rec z4 (by simp) fun g5 _ b5 => hE g5 e (fun c o c1 c2 c3 c4 q => b5.extBut _ _ c1 (b4 _ _ c4 (b3.extBut _ _ c2 (b2.extBut _ _ c3 (b1.extBut _ _ c1 q))))) ⟨oe, b5.extBut _ _ ne e1, e2⟩
end
abbrev zm1 (h : Heap) (l1 : Addr) : Heap := h.push { cls := .type "tuple_iterator", data := .fields #[.ref l1, .int 0 0] }
abbrev zm2 (h : Heap) (l1 l2 : Addr) : Heap := (zm1 h l1).push { cls := .type "list_iterator", data := .fields #[.ref l2, .int 0 0] }
abbrev zm3 (h : Heap) (l1 l2 : Addr) : Heap := (zm2 h l1 l2).push { cls := .type "tuple", data := .seq #[.ref h.objs.size, .ref (zm1 h l1).objs.size] }
abbrev zm4 (h : Heap) (l1 l2 : Addr) : Heap := (zm3 h l1 l2).push { cls := .type "tuple", data := .seq #[.none, .none] }
abbrev zm5 (h : Heap) (l1 l2 : Addr) : Heap := (zm4 h l1 l2).push { cls := .type "zip", data := .fields #[.none, .bool false, .bool false, .ref (zm2 h l1 l2).objs.size, .ref (zm3 h l1 l2).objs.size] }
theorem meets_zipM (l1 l2 : Addr) (xs ys : Array Value) :
    Meets (Builtin.«zip.__new__» ⟨[.type "zip", .ref l1, .ref l2], []⟩) (fun _ R s => s.heap.IsTuple l1 xs ∧ s.heap.IsList l2 ys ∧ R (.ok (.ret (.ref (zm4 s.heap l1 l2).objs.size))) { s with heap := zm5 s.heap l1 l2 }) :=
  .of_wp fun prog w A R s h => by
    obtain ⟨hp, g, d, tk, os⟩ := s
    obtain ⟨q1, q2, h⟩ := h
    have hsub := sub_zip
    have t1 : Heap.IsTuple (Shared.heap ⟨hp, g, d, tk, os⟩) l1 xs := q1
    have t2 : Heap.IsList (Shared.heap ⟨zm1 hp l1, g, d, tk, os⟩) l2 ys := Heap.IsList.push q2 _
    wp_walk using wpAny_pyIter_tuple t1, wpAny_pyIter_list t2
    exact ⟨_, rfl, h⟩
theorem call_zipM {prog : Program} {w : World} {A : Around} {E : Value → Shared → Prop} {s : Shared} {l1 l2 : Addr} {xs ys : Array Value} {Q : Value → Shared → Prop} (q1 : s.heap.IsTuple l1 xs) (q2 : s.heap.IsList l2 ys)
    (h : ∀ h', IsZip h' (s.heap.objs.size + 4) (s.heap.objs.size + 2) (s.heap.objs.size + 3) .none → IsPair h' (s.heap.objs.size + 2) (.ref s.heap.objs.size) (.ref (s.heap.objs.size + 1)) → IsPair h' (s.heap.objs.size + 3) .none .none →
      h'.IsTupleIter s.heap.objs.size l1 0 → h'.IsListIter (s.heap.objs.size + 1) l2 0 → (∀ c o, s.heap.get? c = some o → h'.get? c = some o) → Q (.ref (s.heap.objs.size + 4)) { s with heap := h' }) :
    wpAny (model prog w) A (call (.type "zip") [.ref l1, .ref l2]) Q E s := by
  refine callType_new F.called_zip (by decide) (F.typeCall_zip_2 _ _) (F.newCall_zip_2 _ _) (fun obj => F.args_object_init_3 obj _ _) F.entry_zip_new (meets_zipM l1 l2 xs ys) ⟨q1, q2, ?_⟩
  have z1 : (zm1 s.heap l1).objs.size = s.heap.objs.size + 1 := Heap.size_push ..
  have z2 : (zm2 s.heap l1 l2).objs.size = s.heap.objs.size + 2 := by rw [Heap.size_push, z1]
  have z3 : (zm3 s.heap l1 l2).objs.size = s.heap.objs.size + 3 := by rw [Heap.size_push, z2]
  have z4 : (zm4 s.heap l1 l2).objs.size = s.heap.objs.size + 4 := by rw [Heap.size_push, z3]
  have up : ∀ {h : Heap} {o o' : Obj} {c : Addr}, h.get? c = some o → (h.push o').get? c = some o := fun e => Heap.get?_push_of_some _ e
  have e5 : (zm5 s.heap l1 l2).get? (zm4 s.heap l1 l2).objs.size = some _ := Heap.get?_push_size _ rfl
  have e4 : (zm5 s.heap l1 l2).get? (zm3 s.heap l1 l2).objs.size = some _ := up (Heap.get?_push_size _ rfl)
  have e3 : (zm5 s.heap l1 l2).get? (zm2 s.heap l1 l2).objs.size = some _ := up (up (Heap.get?_push_size _ rfl))
  have e2 : (zm5 s.heap l1 l2).get? (zm1 s.heap l1).objs.size = some _ := up (up (up (Heap.get?_push_size _ rfl)))
  have e1 : (zm5 s.heap l1 l2).get? s.heap.objs.size = some _ := up (up (up (up (Heap.get?_push_size _ rfl))))
  show _ ∧ _
  rw [z2, z3, z4] at e5
  rw [z1, z2] at e3
  rw [z3] at e4
  rw [z1] at e2
  rw [z4]
  exact ⟨⟨_, e5, rfl⟩, h _ e5 e3 e4 ⟨_, e1, rfl, rfl⟩ ⟨_, e2, rfl, rfl⟩ fun c o q => up (up (up (up (up q))))⟩
/-- the tuple at a, the list at b, the items in new pairs -/
def ItM (K : PySem.W.Frag) (a b : Addr) : It :=
  ⟨fun i H => ∃ (xs ys : List V) (x y : V), SqT K H a xs ∧ SqL K H b ys ∧ xs[i]? = some x ∧ ys[i]? = some y,
    fun i H v H' => ∃ T x y, v = .ref T ∧ H T = none ∧ H' = upd H T (.tup [x, y]) ∧ (∀ xs, SqT K H a xs → xs[i]? = some x) ∧ ∀ ys, SqL K H b ys → ys[i]? = some y,
    fun i H => ∃ xs ys : List V, SqT K H a xs ∧ SqL K H b ys ∧ (xs.length ≤ i ∨ ys.length ≤ i)⟩
theorem turn_zipM {P : Program} {w : World} {K : PySem.W.Frag} {elts : List Expr} {kk : Nat} {tpos : Pos} {a b z TI TO i1 i2 : Addr} (D : ZipApart z TI TO i1 i2 a b) :
    Turn P w K (.Tuple elts kk tpos) (ItM K a b) [z, TI, TO, i1, i2] z (fun i h => IsZip h z TI TO .none ∧ IsPair h TI (.ref i1) (.ref i2) ∧ (∃ x y, IsPair h TO x y) ∧ h.IsTupleIter i1 a i ∧ h.IsListIter i2 b i) where
  mem := by simp
  obj := fun i h ⟨q1, q2, ⟨x, y, q3⟩, ⟨o1, e1, _, d1⟩, ⟨o2, e2, _, d2⟩⟩ c hc => by
    simp only [List.mem_cons, List.not_mem_nil, or_false] at hc
    rcases hc with rfl | rfl | rfl | rfl | rfl
    · exact ⟨_, q1, fun v q => nomatch q⟩
    · exact ⟨_, q2, fun v q => nomatch q⟩
    · exact ⟨_, q3, fun v q => nomatch q⟩
    · exact ⟨o1, e1, fun v q => by rw [d1] at q; cases q⟩
    · exact ⟨o2, e2, fun v q => by rw [d2] at q; cases q⟩
  keep := fun i h h' ⟨q1, q2, ⟨x, y, q3⟩, r1, r2⟩ kp => ⟨kp z (by simp) _ q1, kp TI (by simp) _ q2, ⟨x, y, kp TO (by simp) _ q3⟩, r1.at fun o q => kp i1 (by simp) o q, r2.at fun o q => kp i2 (by simp) o q⟩
  item := by
    intro X hP hw hK hc i pins s σ H E I hf ⟨hz, hTI, ⟨x0, y0, hTO⟩, r1, r2⟩ ⟨xs, ys, x, y, qx, qy, ex, ey⟩
    subst hP hw hK
    obtain ⟨its, rv, m1, _⟩ := I.tuple qx
    obtain ⟨its2, rv2, m2, _⟩ := I.list qy
    obtain ⟨u, hu, ru⟩ := rv.get ex
    obtain ⟨u2, hu2, ru2⟩ := rv2.get ey
    have m1 : s.heap.IsTuple a its.toArray := m1
    have lz : z < s.heap.objs.size := Heap.lt_size hz
    have hT : s.TypeIs (.ref z) "zip" := ⟨_, hz, rfl⟩
    show wpAny _ _ (pyNext (.ref z)) _ _ _
    unfold pyNext
    refine wpAny_bind (wpAny_attempt (wpAny_callSpecial?_slot (name := Str.ofString "__next__") hT F.slot_zip_next (wpAny_call_entry F.slot_zip_next hT F.entry_zip_next (zipS_item D (src_tup (vs := its.toArray)) (src_lst (vs := its2.toArray)) hz hTI hTO ⟨r1, m1, D.l1i1⟩ ⟨r2, m2.isList, D.l2i2⟩ (show its.toArray[i]? = some u by simpa using hu) (show its2.toArray[i]? = some u2 by simpa using hu2) fun h' z' TO' r1' r2' tp kp => wpAny_pure ?_) (F.args_zip_next_1 _))))
    refine ⟨_, rfl, wpAny_letOwnedTupleGo_zip (s := { s with heap := h' }) z' fun h'' z'' sb => ?_⟩
    have tp2 : h''.get? s.heap.objs.size = some { cls := .type "tuple", data := .seq #[u, u2] } := (sb.2 _ (Nat.ne_of_gt lz)).trans tp
    have new : ObjOk X.prog X.w (upd H s.heap.objs.size (.tup [x, y])) h'' s.heap.objs.size (.tup [x, y]) := ⟨by show 2 ≤ sizeLine; decide, [u, u2], .cons ru (.cons ru2 .nil), ⟨_, tp2, rfl, _, rfl⟩⟩
    have I1 : Inv X pins σ (upd H s.heap.objs.size (.tup [x, y])) { s with heap := h'' } := I.turnedNew (t' := s.toks) (ch := [z, TI, TO, i1, i2]) (fun c o hb q => by
      simp only [List.mem_cons, List.not_mem_nil, or_false, not_or] at hb
      exact (sb.2 c hb.1).trans (kp c o hb.1 hb.2.2.1 hb.2.2.2.1 hb.2.2.2.2 q)) hf (Nat.le_refl _) new
    refine ⟨.ref s.heap.objs.size, _, I1, rfl, ⟨_, x, y, rfl, I.hok.fresh (Nat.le_refl _), rfl, fun l hl => by rw [I.tuple_inj hl qx]; exact ex, fun l hl => by rw [I.list_inj hl qy]; exact ey⟩, ⟨z'', ?_, ⟨u, u2, (sb.2 _ D.TOz).trans TO'⟩, r1'.1.at fun o q => (sb.2 _ D.i1z).trans q, r2'.1.at fun o q => (sb.2 _ D.i2z).trans q⟩, fun c hcm => ?_⟩
    · exact (sb.2 _ D.TIz).trans (kp _ _ D.TIz D.TITO D.TIi1 D.TIi2 hTI)
    · have lc : c < s.heap.objs.size := by
        simp only [List.mem_cons, List.not_mem_nil, or_false] at hcm
        rcases hcm with rfl | rfl | rfl | rfl | rfl
        · exact lz
        · exact Heap.lt_size hTI
        · exact Heap.lt_size hTO
        · obtain ⟨_, e, _⟩ := r1; exact Heap.lt_size e
        · obtain ⟨_, e, _⟩ := r2; exact Heap.lt_size e
      rw [upd_ne (Nat.ne_of_lt lc)]
      exact (hf c hcm).1
  done := by
    intro X hP hw hK hc i pins s σ H E I hf ⟨hz, hTI, ⟨x0, y0, hTO⟩, r1, r2⟩ ⟨xs, ys, qx, qy, hend⟩
    subst hP hw hK
    obtain ⟨its, rv, m1, _⟩ := I.tuple qx
    obtain ⟨its2, rv2, m2, _⟩ := I.list qy
    have m1 : s.heap.IsTuple a its.toArray := m1
    have e1 := rv.length
    have e2 := rv2.length
    have hh : X.A.in1.handled = none := I.ok.hd hc
    have hT : s.TypeIs (.ref z) "zip" := ⟨_, hz, rfl⟩
    show wpAny _ _ (pyNext (.ref z)) _ _ _
    unfold pyNext
    refine wpAny_bind (wpAny_attempt (wpAny_callSpecial?_slot (name := Str.ofString "__next__") hT F.slot_zip_next (wpAny_call_entry F.slot_zip_next hT F.entry_zip_next (zipS_end hh D (src_tup (vs := its.toArray)) (src_lst (vs := its2.toArray)) (fun k hk => ⟨its.toArray[k], by simp [hk]⟩) hz hTI hTO ⟨r1, m1, D.l1i1⟩ ⟨r2, m2.isList, D.l2i2⟩ (k := i) ?_ fun h' e kp ⟨o, q1, q2⟩ => ?_) (F.args_zip_next_1 _))))
    · rcases hend with q | q
      · exact .inl (by simp; omega)
      · exact .inr (by simp; omega)
    · refine wpAny_bind (wpAny_isInstance (T := "StopIteration") (b := true) ⟨o, q1, q2⟩ isSubtype_stop ?_)
      exact wpAny_pure ⟨rfl, I.turnedL (t' := s.toks) (ch := [z, TI, TO, i1, i2]) (fun c o hb q => by
        simp only [List.mem_cons, List.not_mem_nil, or_false, not_or] at hb
        exact kp c o hb.1 hb.2.2.1 hb.2.2.2.1 hb.2.2.2.2 q) hf⟩
  self := fun A i s Q E st h => wpAny_pyIter_zip st.1 h
def iZipM (K : PySem.W.Frag) (ta : TA) : TI := fun σ H R => ta σ H fun vs H1 => ∃ a b xs ys, vs = [.ref a, .ref b] ∧ SqT K H1 a xs ∧ SqL K H1 b ys ∧ R (ItM K a b) H1
theorem pi_zipM {X : Cx} {e e2 : Expr} {ta : TA} {p pos tpos : Pos} {elts : List Expr} {kk : Nat} (hg : Gl X "zip") (hm : X.mg "zip" = none) (ha : PA X [e, e2] ta)
    (hs : starEach [e, e2] X.env = (false, eval e X.env) :: starEach [e2] X.env := by rfl) (hpl : (backTo pos (starEach [e2] X.env)).any (·.1) = false := by rfl) : PI X (.Tuple elts kk tpos) (.Call (.Name "zip" p) [e, e2] [] pos) (iZipM X.K ta) := by
  refine ⟨fun pins s σ H R I h => Call_ (ld_blt I hg hm PyProof.Rows.boot_zip (PyProof.Rows.callWith_type1 (thn (ha.run pos pins s σ H _ I h) fun us s1 ⟨vs, H1, I1, r1, a, b, xs, ys, ex, qx, qy, q⟩ => ?_) hs hpl))⟩
  subst ex
  cases r1 with
  | cons r rr =>
  cases rr with
  | cons r' rr =>
  cases rr
  cases r
  cases r'
  obtain ⟨its, rv, m1, _⟩ := I1.tuple qx
  obtain ⟨its2, rv2, m2, _⟩ := I1.list qy
  have m1 : s1.heap.IsTuple a its.toArray := m1
  obtain ⟨o1, ho1, _⟩ := id m1
  refine call_zipM m1 m2.isList fun h' hz hTI hTO r1 r2 kp => wpAny_pyIter_zip hz ?_
  have I2 : Inv X pins σ H1 { s1 with heap := h' } := I1.kept (t' := s1.toks) kp
  refine ⟨s1.heap.objs.size + 4, [s1.heap.objs.size + 4, s1.heap.objs.size + 2, s1.heap.objs.size + 3, s1.heap.objs.size, s1.heap.objs.size + 1], _, _, H1, rfl, I2, turn_zipM (PySem.W.ktu_apart s1.heap.objs.size a b (Heap.lt_size ho1) m2.lt), ⟨hz, hTI, ⟨_, _, hTO⟩, r1, r2⟩, fun c hcm => ?_, q⟩
  have hle : s1.heap.objs.size ≤ c := by
    simp only [List.mem_cons, List.not_mem_nil, or_false] at hcm
    rcases hcm with rfl | rfl | rfl | rfl | rfl <;> first | exact Nat.le_add_right _ _ | exact Nat.le_refl _
  exact I1.fpOk hle (I1.hok.fresh hle)
section
variable {X : Cx} {na : NA} {sl sl' : Sl} {cs cs1 cs2 cs3 : Cs} {pos spos p : Pos} {a b : Expr} {tpos : Pos} {elts : List Expr} {kk : Nat}
/-- for x, y in zip(t, l), a tuple and a list of data -/
theorem iv_zipM {α β : Type} {f : α → PyData} {g : β → PyData} {l : List α} {m : List β} (hm : X.mg "zip" = none) (hg : Gl X "zip") (ha : EV X na a sl cs (.val (.tuple (l.map f))) cs1) (hb : EV X na b sl cs1 (.val (.list (m.map g))) cs2) (hs : starEach [a, b] X.env = (false, eval a X.env) :: starEach [b] X.env := by rfl) (hs2 : starEach [b] X.env = (false, eval b X.env) :: starEach [] X.env := by rfl) (hpl : (backTo pos (starEach [b] X.env)).any (·.1) = false := by rfl) :
    IV X na (.Tuple elts kk tpos) (.Call (.Name "zip" p) [a, b] [] pos) sl cs ((l.zip m).map fun q => SV.val (.tuple [f q.1, g q.2])) (fun _ => True) cs2 :=
  iv_of (pi_zipM hg hm pa_any hs hpl) fun B G ps σ H hn C S R r => (av_cons ha (av_cons hb av_nil hs2) hs) B G ps σ H hn C S _ fun vs G1 ps1 H1 C1 u1 r1 => by
    cases r1 with
    | cons r1 r2 =>
    cases r2 with
    | cons r2 r3 =>
    cases r3
    obtain ⟨ad, ws, rfl, h1, h2⟩ := Rep.tupI r1
    obtain ⟨bd, zs, rfl, h3, h4⟩ := Rep.lstI r2
    have e1 : ws.length = l.length := h2.length.trans (by rw [List.length_map])
    have e2 : zs.length = m.length := h4.length.trans (by rw [List.length_map])
    refine ⟨ad, bd, ws, zs, rfl, Same.seqT C1.gh h1, C1.gh.seq h3, r _ (fun H => SqT X.K H ad ws ∧ SqL X.K H bd zs) (fun i H v H' => ∃ T x y, v = .ref T ∧ H T = none ∧ H' = upd H T (.tup [x, y]) ∧ ws[i]? = some x ∧ zs[i]? = some y) G1 ps1 H1 C1 u1 ?_ ?_ ?_⟩
    · rw [List.length_map, List.length_zip, ← e1, ← e2]
      exact ⟨fun i H hi ⟨q1, q2⟩ => ⟨ws, zs, ws[i]'(by omega), zs[i]'(by omega), q1, q2, by simp [show i < ws.length by omega], by simp [show i < zs.length by omega]⟩, fun H ⟨q1, q2⟩ => ⟨ws, zs, q1, q2, by omega⟩, fun i H v H' hi q ⟨T, x, y, y1, y2, y3, y4, y5⟩ => ⟨T, x, y, y1, y2, y3, y4 _ q.1, y5 _ q.2⟩⟩
    · intro G' ps' cs' H' C' u' g
      exact ⟨Same.seqT C'.gh (Same.seqT u'.s h1), C'.gh.seq (u'.s.seq h3)⟩
    · intro i H' v H'' G' ps' cs' y C' u' g
      obtain ⟨T, x, y, rfl, hT, rfl, q1, q2⟩ := y
      obtain ⟨d, ed, rd⟩ := h2.getV q1
      obtain ⟨d2, ed2, rd2⟩ := h4.getV q2
      rw [List.getElem?_map] at ed ed2
      obtain ⟨z0, ez0, rfl⟩ := Option.map_eq_some_iff.mp ed
      obtain ⟨z1, ez1, rfl⟩ := Option.map_eq_some_iff.mp ed2
      obtain ⟨G'', c1, c2, c3, c4, c5⟩ := C'.pair hT (Rep.mono u'.s rd) (Rep.mono u'.s rd2)
      refine ⟨_, G'', ?_, c1, c2, c3, c4, c5⟩
      have ez : (l.zip m)[i]? = some (z0, z1) := List.getElem?_zip_eq_some.mpr ⟨ez0, ez1⟩
      rw [List.getElem?_map, ez]
      rfl
end
end DL
namespace DL
open PySem PySem.Spec PyProof.Rows L2
section
variable {X : Cx} {na : NA} {sl sl' : Sl} {cs cs1 cs2 cs3 : Cs} {s t u : SV} {pos p : Pos} {x : Str} {tg a : Expr}
theorem iv_revV {ds : List PyData} (hm : X.mg "reversed" = none) (hg : Gl X "reversed") (h : EV X na a sl cs (.val (.list ds)) cs1) (hs : starEach [a] X.env = (false, eval a X.env) :: starEach [] X.env := by rfl) : IV X na tg (.Call (.Name "reversed" p) [a] [] pos) sl cs (ds.reverse.map SV.val) (fun _ => True) cs1 :=
  iv_of (RT.pi_revA hg hm pe_any hs) fun B G ps σ H hn C S R r => h B G ps σ H hn C S _ fun v G1 ps1 H1 C1 u1 r1 => by
    obtain ⟨ad, vs, rfl, h1, h2⟩ := Rep.lstI r1
    have hl := h2.length
    refine ⟨ad, vs, rfl, .inl ⟨C1.gh.seq h1, r _ _ _ G1 ps1 H1 C1 u1 (by rw [List.length_map, List.length_reverse, ← h2.length]; exact walk_rev.mono (fun _ h => h) (fun i H x H' hi _ y => (⟨hi, y⟩ : i < vs.length ∧ _))) (fun G' ps' cs' H' C' u' g => C'.gh.seq (u'.s.seq h1)) ?_⟩⟩
    intro i H' x H'' G' ps' cs' y C' u' g
    obtain ⟨hz, rfl, e⟩ := y
    obtain ⟨d, ed, rd⟩ := h2.getV e
    refine ⟨.val d, G', ?_, C', Up.refl _ _, Rep.mono u'.s rd, Same.refl _, fun _ z => .inl z⟩
    rw [List.getElem?_map, List.getElem?_reverse (by omega), ← hl, ed]
    rfl
theorem iv_revM {α : Type} {f : α → PyData} {l : List α} (hm : X.mg "reversed" = none) (hg : Gl X "reversed") (h : EV X na a sl cs (.val (.list (l.map f))) cs1) (hs : starEach [a] X.env = (false, eval a X.env) :: starEach [] X.env := by rfl) : IV X na tg (.Call (.Name "reversed" p) [a] [] pos) sl cs (l.reverse.map fun x => SV.val (f x)) (fun _ => True) cs1 := by
  have := iv_revV (tg := tg) (pos := pos) (p := p) hm hg h hs
  rw [← List.map_reverse, List.map_map] at this
  exact this
end
/-! ### comparisons of cells within cells within cells -/
inductive IsDat3 (cs : Cs) : SV → PyData → Prop
  | base {s : SV} {d : PyData} : IsDat2 cs s d → IsDat3 cs s d
  | tup {k : Nat} {xs : List SV} {ds : List PyData} : cs[k]? = some (.tup xs) → Paired (IsDat2 cs) xs ds → IsDat3 cs (.cell k) (.tuple ds)
theorem IsDat2.dpAll {K : PySem.W.Frag} {B : Bs} {G : Hp} {ps : List Addr} {cs : Cs} {H : Hp} (C : Core K B G ps cs H) : ∀ {xs : List SV} {ds : List PyData} {vs : List V}, Paired (IsDat2 cs) xs ds → RepVs K G ps vs xs → PyData.canLayAll0 ds = true → DpAll K H vs ds
  | _, _, _, .nil, .nil, _ => .nil
  | _, _, _, .cons h t, .cons r rr, l => by
    simp only [PyData.canLayAll0, Bool.and_eq_true] at l
    exact .cons (h.dp C r l.1) (IsDat2.dpAll C t rr l.2)
theorem IsDat3.dp {K : PySem.W.Frag} {B : Bs} {G : Hp} {ps : List Addr} {cs : Cs} {H : Hp} {v : V} {s : SV} {d : PyData} (C : Core K B G ps cs H) (r : RepV K G ps v s) (h : IsDat3 cs s d) (l : d.canLay0 = true) : Dp K H v d := by
  cases h with
  | base h => exact h.dp C r l
  | tup hc hp =>
    obtain ⟨p, rfl, _, vs, h1, h2⟩ := C.cellAt r hc
    exact .tup (.inl (.inl h1)) (IsDat2.dpAll C hp h2 (by simpa only [PyData.canLay0] using l))
section
variable {X : Cx} {na : NA} {sl : Sl} {cs cs1 cs2 : Cs} {s t : SV} {pos : Pos} {a b : Expr} {d e : PyData} {k : Nat}
theorem ev_eqD3 (hr : Room k X.A) (ha : EV X na a sl cs s cs1) (hb : EV X na b sl cs1 t cs2) (hd : IsDat3 cs2 s d) (he : IsDat3 cs2 t e) (sd : SeqAt.shaped d = true) (se : SeqAt.shaped e = true) : EV X na (.Compare a [.Eq] [b] pos) sl cs (.val (.bool (PyData.eqv d e))) cs2 :=
  ev_cmp (op_eqD (by have := hr.un; omega)) (nomark _) ha hb fun B G ps H v w hn C r1 r2 Q q =>
    ⟨d, e, hd.dp C r1 (SeqAt.canLay_of_shaped sd), he.dp C r2 (SeqAt.canLay_of_shaped se), sd, se, q _ G ps H C (Up.refl _ _) (Rep.bl _)⟩
theorem tv_eqD3 (hr : Room k X.A) (ha : EV X na a sl cs s cs1) (hb : EV X na b sl cs1 t cs2) (hd : IsDat3 cs2 s d) (he : IsDat3 cs2 t e) (sd : SeqAt.shaped d = true) (se : SeqAt.shaped e = true) : TV X na (.Compare a [.Eq] [b] pos) sl cs (PyData.eqv d e) cs2 :=
  tv_cmp (op_eqD (by have := hr.un; omega)) (nomark _) ha hb fun B G ps H v w hn C r1 r2 Q q =>
    ⟨d, e, hd.dp C r1 (SeqAt.canLay_of_shaped sd), he.dp C r2 (SeqAt.canLay_of_shaped se), sd, se, q _ G ps H C (Up.refl _ _) (Rep.bl _)⟩
theorem tv_neD3 (hr : Room k X.A) (ha : EV X na a sl cs s cs1) (hb : EV X na b sl cs1 t cs2) (hd : IsDat3 cs2 s d) (he : IsDat3 cs2 t e) (sd : SeqAt.shaped d = true) (se : SeqAt.shaped e = true) : TV X na (.Compare a [.NotEq] [b] pos) sl cs (!PyData.eqv d e) cs2 :=
  tv_cmp (op_neD (by have := hr.un; omega)) (nomark _) ha hb fun B G ps H v w hn C r1 r2 Q q =>
    ⟨d, e, hd.dp C r1 (SeqAt.canLay_of_shaped sd), he.dp C r2 (SeqAt.canLay_of_shaped se), sd, se, q _ G ps H C (Up.refl _ _) (Rep.bl _)⟩
end
end DL
namespace DL
open PySem PySem.Spec PyProof.Rows L2
/-! ### xs.extend(ys), ys any list -/
theorem extend_meets (l : Addr) (xs : Array Value) (n : Nat) (b : Addr) (ys : Array Value) (n2 : Nat) (sl : Array (Option Value)) (small : ¬(!xs.isEmpty && Builtin.List.listTooLong (xs.size + ys.size)) = true) (hx : xs.size ≤ sizeLine) (hxy : xs.size + ys.size ≤ sizeLine + 1) :
    Meets (Builtin.«list.extend» ⟨[.ref l, .ref b], []⟩) (fun _ R s => s.heap.get? l = some { cls := .type "list", dict := none, data := .seq xs n, slots := #[] } ∧ s.heap.get? b = some { cls := .type "list", dict := none, data := .seq ys n2, slots := sl } ∧
      R (.ok (.ret Value.none)) { s with heap := s.heap.update l (Obj.mapSeq fun x => x ++ ys), toks := s.toks }) :=
  .of_wp fun prog w A R s h => by
    obtain ⟨hp, g, d, tk, os⟩ := s
    obtain ⟨hl, hb, h⟩ := h
    have f1 := PySem.AutoSeq1.idx_int
    have f2 := PySem.AutoSeq1.sub_tuple_tuple
    have f3 := PySem.AutoSeq1.sub_list_list
    have f4 := PySem.AutoSeq1.sub_tuple_list
    have f5 := PySem.AutoSeq1.sub_list_tuple
    have room : (xs ++ ys).size ≤ sizeLine + 1 := by rw [Array.size_append]; exact hxy
    wp_walk using (wpAny_updateSeq hl rfl (hz := hx) (_hz' := room)), PySem.AutoSeq1.wpAny_loadPart' hl, PySem.AutoSeq1.wpAny_loadPart' hb
    exact ⟨_, rfl, h⟩
theorem mt_extendS {X : Cx} : MtM X "list.extend" (fun x vs H Q => ∃ l b xs zs, x = .ref l ∧ vs = [.ref b] ∧ H l = some (.lst xs) ∧ SqL X.K H b zs ∧ xs.length + zs.length ≤ sizeLine ∧ Q .non (upd H l (.lst (xs ++ zs)))) := by
  intro pins s σ H x vs v us Q I rx rv h
  obtain ⟨l, b, xs, zs, rfl, rfl, hH, hB, hz, q⟩ := h
  cases rx
  obtain ⟨u, rfl, ru⟩ := rv.one
  cases ru
  obtain ⟨z, its, n, r, hl, e⟩ := I.lstM hH
  obtain ⟨its2, r2, ⟨o, n2, e2, c1, c2, c3⟩, z2⟩ := I.list hB
  obtain ⟨o1, o2, o3, sl⟩ := o
  simp only at c1 c2 c3
  subst c1 c2 c3
  have hl2 := r2.length
  have room : its.toArray.size + its2.toArray.size ≤ sizeLine := by
    rw [List.size_toArray, List.size_toArray]
    omega
  refine call_meets F.slot_list_extend ⟨_, e, rfl⟩ F.entry_list_extend (F.args_list_extend_2 _ _) (extend_meets l its.toArray n b its2.toArray n2 sl (by rw [notLongL room, Bool.and_false]; exact Bool.false_ne_true) (by rw [List.size_toArray]; omega) (by omega)) ⟨e, e2, ?_⟩
  exact ⟨.non, _, I.lset (its' := its ++ its2) hH e (by simp) (r.append r2) (by rw [List.length_append]; omega), rfl, q⟩
section
variable {X : Cx} {na : NA} {sl : Sl} {cs cs1 cs2 cs3 : Cs} {s t : SV} {pos : Pos}
theorem ev_extV {α : Type} {f : α → PyData} {l m : List α} {o e : Expr} {apos : Pos} {k : Nat} {ys : List SV} (ho : EV X na o sl cs (.cell k) cs1) (he : EV X na e sl cs1 t cs2) (hc1 : cs1[k]? = some (.lst ys)) (hc : cs2[k]? = some (.lst ((l.map f).map SV.val))) (hj : IsL cs2 t ((m.map f).map SV.val)) (pc : PutC cs2 k (.lst (((l ++ m).map f).map SV.val)) cs3) (hz : l.length + m.length ≤ 1000000)
    (hs : starEach [e] X.env = (false, eval e X.env) :: starEach [] X.env := by rfl)
    (hbase : attributeBase o "extend" X.env (eval o X.env) = eval o X.env := by rfl) (hfew : ((backTo pos (starEach (e :: []) X.env)).all (fun x => !x.1) && (backToKw pos (keywordEach [] X.env)).all (fun x => x.1.isSome)
      && decide ((e :: []).length + ([] : List Keyword).length + (if ([] : List Keyword).isEmpty then 0 else 1) < 30)) = true := by rfl)
    (hline : (apos.endLine == pos.line) = true := by rfl) (hplain : (backTo pos (starEach [] X.env)).any (·.1) = false := by rfl) : EV X na (.Call (.Attribute o "extend" apos) [e] [] pos) sl cs (.val .none) cs3 :=
  ev_of (pe_bm PySem.F.plainAttrs_list PySem.F.slot_list_extend PySem.F.type_list_extend mt_extendS pe_any pa_any hbase hfew hline hs hplain) fun B G ps σ H hn C S Q q => ho B G ps σ H hn C S _ fun v G1 ps1 H1 C1 u1 r1 => by
    obtain ⟨a, ea, rfl⟩ := r1
    obtain ⟨ws, hw, _⟩ := (C1.cell k a _ ea hc1).1
    refine ⟨.inl ⟨rfl, ws, SqL.of hw⟩, av_cons he av_nil hs B G1 ps1 σ H1 hn C1 (Slots.mono u1 S) _ fun vs G2 ps2 H2 C2 u2 r2 => ?_⟩
    cases r2 with
    | cons r3 r4 =>
      cases r4
      have ea2 := pre_get u2.p ea
      obtain ⟨zs, hz2, rz⟩ := (C2.cell k a _ ea2 hc).1
      obtain ⟨b, ms, rfl, hm2, rm⟩ := hj.sq C2 r3
      have hlz : zs.length = l.length := by rw [Paired.length rz, List.length_map, List.length_map]
      have hlm : ms.length = m.length := by rw [Paired.length rm, List.length_map, List.length_map]
      rw [List.map_append, List.map_append] at pc
      rw [pc.at] at q
      exact ⟨a, b, zs, ms, rfl, rfl, hz2, hm2, by rw [hlz, hlm, sizeLine_eq]; omega, q _ G2 ps2 _ (C2.put ea2 hc (by intro z; cases z) ⟨_, upd_same, pd_app rz rm⟩) (u1.trans u2) Rep.non⟩
end
end DL
namespace DL
open PySem PySem.Spec PyProof.Rows L2
/-! ### texts: once and more, cut -/
theorem strRep_one (z : Str) : strRep z 1 = z := by
  show (⟨#[] ++ z.cps⟩ : Str) = z
  rw [Array.empty_append]
theorem op_mulS1 {X : Cx} : OpR X (binaryOp .Mult) (fun x y H Q => ∃ (z : Str), x = .str z ∧ y = .int 1 ∧ z.length ≤ 1000 ∧ Q (.str z) H) := by
  intro pins s σ H x y v u Q I rx ry h
  obtain ⟨z, rfl, rfl, h4, q⟩ := h
  obtain ⟨t, rfl⟩ := rx
  obtain ⟨t', rfl⟩ := ry
  refine PySem.P.mul_str (by decide) (fun _ h => by simp at h) (fun _ h => by simp at h) ?_
  rw [if_neg (by decide), if_pos (by simp)]
  exact ⟨.str z, H, I.tok _, ⟨_, rfl⟩, q⟩
section
variable {X : Cx} {na : NA} {sl : Sl} {cs cs1 cs2 cs3 : Cs} {s t : SV} {pos p2 : Pos} {a b : Expr}
theorem ev_mulS' {z : Str} {k : Int} (ha : EV X na a sl cs (.val (.str z)) cs1) (hb : EV X na b sl cs1 (.val (.int k)) cs2) (h : 1 ≤ k ∧ k ≤ 100) (hz : 0 < z.length ∧ z.length ≤ 1000) : EV X na (.BinOp a .Mult b pos) sl cs (.val (.str (strRep z k))) cs2 := by
  by_cases hk : k = 1
  · subst hk
    rw [strRep_one]
    exact ev_op op_mulS1 ha hb fun B G ps H v w hn C h1 h2 Q q => ⟨z, Rep.strI h1, Rep.intI h2, hz.2, q _ G ps H C (Up.refl _ _) (Rep.str _)⟩
  · exact ev_mulS ha hb (by omega) hz
/-- z[:k], z[k:] -/
def takeT (z : Str) (k : Int) : Str := ⟨(z.cps.toList.take k.toNat).toArray⟩
def dropT (z : Str) (k : Int) : Str := ⟨(z.cps.toList.drop k.toNat).toArray⟩
theorem takeT_len (z : Str) (k : Int) : (takeT z k).length ≤ z.length := by
  show (z.cps.toList.take k.toNat).toArray.size ≤ z.cps.size
  rw [List.size_toArray, List.length_take, Array.length_toList]
  omega
theorem dropT_len (z : Str) (k : Int) : (dropT z k).length ≤ z.length := by
  show (z.cps.toList.drop k.toNat).toArray.size ≤ z.cps.size
  rw [List.size_toArray, List.length_drop, Array.length_toList]
  omega
theorem ev_slTS {z : Str} {k : Int} (ha : EV X na a sl cs (.val (.str z)) cs1) (hb : EV X na b sl cs1 (.val (.int k)) cs2) (hz : z.length ≤ 1000000) (h0 : 0 ≤ k) : EV X na (.Subscript a (.Slice none (some b) none p2) pos) sl cs (.val (.str (takeT z k))) cs2 :=
  ev_of (pe_slice sl_str pe_any po_none (po_some pe_any)) fun B G ps σ H hn C S Q q => ha B G ps σ H hn C S _ fun v G1 ps1 H1 C1 u1 r1 => hb B G1 ps1 σ H1 hn C1 (Slots.mono u1 S) _ fun w G2 ps2 H2 C2 u2 r2 => by
    have e : cutS z none (some k) = takeT z k := by
      have hk : k = ((k.toNat : Nat) : Int) := by omega
      unfold cutS takeT
      rw [HT.sIx_none, hk, HT.sIx_nat, List.drop_zero, Nat.sub_zero]
      have hl : z.length = z.cps.toList.length := Array.length_toList.symm
      rw [hl, ← List.take_eq_take_min]
      rfl
    refine ⟨k, Rep.intI r2, z, Rep.strI r1, by rw [sizeLine_eq]; omega, ?_⟩
    rw [e]
    exact q _ G2 ps2 H2 C2 (u1.trans u2) (Rep.str _)
theorem ev_slFS {z : Str} {k : Int} (ha : EV X na a sl cs (.val (.str z)) cs1) (hb : EV X na b sl cs1 (.val (.int k)) cs2) (hz : z.length ≤ 1000000) (h0 : 0 ≤ k) : EV X na (.Subscript a (.Slice (some b) none none p2) pos) sl cs (.val (.str (dropT z k))) cs2 :=
  ev_of (pe_slice sl_str pe_any (po_some pe_any) po_none) fun B G ps σ H hn C S Q q => ha B G ps σ H hn C S _ fun v G1 ps1 H1 C1 u1 r1 => hb B G1 ps1 σ H1 hn C1 (Slots.mono u1 S) _ fun w G2 ps2 H2 C2 u2 r2 => by
    have e : cutS z (some k) none = dropT z k := by
      have hk : k = ((k.toNat : Nat) : Int) := by omega
      unfold cutS dropT
      rw [HT.sIx_none, hk, HT.sIx_nat]
      have hl : z.length = z.cps.toList.length := Array.length_toList.symm
      rw [hl, Int.toNat_natCast]
      by_cases h : k.toNat ≤ z.cps.toList.length
      · rw [Nat.min_eq_left h, List.take_of_length_le (by rw [List.length_drop]; exact Nat.le_refl _)]
      · rw [Nat.min_eq_right (by omega), List.drop_length, List.drop_eq_nil_of_le (by omega), List.take_nil]
    refine ⟨k, Rep.intI r2, z, Rep.strI r1, by rw [sizeLine_eq]; omega, ?_⟩
    rw [e]
    exact q _ G2 ps2 H2 C2 (u1.trans u2) (Rep.str _)
end
end DL
namespace DL
open PySem PySem.Spec PyProof.Rows L2
section
variable {X : Cx} {na : NA} {sl : Sl} {cs cs1 cs2 cs3 : Cs} {s t : SV} {pos p2 : Pos} {a b c : Expr}
/-- t[k:], t a tuple -/
theorem ev_slTF {ds : List PyData} {k : Nat} (ha : EV X na a sl cs (.val (.tuple ds)) cs1) (hb : EV X na b sl cs1 (.val (.int (k : Int))) cs2) (hk : 0 < k) (hk2 : k ≤ ds.length) : EV X na (.Subscript a (.Slice (some b) none none p2) pos) sl cs (.val (.tuple (ds.drop k))) cs2 :=
  ev_of (pe_slice sl_tup pe_any (po_some pe_any) po_none) fun B G ps σ H hn C S Q q => ha B G ps σ H hn C S _ fun v G1 ps1 H1 C1 u1 r1 => hb B G1 ps1 σ H1 hn C1 (Slots.mono u1 S) _ fun w G2 ps2 H2 C2 u2 r2 => by
    obtain ⟨l, vs, rfl, h1, h2⟩ := Rep.tupI (RepV.mono u2 r1)
    have hlen : vs.length = ds.length := h2.length
    have e1 : HT.sIx vs.length 0 (some (k : Int)) = k := by rw [HT.sIx_nat, Nat.min_eq_left (by omega)]
    have e : cutV vs (some (k : Int)) none = vs.drop k := by
      unfold cutV
      rw [e1, HT.sIx_none, List.take_of_length_le (by rw [List.length_drop]; exact Nat.le_refl _)]
    refine ⟨k, Rep.intI r2, l, vs, rfl, Same.seqT C2.gh h1, ?_, ?_⟩
    · rw [e1]
      omega
    · rw [e]
      exact C2.newTup (Reps.drop k h2) fun v G3 ps3 H3 C3 u3 => q v G3 ps3 H3 C3 ((u1.trans u2).trans u3)
/-- xs[k:m] -/
theorem ev_slFTi {ds : List PyData} {k m : Int} (ha : EV X na a sl cs s cs1) (hb : EV X na b sl cs1 (.val (.int k)) cs2) (hc : EV X na c sl cs2 (.val (.int m)) cs3) (hl : IsL cs3 s (ds.map SV.val)) (h0 : 0 ≤ k) (h1 : 0 ≤ m) : EV X na (.Subscript a (.Slice (some b) (some c) none p2) pos) sl cs (.val (.list ((ds.drop k.toNat).take (m.toNat - k.toNat)))) cs3 := by
  have e1 : k = ((k.toNat : Nat) : Int) := by omega
  have e2 : m = ((m.toNat : Nat) : Int) := by omega
  rw [e1] at hb
  rw [e2] at hc
  exact ev_slFT ha hb hc hl
end
theorem any_IS {n : Int} (l : List Str) : ((l.map PyData.str).any fun z => PyData.eqv z (.int n)) = false := by
  rw [List.any_eq_false]
  intro z hz
  obtain ⟨x, _, rfl⟩ := List.mem_map.mp hz
  simp [PyData.eqv]
section
variable {X : Cx} {na : NA} {sl : Sl} {cs cs1 cs2 : Cs} {s t : SV} {pos : Pos} {a b : Expr}
theorem tv_inIS {n : Int} {l : List Str} {k : Nat} (hr : Room k X.A) (ha : EV X na a sl cs (.val (.int n)) cs1) (hb : EV X na b sl cs1 (.val (.list (l.map PyData.str))) cs2) (se : SeqAt.shaped (.list (l.map PyData.str)) = true) (hm : behindInMarks .In b = false := by rfl) : TV X na (.Compare a [.In] [b] pos) sl cs false cs2 := by
  have := tv_cmp (pos := pos) (op_inD (room_65 hr)) hm ha hb (rv_inD IsDat.val IsDat.val rfl se)
  rwa [any_IS] at this
end
end DL
namespace DL
open PySem PySem.Spec PyProof.Rows L2
/-! ### xs.reverse() -/
theorem paired_rev {α β : Type} {R : α → β → Prop} {a : List α} {b : List β} (h : Paired R a b) : Paired R a.reverse b.reverse := by
  induction h with
  | nil => exact .nil
  | cons h1 h2 ih =>
    rw [List.reverse_cons, List.reverse_cons]
    exact pd_app ih (.cons h1 .nil)
theorem mt_reverse {X : Cx} : MtM X "list.reverse" (fun x vs H Q => ∃ l xs, x = .ref l ∧ vs = [] ∧ H l = some (.lst xs) ∧ Q .non (upd H l (.lst xs.reverse))) := by
  intro pins s σ H x vs v us Q I rx rv h
  obtain ⟨l, xs, rfl, rfl, hH, q⟩ := h
  cases rx
  have hus := rv.zero
  subst hus
  obtain ⟨z, its, n, r, hl, e⟩ := I.lstM hH
  refine call_meets F.slot_list_reverse ⟨_, e, rfl⟩ F.entry_list_reverse (F.args_list_reverse_1 _) (AutoSeq1.list_reverse_list_0 l its.toArray n (by rw [List.size_toArray]; omega)) ⟨e, ?_⟩
  exact ⟨.non, _, I.lset (its' := its.reverse) (ys := xs.reverse) hH e (by simp) (paired_rev r) (by rw [List.length_reverse]; omega), rfl, q⟩
section
variable {X : Cx} {na : NA} {sl : Sl} {cs cs1 cs2 cs3 : Cs} {s t : SV} {pos apos : Pos} {a : Expr}
theorem ev_revX {k : Nat} {xs : List SV} (ha : EV X na a sl cs (.cell k) cs1) (hc : cs1[k]? = some (.lst xs)) (p : PutC cs1 k (.lst xs.reverse) cs2) (hbase : attributeBase a "reverse" X.env (eval a X.env) = eval a X.env := by rfl) (hline : (apos.endLine == pos.line) = true := by rfl) :
    EV X na (.Call (.Attribute a "reverse" apos) [] [] pos) sl cs (.val .none) cs2 :=
  ev_of (pe_bm0 PySem.F.plainAttrs_list PySem.F.slot_list_reverse PySem.F.type_list_reverse mt_reverse pe_any hbase hline) fun B G ps σ H hn C S Q q => ha B G ps σ H hn C S _ fun v G1 ps1 H1 C1 u1 r1 => by
    obtain ⟨l, rfl, e, ws, h1, h2⟩ := C1.cellAt r1 hc
    rw [p.at] at q
    exact ⟨.inl ⟨rfl, ws, SqL.of h1⟩, l, ws, rfl, rfl, h1, q _ G1 ps1 _ (C1.put (c' := .lst xs.reverse) e hc (by intro z; cases z) ⟨_, upd_same, paired_rev h2⟩) u1 Rep.non⟩
theorem ev_revT {α : Type} {f : α → PyData} {l : List α} {k : Nat} (ha : EV X na a sl cs (.cell k) cs1) (hc : cs1[k]? = some (.lst ((l.map f).map SV.val))) (p : PutC cs1 k (.lst ((l.reverse.map f).map SV.val)) cs2) (hbase : attributeBase a "reverse" X.env (eval a X.env) = eval a X.env := by rfl) (hline : (apos.endLine == pos.line) = true := by rfl) :
    EV X na (.Call (.Attribute a "reverse" apos) [] [] pos) sl cs (.val .none) cs2 := by
  rw [List.map_reverse, List.map_reverse] at p
  exact ev_revX ha hc p hbase hline
end
/-! ### names of the top that hold an int or a text -/
theorem glo_intN {K : PySem.W.Frag} {h : Heap} {mg : Str → Option Value} {x : Str} {n : Int} {t : Tok} (X : K.In h) (G : h.Ns mainGlobals mg) (a : PySem.W.nsIn K mainGlobals x = some (some (.int n t))) : Glo K mg x (.int n) :=
  ⟨_, .int n, PySem.W.mg_of X G a, ⟨t, rfl⟩, fun _ => .int n⟩
theorem glo_strN {K : PySem.W.Frag} {h : Heap} {mg : Str → Option Value} {x y : Str} {t : Tok} (X : K.In h) (G : h.Ns mainGlobals mg) (a : PySem.W.nsIn K mainGlobals x = some (some (.str y t))) : Glo K mg x (.str y) :=
  ⟨_, .str y, PySem.W.mg_of X G a, ⟨t, rfl⟩, fun _ => .str y⟩
end DL
namespace DL
open PySem PySem.Spec PyProof.Rows L2
/-! ### exceptions: what is left where one leaves a def -/
structure Left (B : Bs) (H' : Hp) : Prop where
  gh : Same B.G0 H'
  h0 : ∀ b o, B.H0 b = some o → b ∉ B.As → H' b = some o
  live : ∀ p ∈ B.As, H' p ≠ none
section
variable {K : PySem.W.Frag} {G G' : Hp} {ps ps' qs : List Addr} {H H' : Hp} {B : Bs} {cs cs' : Cs}
theorem Core.left (C : Core K B G ps cs H) : Left B H := ⟨C.g0.trans C.gh, C.h0, fun p hp => C.live (C.pre.subset hp)⟩
/-- .. behind a call of the frame at B -/
theorem Core.leftOf (C : Core K B G ps cs H) (hq : ∀ p ∈ qs, p ∈ ps) (L : Left ⟨G, H, qs⟩ H') : Left B H' where
  gh := C.g0.trans L.gh
  h0 b o e m := L.h0 b o (C.h0 b o e m) fun z => by
    rcases C.own (hq b z) with h | h
    · rw [h] at e; cases e
    · exact m h
  live p hp := by
    by_cases z : p ∈ qs
    · exact L.live p z
    · cases e : H p with
      | none => exact absurd e (C.live (C.pre.subset hp))
      | some o =>
        intro n
        rw [L.h0 p o e z] at n
        cases n
/-- cells of which nothing is known any more -/
def killA (cs : Cs) (κ : List Nat) : Cs := κ.foldl (fun c k => c.set k .dead) cs
theorem killA_len : ∀ (κ : List Nat) (cs : Cs), (killA cs κ).length = cs.length
  | [], _ => rfl
  | k :: κ, cs => (killA_len κ (cs.set k .dead)).trans List.length_set
theorem killA_out {i : Nat} : ∀ (κ : List Nat) (cs : Cs), i ∉ κ → (killA cs κ)[i]? = cs[i]?
  | [], _, _ => rfl
  | k :: κ, cs, h => by
    show (killA (cs.set k .dead) κ)[i]? = _
    rw [killA_out κ _ (fun z => h (List.mem_cons_of_mem _ z)), List.getElem?_set_ne (fun z => h (by rw [z]; exact List.mem_cons_self))]
theorem killA_in {i : Nat} {c : CC} : ∀ (κ : List Nat) (cs : Cs), (i ∈ κ ∨ cs[i]? = some .dead) → (killA cs κ)[i]? = some c → c = .dead
  | [], cs, h, e => by
    have e : cs[i]? = some c := e
    rcases h with h | h
    · cases h
    · rw [h] at e; cases e; rfl
  | k :: κ, cs, h, e => by
    refine killA_in κ (cs.set k .dead) ?_ e
    by_cases z : k = i
    · subst z
      by_cases hl : k < cs.length
      · exact .inr (List.getElem?_set_self hl)
      · exfalso
        have h2 := killA_len κ (cs.set k .dead)
        rw [List.length_set] at h2
        have h3 : k < (killA (cs.set k .dead) κ).length := (List.getElem?_eq_some_iff.mp e).1
        omega
    · rcases h with h | h
      · rcases List.mem_cons.mp h with h | h
        · exact absurd h.symm z
        · exact .inl h
      · exact .inr (by rw [List.getElem?_set_ne z]; exact h)
/-- where it is caught: what the cells that were handed on hold isn't known -/
theorem Core.kill (C : Core K B G ps cs H) {κ : List Nat} {d : Cs} (S : SelR cs κ κ d) (L : Left ⟨G, H, pick ps κ⟩ H') : Core K B G ps (killA cs κ) H' := by
  have ofPick : ∀ {p}, p ∈ pick ps κ → p ∈ ps := fun {p} m => by
    obtain ⟨j, hj⟩ := List.getElem?_of_mem m
    obtain ⟨_, _, _, _, h, _⟩ := pick_at C S hj
    exact List.mem_of_getElem? h
  have keep : ∀ {p o}, H p = some o → p ∉ pick ps κ → H' p = some o := fun {p o} e m => L.h0 p o e m
  refine ⟨C.g0, fun b o e m => keep (C.h0 b o e m) fun z => ?_, L.gh, C.nw, by rw [C.len, killA_len], C.pre, C.nd, fun i p c e hc => ?_⟩
  · rcases C.own (ofPick z) with h | h
    · rw [h] at e; cases e
    · exact m h
  · have own := C.own (List.mem_of_getElem? e)
    by_cases hk : i ∈ κ
    · have := killA_in κ cs (.inl hk) hc
      subst this
      refine ⟨L.live p (List.mem_map.mpr ⟨i, hk, by simp [List.getD, e]⟩), own, .inl rfl⟩
    · rw [killA_out κ cs hk] at hc
      obtain ⟨g1, g2, g3⟩ := C.cell i p c e hc
      have hnp : p ∉ pick ps κ := fun m => by
        obtain ⟨j, hj⟩ := List.getElem?_of_mem m
        obtain ⟨k, _, _, h1, h2, _⟩ := pick_at C S hj
        have := nd_at C.nd e h2
        subst this
        exact hk (List.mem_of_getElem? h1)
      refine ⟨RepC.mono (Up.refl _ _) ?_ g1, own, g3⟩
      cases q : H p with
      | none => exact absurd q g1.there
      | some o => exact keep q hnp
end
/-! ### what a def that may raise promises -/
/-- for arguments and cells as told an exception of this class leaves the def -/
abbrev SpecX := List SV → Cs → Value → Prop
def spX (K : PySem.W.Frag) (n : Nat) (spec : Spec) (exs : SpecX) : Sp := fun vs H Q E => spM K n spec vs H Q E ∨
  ∃ G ps svs cs cls, exs svs cs cls ∧ svs.length = n ∧ Core K ⟨G, H, ps⟩ G ps cs H ∧ RepVs K G ps vs svs ∧ ∀ H', Left ⟨G, H, ps⟩ H' → E cls none H'
structure CalX (P : Program) (w : World) (K : PySem.W.Frag) (mg : Str → Option Value) (base : Heap) (k : Nat) (x : Str) (n : Nat) (spec : Spec) (exs : SpecX) : Prop where
  ex : ∃ (f : Addr) (fd : FuncData) (ps : List Str), FnOk P w K mg base (L2.CX P w) k f fd ps (spX K n spec exs) ∧ mg x = some (.ref f) ∧ PySem.W.keepIn K (.ref f) = true ∧ Binds K fd ps []
/-- where it raises nothing it is called as any other -/
theorem fn_calm {P : Program} {w : World} {K : PySem.W.Frag} {mg : Str → Option Value} {base : Heap} {k n : Nat} {f : Addr} {fd : FuncData} {ps : List Str} {spec : Spec} {exs : SpecX} (F : FnOk P w K mg base (L2.CX P w) k f fd ps (spX K n spec exs)) : FnOk P w K mg base CX0 k f fd ps (spM K n spec) :=
  ⟨fun vs H Q E h => F.len vs H Q E (.inl h), fun A outer s H args us vs Q E hr he hb hv hs => codeAny_mono (F.run A outer s H args us vs Q E0 hr he hb hv (.inl hs)) fun r s' q => by
    cases r with
    | error e =>
      obtain ⟨_, _, _, _, _, _, _, _, _, _, _, _, z⟩ := q
      exact z.elim
    | ok fl =>
      cases fl with
      | ret u => exact q
      | next => exact q
      | brk => exact q
      | cont => exact q⟩
theorem CalX.cal {P : Program} {w : World} {K : PySem.W.Frag} {mg : Str → Option Value} {base : Heap} {k n : Nat} {x : Str} {spec : Spec} {exs : SpecX} (c : CalX P w K mg base k x n spec exs) : Cal P w K mg base k x n spec := by
  obtain ⟨f, fd, ps, F, r⟩ := c.ex
  exact ⟨f, fd, ps, fn_calm F, r⟩
theorem CalX.mono {P : Program} {w : World} {K : PySem.W.Frag} {mg : Str → Option Value} {base : Heap} {j k n : Nat} {x : Str} {spec : Spec} {exs : SpecX} (c : CalX P w K mg base j x n spec exs) (h : j ≤ k) : CalX P w K mg base k x n spec exs := by
  obtain ⟨f, fd, ps, F, r⟩ := c.ex
  exact ⟨f, fd, ps, F.mono h, r⟩
/-- an exception of this class may be let out where J holds -/
def TB (X : Cx) (na : NA) (cls : Value) (J : Sl → Cs → Prop) : Prop := ∀ B, na.ok B → Takes X fun c d σ H' => c = cls ∧ d = none ∧ ∃ G' ps' sl' cs', Core X.K B G' ps' cs' H' ∧ Slots X.K G' ps' σ sl' ∧ J sl' cs'
/-- an expression that raises -/
def EX (X : Cx) (na : NA) (e : Expr) (sl : Sl) (cs : Cs) : Prop := ∀ B G ps σ H, na.ok B → Core X.K B G ps cs H → Slots X.K G ps σ sl → ∀ Q : VK, anyE X e σ H Q
section
variable {X : Cx} {na : NA} {sl sl' : Sl} {cs cs1 cs2 cs3 : Cs} {s t u : SV} {pos : Pos} {x : Str} {E : DEnds} {N : List Str} {k j n : Nat} {spec : Spec} {exs : SpecX} {e : Expr} {es : List Expr} {p : Pos} {cls : Value} {J : Sl → Cs → Prop}
theorem ex_call {ss svs : List SV} {κ : List Nat} {d : Cs} (c : CalX X.prog X.w X.K X.mg X.base k x n spec exs) (tb : TB X na cls J) (hJ : J sl (killA cs1 κ)) (hr : Room j X.A) (hk : k ≤ j) (hg : Gl X x)
    (ha : AV X na (e :: es) sl cs ss cs1) (S : SelR cs1 κ κ d) (hren : RenA κ svs ss) (h : exs svs d cls) (nd : κ.Nodup) (hn : Nat.beq svs.length n = true)
    (hdb : (x == ("__debug__" : Str)) = false := by decide) (he : starEach (e :: es) X.env = (false, eval e X.env) :: starEach es X.env := by rfl) (hpl : (backTo pos (starEach es X.env)).any (·.1) = false := by rfl) :
    EX X na (.Call (.Name x p) (e :: es) [] pos) sl cs := by
  obtain ⟨f, fd, ps, F, hm, kp, b⟩ := c.ex
  intro B G qs σ H hna C Sl Q
  have b' : Binds X.K fd ps [] := b
  refine ⟨_, pe_callS F (hr.mono hk) hg hm kp b' (fun σ => L2.passAt (tb B hna) σ) pa_any hdb he hpl, ?_⟩
  refine ha B G qs σ H hna C Sl _ fun vs G1 ps1 H1 C1 u1 r1 => ?_
  show spX X.K n spec exs vs H1 Q _
  exact .inr ⟨G1, pick ps1 κ, svs, d, cls, h, Nat.eq_of_beq_eq_true hn, C1.enterG S nd, RenA.repsG hren r1, fun H' L => ⟨rfl, rfl, G1, ps1, sl, _, C1.kill S L, Slots.mono u1 Sl, hJ⟩⟩
theorem s1_setX {pos' : Pos} {i m : Nat} (T : TabL X m) (h : EX X na e sl cs) (hi : X.N[i]? = some x) (him : Nat.blt i m = true) (hs : swapsWith e (some (.Name x pos')) pos.line X.env = pure false := by rfl) : S1 X na (.Assign [.Name x pos'] e pos) sl cs E :=
  s1_of (ps_set T.nd hi (T.loc x (mem_take hi him)) pe_any hs (.inl (T.fn x))) fun B G ps σ H hn C S D L => h B G ps σ H hn C S _
theorem s1_retX (h : EX X na e sl cs) : S1 X na (.Return (some e) pos) sl cs E := s1_of (ps_ret pe_any) fun B G ps σ H hn C S D L => h B G ps σ H hn C S _
theorem s1_exprX (h : EX X na e sl cs) (hs : swapsWith e none pos.line X.env = pure false := by rfl) : S1 X na (.Expr e pos) sl cs E := s1_of (ps_expr pe_any hs) fun B G ps σ H hn C S D L => h B G ps σ H hn C S _
/-- behind what raises nothing is looked at -/
theorem sx_X {st : Stmt} {rest : List Stmt} (h : ∀ E : DEnds, S1 X na st sl cs E) : SX X na (st :: rest) sl cs E := sx_cut (fun _ _ => False) (h _) fun _ _ z => z.elim
/-- raise C("..") -/
theorem s1_raise {C : Addr} {bmB : List Value} {BB newId initId : String} {m : Str} {jj : Nat} {p2 pos2 : Pos} (F : ExcBaseFacts BB newId initId bmB) (q : PySem.W.excIn X.K C bmB newId = true) (gC : X.mg x = some (.ref C)) (kC : PySem.W.keepIn X.K (.ref C) = true) (r : Raises X (.ref C)) (hg : Gl X x) (hc : X.calm = true) (tb : TB X na (.ref C) J) (hJ : J sl cs)
    (hdb : (x == ("__debug__" : Str)) = false := by decide) : S1 X na (.Raise (some (.Call (.Name x p) [.Constant (.str m) jj p2] [] pos2)) none pos) sl cs E := fun B G ps σ H hn Co S D L =>
  ⟨_, ps_raise hc (tb B hn) (pmk_own F q gC kC r hg hdb), rfl, rfl, G, ps, sl, cs, Co, S, hJ⟩
end
end DL
namespace DL
open PySem PySem.Spec PyProof.Rows L2
/-! ### THE RULE for a def that may raise -/
/-- an outcome: what it gives and the cells then, or the class of what leaves it -/
abbrev SpecO := List SV → Cs → Except Value (SV × Cs) → Prop
abbrev CalO (P : Program) (w : World) (K : PySem.W.Frag) (mg : Str → Option Value) (base : Heap) (k : Nat) (x : Str) (n : Nat) (o : SpecO) : Prop := CalX P w K mg base k x n (fun a c s d => o a c (.ok (s, d))) (fun a c cls => o a c (.error cls))
/-- the bounds are known -/
def NA.at (na : NA) (B : Bs) (h : na.ok B) : NA := ⟨na.n, fun B' => B' = B, fun B' e => by rw [e]; exact na.len B h⟩
def naB (n : Nat) (B : Bs) (h : B.As.length = n) : NA := ⟨n, fun B' => B' = B, fun B' e => by rw [e]; exact h⟩
abbrev cxE (P : Program) (w : World) (K : PySem.W.Frag) (mg : Str → Option Value) (base : Heap) (N : List Str) (x : Str) (sc : Scope) (f : Addr) (cdv : Value) (A : Around) (outer : List Env) (s : Shared) (H : Hp) (E : XK) : Cx := cxOf (L2.CX P w) P w K mg base N x sc f cdv A outer s H E
theorem tb_leave {X : Cx} {n : Nat} {B : Bs} {hB : B.As.length = n} {cls : Value} {E : XK} {E₁ : Value → Shared → Prop} (hs : X.stack = X.env :: X.outer) (hf : X.env.frame = some X.env.locals) (hex : X.ex = [])
    (hx : X.xe = fun e s' => wpAny (model X.prog X.w) X.A (leaving X.env e) (fun _ s'' => L2.CX X.prog X.w X.outer X.H_0 X.s_0 E e s'') E₁ s') (hE : ∀ H', Left B H' → E cls none H') : TB X (naB n B hB) cls fun _ _ => True := fun B' e => by
  have e : B' = B := e
  subst e
  refine (takes_of hs hf hex hx).imp fun c d σ H' h => ?_
  obtain ⟨rfl, rfl, _, _, _, _, C, _⟩ := h
  exact hE H' C.left
theorem calO_def {P : Program} {w : World} {K : PySem.W.Frag} {mg : Str → Option Value} {base : Heap} {x : Str} {st : Stmt} {N ps : List Str} {k m : Nat} {o : SpecO} (D : DefAt K mg x st ps) (S : FnScope N ps (defScope st)) (tb : tabOk (N.take m) (defScope st) = true)
    (body : ∀ (f : Addr) (cdv : Value) (A : Around) (outer : List Env) (s : Shared) (H : Hp) (E : XK), Room k (cxE P w K mg base N x (defScope st) f cdv A outer s H E).A → Tab (cxE P w K mg base N x (defScope st) f cdv A outer s H E) m → TabL (cxE P w K mg base N x (defScope st) f cdv A outer s H E) m →
      PassesOwn (model P w) (cxE P w K mg base N x (defScope st) f cdv A outer s H E).A (cxE P w K mg base N x (defScope st) f cdv A outer s H E).env (cxE P w K mg base N x (defScope st) f cdv A outer s H E).xe →
      ∀ svs cs R, o svs cs R → svs.length = ps.length → ∀ (B : Bs) (hB : B.As.length = cs.length), (∀ cls, R = .error cls → TB (cxE P w K mg base N x (defScope st) f cdv A outer s H E) (naB cs.length B hB) cls fun _ _ => True) →
      SX (cxE P w K mg base N x (defScope st) f cdv A outer s H E) (naB cs.length B hB) (defBody st) (svs.map some ++ List.replicate (N.length - svs.length) none) cs { nx := fun _ cs2 => ∃ s d, R = .ok (s, d) ∧ RetOk cs.length s d (.val .none) cs2, rt := fun s2 cs2 => ∃ s d, R = .ok (s, d) ∧ RetOk cs.length s d s2 cs2 }) :
    CalO P w K mg base (k + 1) x ps.length o := by
  obtain ⟨f, fd, F, hm, b⟩ := D.ex
  obtain ⟨oc, od, kV, doc, pm, an, cdv, ct, osl, rfl, lk, hcd⟩ := F.ex
  refine ⟨f, _, ps, fn_of lk hcd S (fun vs H Q E h => ?_) (fun A outer s H vs Q E hr h => ?_), hm, F.kp, b⟩
  · rcases h with ⟨G, qs, svs, cs, s, cs', h, hl, C, r, q⟩ | ⟨G, qs, svs, cs, cls, h, hl, C, r, q⟩
    · rw [Paired.length r, hl]
    · rw [Paired.length r, hl]
  · obtain ⟨T, TL⟩ := tab_of (X := cxE P w K mg base N x (defScope st) f cdv A outer s H E) tb rfl rfl S.nd (fun _ => rfl)
    have po : PassesOwn (model P w) (cxE P w K mg base N x (defScope st) f cdv A outer s H E).A (cxE P w K mg base N x (defScope st) f cdv A outer s H E).env (cxE P w K mg base N x (defScope st) f cdv A outer s H E).xe := PassesOwn.leaving
    refine ⟨_, pss_any, ?_⟩
    rcases h with ⟨G, qs, svs, cs, sv, cs', h, hl, C, r, q⟩ | ⟨G, qs, svs, cs, cls, h, hl, C, r, q⟩
    · refine body f cdv A outer s H E hr T TL po svs cs _ h hl ⟨G, H, qs⟩ C.len (fun cls e => by cases e) ⟨G, H, qs⟩ G qs _ H rfl C (slots_start r) _ ⟨fun sl2 cs2 G' ps' σ' H' C' u' S' e => ?_, fun s2 cs2 G' ps' v H' C' u' r' e => ?_, fun _ _ _ _ _ _ _ _ _ e => e.elim, fun _ _ _ _ _ _ _ _ _ e => e.elim⟩
      · obtain ⟨s, d, e0, e⟩ := e
        cases e0
        obtain ⟨G2, ps2, C2, u2, r2⟩ := e.go C' C.len u' (show RepV K G' ps' .non (.val .none) from Rep.non)
        exact q .non G2 ps2 H' C2 u2 r2
      · obtain ⟨s, d, e0, e⟩ := e
        cases e0
        obtain ⟨G2, ps2, C2, u2, r2⟩ := e.go C' C.len u' r'
        exact q v G2 ps2 H' C2 u2 r2
    · refine body f cdv A outer s H E hr T TL po svs cs _ h hl ⟨G, H, qs⟩ C.len (fun c e => ?_) ⟨G, H, qs⟩ G qs _ H rfl C (slots_start r) _ ⟨fun sl2 cs2 G' ps' σ' H' C' u' S' e => ?_, fun s2 cs2 G' ps' v H' C' u' r' e => ?_, fun _ _ _ _ _ _ _ _ _ e => e.elim, fun _ _ _ _ _ _ _ _ _ e => e.elim⟩
      · cases e
        exact tb_leave rfl rfl rfl rfl q
      · obtain ⟨s, d, e0, e⟩ := e
        cases e0
      · obtain ⟨s, d, e0, e⟩ := e
        cases e0
/-- nothing is promised -/
theorem calO_zero {P : Program} {w : World} {K : PySem.W.Frag} {mg : Str → Option Value} {base : Heap} {x : Str} {st : Stmt} {ps : List Str} {k n : Nat} {o : SpecO} (D : DefAt K mg x st ps) (no : ∀ a c r, ¬ o a c r) : CalO P w K mg base k x n o := by
  obtain ⟨f, fd, F, hm, b⟩ := D.ex
  refine ⟨f, fd, ps, ⟨fun vs H Q E h => ?_, fun A outer s H args us vs Q E _ _ _ _ h => ?_⟩, hm, F.kp, b⟩
  · rcases h with ⟨_, _, _, _, _, _, h, _⟩ | ⟨_, _, _, _, _, h, _⟩
    · exact (no _ _ _ h).elim
    · exact (no _ _ _ h).elim
  · rcases h with ⟨_, _, _, _, _, _, h, _⟩ | ⟨_, _, _, _, _, h, _⟩
    · exact (no _ _ _ h).elim
    · exact (no _ _ _ h).elim
section
variable {K : PySem.W.Frag} {G G' : Hp} {ps ps' : List Addr} {H H' : Hp} {B : Bs} {cs cs' : Cs}
/-- all cells are handed on -/
theorem Core.rebase (C : Core K B G ps cs H) : Core K ⟨G, H, ps⟩ G ps cs H where
  g0 := Same.refl _
  h0 _ _ e _ := e
  gh := C.gh
  nw _ e := .inl e
  len := C.len
  pre := List.prefix_refl _
  nd := C.nd
  cell k p c e hc := by
    obtain ⟨g1, g2, g3⟩ := C.cell k p c e hc
    exact ⟨g1, .inr (List.mem_of_getElem? e), g3⟩
theorem Core.unbase (C : Core K B G ps cs H) (C' : Core K ⟨G, H, ps⟩ G' ps' cs' H') : Core K B G' ps' cs' H' where
  g0 := C.g0.trans C'.g0
  h0 b o e m := C'.h0 b o (C.h0 b o e m) fun z => by
    rcases C.own z with h | h
    · rw [h] at e; cases e
    · exact m h
  gh := C'.gh
  nw b e := (C'.nw b e).elim (C.nw b) fun h => .inr (C.free0 h)
  len := C'.len
  pre := C.pre.trans C'.pre
  nd := C'.nd
  cell k p c e hc := by
    obtain ⟨g1, g2, g3⟩ := C'.cell k p c e hc
    exact ⟨g1, g2.elim (fun h => .inl (C.free0 h)) C.own, g3⟩
theorem Core.upOf (C' : Core K ⟨G, H, ps⟩ G' ps' cs' H') : Up G ps G' ps' := ⟨C'.g0, C'.pre⟩
end
/-! ### try: body, except C as n: suite -/
section
variable {X : Cx} {na : NA} {sl sl' : Sl} {cs cs1 cs2 cs3 : Cs} {s t u : SV} {pos pos' np : Pos} {x n : Str} {E : DEnds} {N : List Str} {i : Nat} {C : Addr} {cls : Value} {body suite : List Stmt} {b₀ : Stmt}
theorem Slots.forget {K : PySem.W.Frag} {G : Hp} {ps : List Addr} {σ : L2.St} {sl : Sl} (S : Slots K G ps σ sl) (i : Nat) : Slots K G ps (σ.set i none) (sl.set i none) := pd_set (F := SlotR K G ps) (by trivial) i S
theorem s1_try_as (hs : X.stack = X.env :: X.outer) (hf : X.env.frame = some X.env.locals) (hN : X.N.Nodup) (hi : X.N[i]? = some n) (hln : X.env.kindOf n = some .local) (hc : Names X x (.ref C)) (hm : PySem.W.exmOne X.K cls (.ref C) = some true) (J : Sl → Cs → Prop)
    (hb : ∀ (pn : List (Addr × Obj)) (xe : Value → Shared → Prop) (B : Bs) (hB : B.As.length = cs.length), PassesOwn (model X.prog X.w) X.A X.env xe → TB (X.tr pn xe) (naB cs.length B hB) cls J → SX (X.tr pn xe) (naB cs.length B hB) body sl cs E)
    (hsu : ∀ (a : Addr) (oe : Obj) (pn : List (Addr × Obj)) (sl2 : Sl) (cs2 : Cs), J sl2 cs2 → Zc cls none oe → (∃ vs, oe.data = .fields vs) → SX (X.suite a ((a, oe) :: pn)) na (b₀ :: suite) (sl2.set i (some (.obj a))) cs2 { nx := fun sl3 cs3 => E.nx (sl3.set i none) cs3, rt := E.rt, bk := fun sl3 cs3 => E.bk (sl3.set i none) cs3, ct := fun sl3 cs3 => E.ct (sl3.set i none) cs3 }) :
    S1 X na (.Try body [.ExceptHandler (some (.Name x np)) (some n) (b₀ :: suite) pos'] [] [] pos) sl cs E := fun B G ps σ H hn Co S D L => by
  refine ⟨_, ps_try_as (Wout := fun _ _ _ _ => False) (tb := fun W D σ H => ∀ pn xe, Takes (X.tr pn xe) W → PassesOwn (model X.prog X.w) X.A X.env xe → anySs (X.tr pn xe) body D σ H)
    (ts := fun a c d D σ H => ∀ oe pn, Zc c d oe → (∃ vs, oe.data = .fields vs) → anySs (X.suite a ((a, oe) :: pn)) (b₀ :: suite) D σ H) hs hf hN hi hln hc (fun u s' ⟨_, _, _, _, _, _, _, _, _, _, _, _, _, _, _, _, z⟩ => z.elim)
    (fun W pn xe tk po => ⟨fun pins s σ H D I h => pss_any.run pins s σ H D I (h pn xe tk po)⟩) (fun a oe c d pn hz hv => ⟨fun pins s σ H D I h => pss_any.run pins s σ H D I (h oe pn hz hv)⟩), ?_⟩
  intro pn xe tk po
  refine hb pn xe ⟨G, H, ps⟩ Co.len po (fun B' e => ?_) ⟨G, H, ps⟩ G ps σ H rfl Co.rebase S D ⟨fun sl cs G' ps' σ H c v => L.nx sl cs G' ps' σ H (Co.unbase c) v, fun s cs G' ps' w H c v => L.rt s cs G' ps' w H (Co.unbase c) v, fun sl cs G' ps' σ H c v => L.bk sl cs G' ps' σ H (Co.unbase c) v, fun sl cs G' ps' σ H c v => L.ct sl cs G' ps' σ H (Co.unbase c) v⟩
  have e : B' = ⟨G, H, ps⟩ := e
  subst e
  refine tk.imp fun c d σ' H' h => ?_
  obtain ⟨rfl, rfl, G', ps', sl', cs', C', S', hJ⟩ := h
  refine ⟨true, hm, fun _ a _ => ?_, fun z => by cases z⟩
  intro oe pn2 hz hv
  have u := C'.upOf
  have S2 : Slots X.K G' ps' (σ'.set i (some (.ref a))) (sl'.set i (some (.obj a))) := Slots.set S' (show RepV X.K G' ps' (.ref a) (.obj a) from rfl) i
  exact hsu a oe pn2 sl' cs' hJ hz hv B G' ps' _ H' hn (Co.unbase C') S2 _ ⟨fun sl3 cs3 G3 ps3 σ3 H3 c v S3 q => L.nx _ cs3 G3 ps3 _ H3 c (u.trans v) (S3.forget i) q, fun s3 cs3 G3 ps3 w3 H3 c v => L.rt s3 cs3 G3 ps3 w3 H3 c (u.trans v), fun sl3 cs3 G3 ps3 σ3 H3 c v S3 q => L.bk _ cs3 G3 ps3 _ H3 c (u.trans v) (S3.forget i) q, fun sl3 cs3 G3 ps3 σ3 H3 c v S3 q => L.ct _ cs3 G3 ps3 _ H3 c (u.trans v) (S3.forget i) q⟩
/-- a class of the top, as it stands -/
theorem ev_cls (hm : X.mg x = some (.ref C)) (hg : Gl X x) (hdb : (x == ("__debug__" : Str)) = false := by decide) : EV X na (.Name x pos) sl cs (.obj C) cs :=
  ev_of (pe_glob hg hm (show RelV (.ref C) (.ref C) from rfl) hdb) fun B G ps σ H hn Cc S Q q => q (.ref C) G ps H Cc (Up.refl _ _) rfl
/-- isinstance(e, C) of what is caught -/
theorem ev_isE {D a : Addr} {oe : Obj} {pn : List (Addr × Obj)} {e1 e2 : Expr} {b : Bool} {p : Pos} (hC : L2.ExcC X.K D) (hz : Zc (.ref D) none oe) (hf : ∃ vs, oe.data = .fields vs) (hg : Gl (X.suite a ((a, oe) :: pn)) "isinstance") (hm : X.mg "isinstance" = none)
    (ha : AV (X.suite a ((a, oe) :: pn)) na [e1, e2] sl cs [.obj a, .obj C] cs1) (hk : PySem.W.kitOne X.K (.ref D) (.ref C) = some b)
    (he : starEach [e1, e2] (X.suite a ((a, oe) :: pn)).env = (false, eval e1 (X.suite a ((a, oe) :: pn)).env) :: starEach [e2] (X.suite a ((a, oe) :: pn)).env := by rfl) (hpl : (backTo pos (starEach [e2] (X.suite a ((a, oe) :: pn)).env)).any (·.1) = false := by rfl) : EV (X.suite a ((a, oe) :: pn)) na (.Call (.Name "isinstance" p) [e1, e2] [] pos) sl cs (.val (.bool b)) cs1 :=
  ev_of (pe_callB (call_isE hC hz hf) hg hm rfl pa_any (by decide) (by decide) he hpl) (de_cb ha fun B G ps H vs hn Cc r Q q => by
    cases r with
    | cons h1 r =>
      cases r with
      | cons h2 r =>
        cases r
        cases (show _ = V.ref a from h1)
        exact ⟨_, .ref C, b, rfl, fun u hu => by cases (show _ = V.ref C from h2); exact hu, hk, q (.bl b) G ps H Cc (Up.refl _ _) (Rep.bl b)⟩)
end
end DL
namespace DL
open PySem PySem.Spec PyProof.Rows L2
/-! ### mirrors of what may raise -/
def letO {α ρ : Type} (a : Option α) (f : α → Option ρ) : Option ρ := match a with
  | none => none
  | some x => f x
theorem letO_elim {α ρ : Type} {a : Option α} {f : α → Option ρ} {R : Option ρ} (h : letO a f = R) : (a = none ∧ none = R) ∨ ∃ x, a = some x ∧ f x = R := by
  cases a with
  | none => exact .inl ⟨rfl, h⟩
  | some x => exact .inr ⟨x, rfl, h⟩
/-- one class of exceptions may leave -/
def outX {ρ : Type} (C : Addr) (f : ρ → SV × Cs) : Option ρ → Except Value (SV × Cs)
  | none => .error (.ref C)
  | some r => .ok (f r)
abbrev veBase : List Value := [.type "ValueError", .type "Exception", .type "BaseException", .type "object"]
/-- an exception class of the program, of ValueError, without own __init__ -/
structure ErrAt (K : PySem.W.Frag) (mg : Str → Option Value) (x : Str) (C : Addr) : Prop where
  g : mg x = some (.ref C)
  exc : PySem.W.excIn K C veBase "ValueError.__new__" = true
  keep : PySem.W.keepIn K (.ref C) = true
  sub : PySem.W.subIn K (.ref C) (.type "BaseException") = some true
  typ : PySem.W.typeIn K (.ref C) = some (.type "type")
section
variable {X : Cx} {na : NA} {sl sl' : Sl} {cs cs1 cs2 cs3 : Cs} {s t u : SV} {pos p p2 pos2 apos : Pos} {x : Str} {E : DEnds} {C : Addr} {J : Sl → Cs → Prop}
/-- raise C("..") -/
theorem s1_raiseE {m : Str} {jj : Nat} (e : ErrAt X.K X.mg x C) (hg : Gl X x) (hc : X.calm = true) (tb : TB X na (.ref C) J) (hJ : J sl cs) (hdb : (x == ("__debug__" : Str)) = false := by decide) : S1 X na (.Raise (some (.Call (.Name x p) [.Constant (.str m) jj p2] [] pos2)) none pos) sl cs E :=
  s1_raise PySem.F.excBase_ValueError e.exc e.g e.keep (raises_own e.sub e.typ) hg hc tb hJ hdb
/-- xs.extend(e), e raises -/
theorem ex_ext {o e : Expr} {k : Nat} {xs : List SV} (ho : EV X na o sl cs (.cell k) cs1) (he : EX X na e sl cs1) (hc1 : cs1[k]? = some (.lst xs))
    (hs : starEach [e] X.env = (false, eval e X.env) :: starEach [] X.env := by rfl)
    (hbase : attributeBase o "extend" X.env (eval o X.env) = eval o X.env := by rfl) (hfew : ((backTo pos (starEach (e :: []) X.env)).all (fun x => !x.1) && (backToKw pos (keywordEach [] X.env)).all (fun x => x.1.isSome)
      && decide ((e :: []).length + ([] : List Keyword).length + (if ([] : List Keyword).isEmpty then 0 else 1) < 30)) = true := by rfl)
    (hline : (apos.endLine == pos.line) = true := by rfl) (hplain : (backTo pos (starEach [] X.env)).any (·.1) = false := by rfl) : EX X na (.Call (.Attribute o "extend" apos) [e] [] pos) sl cs := fun B G ps σ H hn C S Q =>
  ⟨_, pe_bm PySem.F.plainAttrs_list PySem.F.slot_list_extend PySem.F.type_list_extend mt_extendS pe_any (pa_cons pe_any pa_nil hs) hbase hfew hline hs hplain, ho B G ps σ H hn C S _ fun v G1 ps1 H1 C1 u1 r1 => by
    obtain ⟨a, ea, rfl⟩ := r1
    obtain ⟨ws, hw, _⟩ := (C1.cell k a _ ea hc1).1
    exact ⟨.inl ⟨rfl, ws, SqL.of hw⟩, he B G1 ps1 σ H1 hn C1 (Slots.mono u1 S) _⟩⟩
end
end DL
namespace DL
open PySem PySem.Spec PyProof.Rows L2
section
variable {X : Cx} {na : NA} {sl sl' : Sl} {cs cs1 cs2 cs3 : Cs} {s t u : SV} {pos : Pos} {a b : Expr}
/-- x is y, of truths -/
theorem rv_isB {K : PySem.W.Frag} {i j : Bool} : RV K na (fun x y H Q => ∃ a b, x = .bl a ∧ y = .bl b ∧ Q (.bl (decide (a = b))) H) (.val (.bool i)) (.val (.bool j)) cs (.val (.bool (decide (i = j)))) cs := fun B G ps H v w hn C r1 r2 Q q => by
  rw [Rep.boolI r1, Rep.boolI r2]
  exact ⟨i, j, rfl, rfl, q _ G ps H C (Up.refl _ _) (Rep.bl _)⟩
theorem tv_isB {i j : Bool} (ha : EV X na a sl cs (.val (.bool i)) cs1) (hb : EV X na b sl cs1 (.val (.bool j)) cs2) (hm : behindInMarks .Is b = false := by rfl) : TV X na (.Compare a [.Is] [b] pos) sl cs (decide (i = j)) cs2 := tv_cmp op_is_bl hm ha hb rv_isB
theorem ev_isB {i j : Bool} (ha : EV X na a sl cs (.val (.bool i)) cs1) (hb : EV X na b sl cs1 (.val (.bool j)) cs2) (hm : behindInMarks .Is b = false := by rfl) : EV X na (.Compare a [.Is] [b] pos) sl cs (.val (.bool (decide (i = j)))) cs2 := ev_cmp op_is_bl hm ha hb rv_isB
end
end DL
namespace DL
open PySem PySem.Spec PyProof.Rows L2
section
variable {X : Cx} {m : Nat} {pn : List (Addr × Obj)} {xe : Value → Shared → Prop} {a : Addr}
theorem TabL.tr (T : TabL X m) : TabL (X.tr pn xe) m := ⟨T.nd, T.loc, T.fn⟩
theorem TabL.suite (T : TabL X m) : TabL (X.suite a pn) m := ⟨T.nd, T.loc, T.fn⟩
theorem Tab.tr (T : Tab X m) : Tab (X.tr pn xe) m := ⟨T.nd, T.vis⟩
theorem Tab.suite (T : Tab X m) : Tab (X.suite a pn) m := ⟨T.nd, T.vis⟩
end
theorem ixD_lastE {α : Type} [Inhabited α] {l : List α} (h : 0 < l.length) : ixD l (-1) = l[l.length - 1]'(by omega) := by
  unfold ixD L2.atI L2.ixN
  rw [if_neg (by omega), if_pos (by omega)]
  have e : (-1 + (l.length : Int)).toNat = l.length - 1 := by omega
  rw [e]
  show (l[l.length - 1]?).getD default = _
  rw [List.getElem?_eq_getElem (by omega)]
  rfl
section
variable {X : Cx} {na : NA} {sl sl' : Sl} {cs cs1 cs2 cs3 : Cs} {pos : Pos}
/-- xs.pop() -/
theorem ev_pop0T {α : Type} [Inhabited α] {f : α → PyData} {l : List α} {o : Expr} {apos : Pos} {k : Nat} (ho : EV X na o sl cs (.cell k) cs1) (hc : cs1[k]? = some (.lst ((l.map f).map SV.val))) (h0 : 0 < l.length) (pc : PutC cs1 k (.lst ((l.dropLast.map f).map SV.val)) cs2)
    (hbase : attributeBase o "pop" X.env (eval o X.env) = eval o X.env := by rfl) (hline : (apos.endLine == pos.line) = true := by rfl) : EV X na (.Call (.Attribute o "pop" apos) [] [] pos) sl cs (.val (f (ixD l (-1)))) cs2 :=
  ev_of (pe_bm0 PySem.F.plainAttrs_list PySem.F.slot_list_pop PySem.F.type_list_pop mt_pop pe_any hbase hline) fun B G ps σ H hn C S Q q => ho B G ps σ H hn C S _ fun v G1 ps1 H1 C1 u1 r1 => by
    obtain ⟨ad, rfl, ea, zs, hz, rz⟩ := C1.cellAt r1 hc
    have hlz : zs.length = l.length := by rw [Paired.length rz, List.length_map, List.length_map]
    have hlt : l.length - 1 < l.length := by omega
    obtain ⟨y, ey, ry⟩ := pd_get rz (show ((l.map f).map SV.val)[l.length - 1]? = some (.val (f (l[l.length - 1]'hlt))) by rw [List.getElem?_map, List.getElem?_map, List.getElem?_eq_getElem hlt]; rfl)
    rw [pc.at] at q
    rw [ixD_lastE h0] at q
    have rz2 : RepVs X.K G1 ps1 zs.dropLast ((l.dropLast.map f).map SV.val) := by
      rw [List.dropLast_eq_take, List.dropLast_eq_take, List.map_take, List.map_take, hlz]
      exact pd_take _ rz
    refine ⟨.inl ⟨rfl, zs, SqL.of hz⟩, ad, zs, y, rfl, rfl, hz, by rw [hlz]; exact ey, ?_⟩
    exact q _ G1 ps1 _ (C1.put ea hc (by intro z; cases z) ⟨_, upd_same, rz2⟩) u1 ry
end
end DL
namespace DL
open PySem PySem.Spec PyProof.Rows L2
/-! ### all cells are handed on -/
section
variable {K : PySem.W.Frag} {G G' : Hp} {ps ps' : List Addr} {H H' : Hp} {B : Bs} {cs cs' : Cs}
theorem Core.enterI (C : Core K B G ps cs H) : Core K ⟨G, H, ps⟩ G ps cs H where
  g0 := Same.refl _
  h0 _ _ e _ := e
  gh := C.gh
  nw _ e := .inl e
  len := C.len
  pre := List.prefix_refl _
  nd := C.nd
  cell j p c e hc := by
    obtain ⟨g1, g2, g3⟩ := C.cell j p c e hc
    exact ⟨g1, .inr (List.mem_of_getElem? e), g3⟩
theorem Core.leaveI (C : Core K B G ps cs H) (C' : Core K ⟨G, H, ps⟩ G' ps' cs' H') : Core K B G' ps' cs' H' where
  g0 := C.g0.trans C'.g0
  h0 b o e m := C'.h0 b o (C.h0 b o e m) fun z => by
    rcases C.own z with h | h
    · rw [h] at e; cases e
    · exact m h
  gh := C'.gh
  nw b e := (C'.nw b e).elim (C.nw b) fun h => .inr (C.free0 h)
  len := C'.len
  pre := C.pre.trans C'.pre
  nd := C'.nd
  cell j p c e hc := by
    obtain ⟨g1, g2, g3⟩ := C'.cell j p c e hc
    exact ⟨g1, g2.elim (fun h => .inl (C.free0 h)) C.own, g3⟩
end
theorem Paired.at1 {α β : Type} {F : α → β → Prop} {a : α} {b : β} : ∀ {l : List α} {m : List β} {i : Nat}, Paired F l m → l[i]? = some a → m[i]? = some b → F a b
  | _, _, _, .nil, e, _ => by simp at e
  | _, _, 0, .cons r _, e, e2 => by simp at e e2; subst e; subst e2; exact r
  | _, _, i + 1, .cons _ t, e, e2 => Paired.at1 (i := i) t (by simpa using e) (by simpa using e2)
theorem RepVs.dats {K : PySem.W.Frag} {G : Hp} {ps : List Addr} : ∀ {ds : List PyData} {vs : List V}, Reps K G vs ds → RepVs K G ps vs (ds.map SV.val)
  | _, _, .nil => .nil
  | _, _, .cons h t => .cons h (RepVs.dats t)
/-- x is told as data, cells or not -/
inductive IsDat4 (cs : Cs) : SV → PyData → Prop
  | base {s : SV} {d : PyData} : IsDat2 cs s d → IsDat4 cs s d
  | lst {k : Nat} {xs : List SV} {ds : List PyData} : cs[k]? = some (.lst xs) → Paired (IsDat2 cs) xs ds → IsDat4 cs (.cell k) (.list ds)
theorem IsDat4.dp {K : PySem.W.Frag} {B : Bs} {G : Hp} {ps : List Addr} {cs : Cs} {H : Hp} {v : V} {s : SV} {d : PyData} (C : Core K B G ps cs H) (r : RepV K G ps v s) (h : IsDat4 cs s d) (l : d.canLay0 = true) : Dp K H v d := by
  cases h with
  | base h => exact h.dp C r l
  | lst hc hp =>
    obtain ⟨p, rfl, _, vs, h1, h2⟩ := C.cellAt r hc
    exact .lst (SqL.of h1) (IsDat2.dpAll C hp h2 (by simpa only [PyData.canLay0] using l))
section
variable {X : Cx} {na : NA} {sl sl' : Sl} {cs cs1 cs2 cs3 cs4 : Cs} {s t u : SV} {pos p p2 : Pos} {x : Str} {E : DEnds} {a b e : Expr} {es : List Expr} {k j n : Nat} {spec : Spec} {d d2 : PyData}
/-- a call: all cells are handed on -/
theorem ev_callI {ss : List SV} {r : SV} (c : Cal X.prog X.w X.K X.mg X.base k x n spec) (hr : Room j X.A) (hk : k ≤ j) (hg : Gl X x)
    (ha : AV X na (e :: es) sl cs ss cs1) (h : spec ss cs1 r cs2) (hn : Nat.beq ss.length n = true)
    (hdb : (x == ("__debug__" : Str)) = false := by decide) (he : starEach (e :: es) X.env = (false, eval e X.env) :: starEach es X.env := by rfl) (hpl : (backTo pos (starEach es X.env)).any (·.1) = false := by rfl) :
    EV X na (.Call (.Name x p) (e :: es) [] pos) sl cs r cs2 :=
  ev_callR c hr hk hg (fun B G ps σ H hna C Sl Q q => ha B G ps σ H hna C Sl _ fun vs G1 ps1 H1 C1 u1 r1 => by
    show spM X.K n spec (vs ++ []) H1 Q E0
    rw [List.append_nil]
    exact ⟨G1, ps1, ss, cs1, r, cs2, h, Nat.eq_of_beq_eq_true hn, C1.enterI, r1, fun v G' ps' H' C' u' r' => q v G' ps' H' (C1.leaveI C') (u1.trans u') r'⟩) hdb he hpl
/-- data + a tuple that is a cell -/
theorem ev_catTC {ds : List PyData} {xs : List SV} (ha : EV X na a sl cs (.val (.tuple ds)) cs1) (hb : EV X na b sl cs1 (.cell k) cs2) (hl : cs2[k]? = some (.tup xs)) (h1 : ds ≠ []) (h2 : xs ≠ []) (hz : ds.length + xs.length ≤ 1000000) (ac : AppC cs2 (.tup (ds.map SV.val ++ xs)) n cs3) : EV X na (.BinOp a .Add b pos) sl cs (.cell n) cs3 :=
  ev_op op_catA ha hb fun B G ps H v w hn C r1 r2 Q q => by
    obtain ⟨q1, vs, rfl, g1, g2⟩ := Rep.tupI r1
    obtain ⟨q2, rfl, _, ws, g3, g4⟩ := C.cellAt r2 hl
    refine ⟨q1, q2, vs, ws, rfl, rfl, Same.seqT C.gh g1, .inl (.inl g3), sz (by rw [g2.length, Paired.length g4]; exact hz), fun e => ?_, fun _ e => ?_, fun _ _ => C.newCell ac (fun p hp => ⟨_, upd_same, RepVs.mono ⟨Same.refl _, List.prefix_append _ _⟩ (RepVs.app (RepVs.dats g2) g4)⟩) q⟩
    · subst e
      cases g2
      exact (h1 rfl).elim
    · subst e
      cases g4
      exact (h2 rfl).elim
/-- xs[k:], cells within -/
theorem ev_slFC {xs : List SV} {k : Int} (ha : EV X na a sl cs s cs1) (hb : EV X na b sl cs1 (.val (.int k)) cs2) (hl : IsL cs2 s xs) (h0 : 0 ≤ k) (ac : AppC cs2 (.lst (xs.drop k.toNat)) n cs3) : EV X na (.Subscript a (.Slice (some b) none none p2) pos) sl cs (.cell n) cs3 :=
  ev_of (pe_slice sl_list pe_any (po_some pe_any) po_none) fun B G ps σ H hn C S Q q => ha B G ps σ H hn C S _ fun v G1 ps1 H1 C1 u1 r1 => hb B G1 ps1 σ H1 hn C1 (Slots.mono u1 S) _ fun w G2 ps2 H2 C2 u2 r2 => by
    obtain ⟨l, vs, rfl, h1, h2⟩ := hl.sq C2 (RepV.mono u2 r1)
    have hk : k = ((k.toNat : Nat) : Int) := by omega
    have e : cutV vs (some k) none = vs.drop k.toNat := by
      unfold cutV
      rw [HT.sIx_none, hk, HT.sIx_nat]
      simp only [Int.toNat_natCast]
      by_cases hk : k.toNat ≤ vs.length
      · rw [Nat.min_eq_left hk, List.take_of_length_le (by rw [List.length_drop]; omega)]
      · rw [Nat.min_eq_right (by omega), List.drop_of_length_le (Nat.le_refl _), List.drop_of_length_le (by omega), List.take_nil]
    refine ⟨k, Rep.intI r2, l, vs, rfl, h1, ?_⟩
    rw [e]
    exact C2.newCell ac (fun p hp => ⟨_, upd_same, RepVs.mono ⟨Same.refl _, List.prefix_append _ _⟩ (pd_drop _ h2)⟩) fun v G3 ps3 H3 C3 u3 => q v G3 ps3 H3 C3 ((u1.trans u2).trans u3)
/-- xs.extend(ys), cells within -/
theorem ev_extC {o e : Expr} {apos : Pos} {ys xs zs : List SV} (ho : EV X na o sl cs (.cell k) cs1) (he : EV X na e sl cs1 t cs2) (hc1 : cs1[k]? = some (.lst ys)) (hc : cs2[k]? = some (.lst xs)) (hj : IsL cs2 t zs) (pc : PutC cs2 k (.lst (xs ++ zs)) cs3) (hz : xs.length + zs.length ≤ 1000000)
    (hs : starEach [e] X.env = (false, eval e X.env) :: starEach [] X.env := by rfl)
    (hbase : attributeBase o "extend" X.env (eval o X.env) = eval o X.env := by rfl) (hfew : ((backTo pos (starEach (e :: []) X.env)).all (fun x => !x.1) && (backToKw pos (keywordEach [] X.env)).all (fun x => x.1.isSome)
      && decide ((e :: []).length + ([] : List Keyword).length + (if ([] : List Keyword).isEmpty then 0 else 1) < 30)) = true := by rfl)
    (hline : (apos.endLine == pos.line) = true := by rfl) (hplain : (backTo pos (starEach [] X.env)).any (·.1) = false := by rfl) : EV X na (.Call (.Attribute o "extend" apos) [e] [] pos) sl cs (.val .none) cs3 :=
  ev_of (pe_bm PySem.F.plainAttrs_list PySem.F.slot_list_extend PySem.F.type_list_extend mt_extendS pe_any pa_any hbase hfew hline hs hplain) fun B G ps σ H hn C S Q q => ho B G ps σ H hn C S _ fun v G1 ps1 H1 C1 u1 r1 => by
    obtain ⟨a, ea, rfl⟩ := r1
    obtain ⟨ws, hw, _⟩ := (C1.cell k a _ ea hc1).1
    refine ⟨.inl ⟨rfl, ws, SqL.of hw⟩, av_cons he av_nil hs B G1 ps1 σ H1 hn C1 (Slots.mono u1 S) _ fun vs G2 ps2 H2 C2 u2 r2 => ?_⟩
    cases r2 with
    | cons r3 r4 =>
      cases r4
      have ea2 := pre_get u2.p ea
      obtain ⟨us, hz2, rz⟩ := (C2.cell k a _ ea2 hc).1
      obtain ⟨b, ms, rfl, hm2, rm⟩ := hj.sq C2 r3
      rw [pc.at] at q
      exact ⟨a, b, us, ms, rfl, rfl, hz2, hm2, by rw [Paired.length rz, Paired.length rm, sizeLine_eq]; omega, q _ G2 ps2 _ (C2.put ea2 hc (by intro z; cases z) ⟨_, upd_same, pd_app rz rm⟩) (u1.trans u2) Rep.non⟩
theorem ev_eqD4 (hr : Room k X.A) (ha : EV X na a sl cs s cs1) (hb : EV X na b sl cs1 t cs2) (hd : IsDat4 cs2 s d) (he : IsDat4 cs2 t d2) (sd : SeqAt.shaped d = true) (se : SeqAt.shaped d2 = true) : EV X na (.Compare a [.Eq] [b] pos) sl cs (.val (.bool (PyData.eqv d d2))) cs2 :=
  ev_cmp (op_eqD (by have := hr.un; omega)) (nomark _) ha hb fun B G ps H v w hn C r1 r2 Q q =>
    ⟨d, d2, hd.dp C r1 (SeqAt.canLay_of_shaped sd), he.dp C r2 (SeqAt.canLay_of_shaped se), sd, se, q _ G ps H C (Up.refl _ _) (Rep.bl _)⟩
theorem tv_eqD4 (hr : Room k X.A) (ha : EV X na a sl cs s cs1) (hb : EV X na b sl cs1 t cs2) (hd : IsDat4 cs2 s d) (he : IsDat4 cs2 t d2) (sd : SeqAt.shaped d = true) (se : SeqAt.shaped d2 = true) : TV X na (.Compare a [.Eq] [b] pos) sl cs (PyData.eqv d d2) cs2 :=
  tv_cmp (op_eqD (by have := hr.un; omega)) (nomark _) ha hb fun B G ps H v w hn C r1 r2 Q q =>
    ⟨d, d2, hd.dp C r1 (SeqAt.canLay_of_shaped sd), he.dp C r2 (SeqAt.canLay_of_shaped se), sd, se, q _ G ps H C (Up.refl _ _) (Rep.bl _)⟩
theorem tv_neD4 (hr : Room k X.A) (ha : EV X na a sl cs s cs1) (hb : EV X na b sl cs1 t cs2) (hd : IsDat4 cs2 s d) (he : IsDat4 cs2 t d2) (sd : SeqAt.shaped d = true) (se : SeqAt.shaped d2 = true) : TV X na (.Compare a [.NotEq] [b] pos) sl cs (!PyData.eqv d d2) cs2 :=
  tv_cmp (op_neD (by have := hr.un; omega)) (nomark _) ha hb fun B G ps H v w hn C r1 r2 Q q =>
    ⟨d, d2, hd.dp C r1 (SeqAt.canLay_of_shaped sd), he.dp C r2 (SeqAt.canLay_of_shaped se), sd, se, q _ G ps H C (Up.refl _ _) (Rep.bl _)⟩
end
end DL
namespace DL
open PySem PySem.Spec PyProof.Rows L2
/-! ### tuples that hold a list that may change, told in a list: three cells each (the list, what head is put ahead of, the whole) -/
abbrev D5 := List PyData × PyData × List PyData × PyData
def D5.D (d : D5) : PyData := .tuple (d.1 ++ [d.2.1, .list d.2.2.1, d.2.2.2])
def trip (n : Nat) (d : D5) : Cs := [.lst (d.2.2.1.map SV.val), .tup [.val d.2.1, .cell n, .val d.2.2.2], .tup (d.1.map SV.val ++ [.val d.2.1, .cell n, .val d.2.2.2])]
def lay : Nat → List D5 → Cs
  | _, [] => []
  | n, d :: r => trip n d ++ lay (n + 3) r
def refs : Nat → List D5 → List SV
  | _, [] => []
  | n, _ :: r => .cell (n + 2) :: refs (n + 3) r
def grow (cs : Cs) (m : Nat) (xs : List SV) (ds : List D5) : Cs := cs.set m (.lst (xs ++ refs cs.length ds)) ++ lay cs.length ds
theorem lay_len : ∀ (n : Nat) (ds : List D5), (lay n ds).length = 3 * ds.length
  | _, [] => rfl
  | n, d :: r => by
    show (trip n d ++ lay (n + 3) r).length = _
    rw [List.length_append, lay_len]
    show 3 + _ = 3 * (r.length + 1)
    omega
theorem refs_len : ∀ (n : Nat) (ds : List D5), (refs n ds).length = ds.length
  | _, [] => rfl
  | n, d :: r => congrArg (· + 1) (refs_len (n + 3) r)
theorem lay_app : ∀ (n : Nat) (ds es : List D5), lay n (ds ++ es) = lay n ds ++ lay (n + 3 * ds.length) es
  | n, [], es => by simp [lay]
  | n, d :: r, es => by
    show trip n d ++ lay (n + 3) (r ++ es) = (trip n d ++ lay (n + 3) r) ++ _
    rw [lay_app, List.append_assoc]
    congr 3
    rw [List.length_cons]
    omega
theorem refs_app : ∀ (n : Nat) (ds es : List D5), refs n (ds ++ es) = refs n ds ++ refs (n + 3 * ds.length) es
  | n, [], es => by simp [refs]
  | n, d :: r, es => by
    show _ :: refs (n + 3) (r ++ es) = _ :: (refs (n + 3) r ++ _)
    rw [refs_app]
    congr 3
    rw [List.length_cons]
    omega
theorem grow_len (cs : Cs) (m : Nat) (xs : List SV) (ds : List D5) : (grow cs m xs ds).length = cs.length + 3 * ds.length := by
  unfold grow
  rw [List.length_append, List.length_set, lay_len]
theorem grow_at {cs : Cs} {m : Nat} {xs : List SV} (h : cs[m]? = some (.lst xs)) (ds : List D5) : (grow cs m xs ds)[m]? = some (.lst (xs ++ refs cs.length ds)) := by
  have hm := (List.getElem?_eq_some_iff.mp h).1
  unfold grow
  rw [List.getElem?_append_left (by rw [List.length_set]; exact hm), List.getElem?_set_self hm]
theorem grow_nil {cs : Cs} {m : Nat} {xs : List SV} (h : cs[m]? = some (.lst xs)) : grow cs m xs [] = cs := by
  unfold grow
  show cs.set m (.lst (xs ++ [])) ++ [] = cs
  rw [List.append_nil, List.append_nil]
  apply List.ext_getElem?
  intro i
  by_cases e : m = i
  · subst e
    rw [List.getElem?_set_self (List.getElem?_eq_some_iff.mp h).1, h]
  · rw [List.getElem?_set_ne e]
/-- one more -/
theorem grow_snoc {cs : Cs} {m : Nat} {xs : List SV} (h : cs[m]? = some (.lst xs)) (ds : List D5) (d : D5) : PutC (((grow cs m xs ds ++ [.lst (d.2.2.1.map SV.val)]) ++ [.tup [.val d.2.1, .cell (grow cs m xs ds).length, .val d.2.2.2]]) ++ [.tup (d.1.map SV.val ++ [.val d.2.1, .cell (grow cs m xs ds).length, .val d.2.2.2])]) m (.lst ((xs ++ refs cs.length ds) ++ [.cell ((grow cs m xs ds).length + 2)])) (grow cs m xs (ds ++ [d])) := by
  have hm := (List.getElem?_eq_some_iff.mp h).1
  have e : (((grow cs m xs ds ++ [.lst (d.2.2.1.map SV.val)]) ++ [.tup [.val d.2.1, .cell (grow cs m xs ds).length, .val d.2.2.2]]) ++ [.tup (d.1.map SV.val ++ [.val d.2.1, .cell (grow cs m xs ds).length, .val d.2.2.2])]) = grow cs m xs ds ++ trip (grow cs m xs ds).length d := by
    rw [List.append_assoc, List.append_assoc]
    rfl
  rw [e]
  have e2 : grow cs m xs (ds ++ [d]) = (grow cs m xs ds ++ trip (grow cs m xs ds).length d).set m (.lst ((xs ++ refs cs.length ds) ++ [.cell ((grow cs m xs ds).length + 2)])) := by
    rw [grow_len]
    unfold grow
    rw [lay_app, refs_app, List.append_assoc, List.set_append_left _ _ (by rw [List.length_set]; exact hm), List.set_set]
    show _ ++ (lay _ ds ++ (trip _ d ++ [])) = _
    rw [List.append_nil, ← List.append_assoc, ← List.append_assoc, List.append_assoc _ (lay _ _)]
    show _ = List.set cs m (.lst ((xs ++ refs cs.length ds) ++ refs _ [d])) ++ (lay _ ds ++ trip _ d)
    rw [List.append_assoc]
  rw [e2]
  exact PutC.of (by rw [List.length_append, grow_len]; omega)
theorem grow_at2 {cs : Cs} {m : Nat} {xs : List SV} (h : cs[m]? = some (.lst xs)) (ds : List D5) (a b c : CC) : (((grow cs m xs ds ++ [a]) ++ [b]) ++ [c])[m]? = some (.lst (xs ++ refs cs.length ds)) := by
  have hm := (List.getElem?_eq_some_iff.mp h).1
  have h2 : m < (grow cs m xs ds).length := by rw [grow_len]; omega
  rw [List.append_assoc, List.append_assoc, List.getElem?_append_left h2]
  exact grow_at h ds
/-- what stands from n on -/
def Stand (C : Cs) (n : Nat) (L : Cs) : Prop := ∀ i c, L[i]? = some c → C[n + i]? = some c
theorem Stand.app {C : Cs} {n : Nat} {L M : Cs} (h : Stand C n (L ++ M)) : Stand C n L ∧ Stand C (n + L.length) M := by
  refine ⟨fun i c e => h i c (by rw [List.getElem?_append_left (List.getElem?_eq_some_iff.mp e).1]; exact e), fun i c e => ?_⟩
  have := h (L.length + i) c (by rw [List.getElem?_append_right (by omega), Nat.add_sub_cancel_left]; exact e)
  rw [Nat.add_assoc]
  exact this
theorem grow_stand (cs : Cs) (m : Nat) (xs : List SV) (ds : List D5) (g : Cs) : Stand (grow cs m xs ds ++ g) cs.length (lay cs.length ds) := fun i c e => by
  have hi := (List.getElem?_eq_some_iff.mp e).1
  rw [List.getElem?_append_left (by unfold grow; rw [List.length_append, List.length_set]; omega)]
  unfold grow
  rw [List.getElem?_append_right (by rw [List.length_set]; omega), List.length_set, Nat.add_sub_cancel_left]
  exact e
theorem valsIsDat (C : Cs) : ∀ ds : List PyData, Paired (IsDat C) (ds.map SV.val) ds
  | [] => .nil
  | _ :: r => .cons .val (valsIsDat C r)
theorem pd_appD {α β : Type} {F : α → β → Prop} {l l' : List α} {m m' : List β} (h : Paired F l m) (h2 : Paired F l' m') : Paired F (l ++ l') (m ++ m') := pd_app h h2
theorem refs_dat {C : Cs} : ∀ {n : Nat} {ds : List D5}, Stand C n (lay n ds) → Paired (IsDat2 C) (refs n ds) (ds.map D5.D)
  | _, [], _ => .nil
  | n, d :: r, h => by
    obtain ⟨h1, h2⟩ := Stand.app (L := trip n d) (M := lay (n + 3) r) h
    refine .cons ?_ (refs_dat h2)
    have a := h1 0 _ rfl
    have b := h1 2 _ rfl
    exact .tup b (pd_app (valsIsDat C d.1) (.cons .val (.cons (.cell a (data_map d.2.2.1)) (.cons .val .nil))))
end DL
set_option Elab.async false
set_option linter.all false
set_option maxRecDepth 100000
set_option maxHeartbeats 8000000
namespace DL
open PySem PySem.Spec PyProof.Rows L2
def topS (i : Nat) : Stmt := PySem.Challenge.pw_outlineward_k61_duties_of_straight_bodie.main.body.getD i (.Pass ⟨0, 0, 0, 0⟩)
abbrev s_place_names : Stmt := topS 5
abbrev N_place_names : List Str := ["place"]
abbrev P_place_names : List Str := ["place"]
theorem sc_place_names : FnScope N_place_names P_place_names (defScope s_place_names) := ⟨rfl, rfl, rfl, by decide +kernel, rfl, by decide +kernel, by decide +kernel⟩
theorem tb_place_names : tabOk (N_place_names.take 1) (defScope s_place_names) = true := by decide +kernel
abbrev s_term_names : Stmt := topS 6
abbrev N_term_names : List Str := ["term"]
abbrev P_term_names : List Str := ["term"]
theorem sc_term_names : FnScope N_term_names P_term_names (defScope s_term_names) := ⟨rfl, rfl, rfl, by decide +kernel, rfl, by decide +kernel, by decide +kernel⟩
theorem tb_term_names : tabOk (N_term_names.take 1) (defScope s_term_names) = true := by decide +kernel
abbrev s_claim_names : Stmt := topS 7
abbrev N_claim_names : List Str := ["claim", "one", "other", "numbers", "rows"]
abbrev P_claim_names : List Str := ["claim"]
theorem sc_claim_names : FnScope N_claim_names P_claim_names (defScope s_claim_names) := ⟨rfl, rfl, rfl, by decide +kernel, rfl, by decide +kernel, by decide +kernel⟩
theorem tb_claim_names : tabOk (N_claim_names.take 5) (defScope s_claim_names) = true := by decide +kernel
abbrev s_simple_names : Stmt := topS 8
abbrev N_simple_names : List Str := ["statement", "found"]
abbrev P_simple_names : List Str := ["statement"]
theorem sc_simple_names : FnScope N_simple_names P_simple_names (defScope s_simple_names) := ⟨rfl, rfl, rfl, by decide +kernel, rfl, by decide +kernel, by decide +kernel⟩
theorem tb_simple_names : tabOk (N_simple_names.take 2) (defScope s_simple_names) = true := by decide +kernel
abbrev s_claims_within : Stmt := topS 9
abbrev N_claims_within : List Str := ["statement"]
abbrev P_claims_within : List Str := ["statement"]
theorem sc_claims_within : FnScope N_claims_within P_claims_within (defScope s_claims_within) := ⟨rfl, rfl, rfl, by decide +kernel, rfl, by decide +kernel, by decide +kernel⟩
theorem tb_claims_within : tabOk (N_claims_within.take 1) (defScope s_claims_within) = true := by decide +kernel
abbrev s_bodies_of : Stmt := topS 10
abbrev N_bodies_of : List Str := ["statement"]
abbrev P_bodies_of : List Str := ["statement"]
theorem sc_bodies_of : FnScope N_bodies_of P_bodies_of (defScope s_bodies_of) := ⟨rfl, rfl, rfl, by decide +kernel, rfl, by decide +kernel, by decide +kernel⟩
theorem tb_bodies_of : tabOk (N_bodies_of.take 1) (defScope s_bodies_of) = true := by decide +kernel
abbrev s_body_names : Stmt := topS 11
abbrev N_body_names : List Str := ["body", "numbers", "rows", "statement", "some", "one", "claim", "inner"]
abbrev P_body_names : List Str := ["body"]
theorem sc_body_names : FnScope N_body_names P_body_names (defScope s_body_names) := ⟨rfl, rfl, rfl, by decide +kernel, rfl, by decide +kernel, by decide +kernel⟩
theorem tb_body_names : tabOk (N_body_names.take 6) (defScope s_body_names) = true := by decide +kernel
abbrev s_numbers_of : Stmt := topS 12
abbrev N_numbers_of : List Str := ["proc", "numbers", "claim"]
abbrev P_numbers_of : List Str := ["proc"]
theorem sc_numbers_of : FnScope N_numbers_of P_numbers_of (defScope s_numbers_of) := ⟨rfl, rfl, rfl, by decide +kernel, rfl, by decide +kernel, by decide +kernel⟩
theorem tb_numbers_of : tabOk (N_numbers_of.take 3) (defScope s_numbers_of) = true := by decide +kernel
abbrev s_turned : Stmt := topS 14
abbrev N_turned : List Str := ["least"]
abbrev P_turned : List Str := ["least"]
theorem sc_turned : FnScope N_turned P_turned (defScope s_turned) := ⟨rfl, rfl, rfl, by decide +kernel, rfl, by decide +kernel, by decide +kernel⟩
theorem tb_turned : tabOk (N_turned.take 1) (defScope s_turned) = true := by decide +kernel
abbrev s_said_place : Stmt := topS 15
abbrev N_said_place : List Str := ["place", "names"]
abbrev P_said_place : List Str := ["place", "names"]
theorem sc_said_place : FnScope N_said_place P_said_place (defScope s_said_place) := ⟨rfl, rfl, rfl, by decide +kernel, rfl, by decide +kernel, by decide +kernel⟩
theorem tb_said_place : tabOk (N_said_place.take 2) (defScope s_said_place) = true := by decide +kernel
abbrev s_said_term : Stmt := topS 16
abbrev N_said_term : List Str := ["term", "names"]
abbrev P_said_term : List Str := ["term", "names"]
theorem sc_said_term : FnScope N_said_term P_said_term (defScope s_said_term) := ⟨rfl, rfl, rfl, by decide +kernel, rfl, by decide +kernel, by decide +kernel⟩
theorem tb_said_term : tabOk (N_said_term.take 2) (defScope s_said_term) = true := by decide +kernel
abbrev s_said : Stmt := topS 17
abbrev N_said : List Str := ["claim", "names", "t", "u", "r"]
abbrev P_said : List Str := ["claim", "names"]
theorem sc_said : FnScope N_said P_said (defScope s_said) := ⟨rfl, rfl, rfl, by decide +kernel, rfl, by decide +kernel, by decide +kernel⟩
theorem tb_said : tabOk (N_said.take 5) (defScope s_said) = true := by decide +kernel
abbrev s_note : Stmt := topS 20
abbrev N_note : List Str := ["met", "head", "claims", "ways", "way", "k", "claim"]
abbrev P_note : List Str := ["met", "head", "claims", "ways"]
theorem sc_note : FnScope N_note P_note (defScope s_note) := ⟨rfl, rfl, rfl, by decide +kernel, rfl, by decide +kernel, by decide +kernel⟩
theorem tb_note : tabOk (N_note.take 7) (defScope s_note) = true := by decide +kernel
abbrev s_put_behind : Stmt := topS 21
abbrev N_put_behind : List Str := ["ways", "rows", "way"]
abbrev P_put_behind : List Str := ["ways", "rows"]
theorem sc_put_behind : FnScope N_put_behind P_put_behind (defScope s_put_behind) := ⟨rfl, rfl, rfl, by decide +kernel, rfl, by decide +kernel, by decide +kernel⟩
theorem tb_put_behind : tabOk (N_put_behind.take 2) (defScope s_put_behind) = true := by decide +kernel
abbrev s_proc_named : Stmt := topS 22
abbrev N_proc_named : List Str := ["program", "f", "proc"]
abbrev P_proc_named : List Str := ["program", "f"]
theorem sc_proc_named : FnScope N_proc_named P_proc_named (defScope s_proc_named) := ⟨rfl, rfl, rfl, by decide +kernel, rfl, by decide +kernel, by decide +kernel⟩
theorem tb_proc_named : tabOk (N_proc_named.take 3) (defScope s_proc_named) = true := by decide +kernel
abbrev s_names_in_call : Stmt := topS 23
abbrev N_names_in_call : List Str := ["callee", "statement", "names", "y", "r", "given"]
abbrev P_names_in_call : List Str := ["callee", "statement"]
theorem sc_names_in_call : FnScope N_names_in_call P_names_in_call (defScope s_names_in_call) := ⟨rfl, rfl, rfl, by decide +kernel, rfl, by decide +kernel, by decide +kernel⟩
theorem tb_names_in_call : tabOk (N_names_in_call.take 6) (defScope s_names_in_call) = true := by decide +kernel
abbrev s_walk_call : Stmt := topS 24
abbrev N_walk_call : List Str := ["program", "f", "statement", "path", "ways", "met", "callee", "names", "sets", "y", "arg", "rows", "give", "need", "r"]
abbrev P_walk_call : List Str := ["program", "f", "statement", "path", "ways", "met"]
theorem sc_walk_call : FnScope N_walk_call P_walk_call (defScope s_walk_call) := ⟨rfl, rfl, rfl, by decide +kernel, rfl, by decide +kernel, by decide +kernel⟩
theorem tb_walk_call : tabOk (N_walk_call.take 13) (defScope s_walk_call) = true := by decide +kernel
abbrev s_walk_if : Stmt := topS 25
abbrev N_walk_if : List Str := ["program", "f", "statement", "path", "ways", "met", "least", "yes", "no"]
abbrev P_walk_if : List Str := ["program", "f", "statement", "path", "ways", "met"]
theorem sc_walk_if : FnScope N_walk_if P_walk_if (defScope s_walk_if) := ⟨rfl, rfl, rfl, by decide +kernel, rfl, by decide +kernel, by decide +kernel⟩
theorem tb_walk_if : tabOk (N_walk_if.take 9) (defScope s_walk_if) = true := by decide +kernel
abbrev s_walk_while : Stmt := topS 26
abbrev N_walk_while : List Str := ["program", "f", "statement", "path", "ways", "met", "least", "keeps", "head", "ends", "keep"]
abbrev P_walk_while : List Str := ["program", "f", "statement", "path", "ways", "met"]
theorem sc_walk_while : FnScope N_walk_while P_walk_while (defScope s_walk_while) := ⟨rfl, rfl, rfl, by decide +kernel, rfl, by decide +kernel, by decide +kernel⟩
theorem tb_walk_while : tabOk (N_walk_while.take 10) (defScope s_walk_while) = true := by decide +kernel
abbrev s_walk_statement : Stmt := topS 27
abbrev N_walk_statement : List Str := ["program", "f", "statement", "path", "ways", "met", "kind"]
abbrev P_walk_statement : List Str := ["program", "f", "statement", "path", "ways", "met"]
theorem sc_walk_statement : FnScope N_walk_statement P_walk_statement (defScope s_walk_statement) := ⟨rfl, rfl, rfl, by decide +kernel, rfl, by decide +kernel, by decide +kernel⟩
theorem tb_walk_statement : tabOk (N_walk_statement.take 7) (defScope s_walk_statement) = true := by decide +kernel
abbrev s_walk : Stmt := topS 28
abbrev N_walk : List Str := ["program", "f", "body", "before", "ways", "met", "n", "statement"]
abbrev P_walk : List Str := ["program", "f", "body", "before", "ways", "met"]
theorem sc_walk : FnScope N_walk P_walk (defScope s_walk) := ⟨rfl, rfl, rfl, by decide +kernel, rfl, by decide +kernel, by decide +kernel⟩
theorem tb_walk : tabOk (N_walk.take 8) (defScope s_walk) = true := by decide +kernel
abbrev s_first_way : Stmt := topS 29
abbrev N_first_way : List Str := ["proc", "way", "x", "need"]
abbrev P_first_way : List Str := ["proc"]
theorem sc_first_way : FnScope N_first_way P_first_way (defScope s_first_way) := ⟨rfl, rfl, rfl, by decide +kernel, rfl, by decide +kernel, by decide +kernel⟩
theorem tb_first_way : tabOk (N_first_way.take 2) (defScope s_first_way) = true := by decide +kernel
abbrev s_duties_of : Stmt := topS 30
abbrev N_duties_of : List Str := ["program", "proc", "met", "ways"]
abbrev P_duties_of : List Str := ["program", "proc"]
theorem sc_duties_of : FnScope N_duties_of P_duties_of (defScope s_duties_of) := ⟨rfl, rfl, rfl, by decide +kernel, rfl, by decide +kernel, by decide +kernel⟩
theorem tb_duties_of : tabOk (N_duties_of.take 4) (defScope s_duties_of) = true := by decide +kernel
abbrev s_duties : Stmt := topS 31
abbrev N_duties : List Str := ["program", "met", "proc"]
abbrev P_duties : List Str := ["program"]
theorem sc_duties : FnScope N_duties P_duties (defScope s_duties) := ⟨rfl, rfl, rfl, by decide +kernel, rfl, by decide +kernel, by decide +kernel⟩
theorem tb_duties : tabOk (N_duties.take 3) (defScope s_duties) = true := by decide +kernel
abbrev s__law_cell : Stmt := topS 33
abbrev N__law_cell : List Str := ["_law_script", "_law_k", "_law_number"]
abbrev P__law_cell : List Str := ["_law_script", "_law_k"]
theorem sc__law_cell : FnScope N__law_cell P__law_cell (defScope s__law_cell) := ⟨rfl, rfl, rfl, by decide +kernel, rfl, by decide +kernel, by decide +kernel⟩
theorem tb__law_cell : tabOk (N__law_cell.take 3) (defScope s__law_cell) = true := by decide +kernel
abbrev s__law_word : Stmt := topS 34
abbrev N__law_word : List Str := ["_law_cell_here", "_law_letters", "_law_size", "_law_left", "_law_word_here", "_law_at"]
abbrev P__law_word : List Str := ["_law_cell_here"]
theorem sc__law_word : FnScope N__law_word P__law_word (defScope s__law_word) := ⟨rfl, rfl, rfl, by decide +kernel, rfl, by decide +kernel, by decide +kernel⟩
theorem tb__law_word : tabOk (N__law_word.take 6) (defScope s__law_word) = true := by decide +kernel
abbrev s__law_words : Stmt := topS 35
abbrev N__law_words : List Str := ["_law_script", "_law_start", "_law_many", "_law_words_here", "_law_k", "_law_cell_here"]
abbrev P__law_words : List Str := ["_law_script", "_law_start", "_law_many"]
theorem sc__law_words : FnScope N__law_words P__law_words (defScope s__law_words) := ⟨rfl, rfl, rfl, by decide +kernel, rfl, by decide +kernel, by decide +kernel⟩
theorem tb__law_words : tabOk (N__law_words.take 6) (defScope s__law_words) = true := by decide +kernel
abbrev s__law_far : Stmt := topS 36
abbrev N__law_far : List Str := ["_law_cell_here"]
abbrev P__law_far : List Str := ["_law_cell_here"]
theorem sc__law_far : FnScope N__law_far P__law_far (defScope s__law_far) := ⟨rfl, rfl, rfl, by decide +kernel, rfl, by decide +kernel, by decide +kernel⟩
theorem tb__law_far : tabOk (N__law_far.take 1) (defScope s__law_far) = true := by decide +kernel
abbrev s__law_place : Stmt := topS 37
abbrev N__law_place : List Str := ["_law_cell_here", "_law_nums"]
abbrev P__law_place : List Str := ["_law_cell_here", "_law_nums"]
theorem sc__law_place : FnScope N__law_place P__law_place (defScope s__law_place) := ⟨rfl, rfl, rfl, by decide +kernel, rfl, by decide +kernel, by decide +kernel⟩
theorem tb__law_place : tabOk (N__law_place.take 2) (defScope s__law_place) = true := by decide +kernel
abbrev s__law_term : Stmt := topS 38
abbrev N__law_term : List Str := ["_law_cell_here", "_law_nums", "_law_rows"]
abbrev P__law_term : List Str := ["_law_cell_here", "_law_nums", "_law_rows"]
theorem sc__law_term : FnScope N__law_term P__law_term (defScope s__law_term) := ⟨rfl, rfl, rfl, by decide +kernel, rfl, by decide +kernel, by decide +kernel⟩
theorem tb__law_term : tabOk (N__law_term.take 3) (defScope s__law_term) = true := by decide +kernel
abbrev s__law_claim : Stmt := topS 39
abbrev N__law_claim : List Str := ["_law_cell_here", "_law_nums", "_law_rows", "_law_which", "_law_one", "_law_r", "_law_t", "_law_u", "_law_b"]
abbrev P__law_claim : List Str := ["_law_cell_here", "_law_nums", "_law_rows"]
theorem sc__law_claim : FnScope N__law_claim P__law_claim (defScope s__law_claim) := ⟨rfl, rfl, rfl, by decide +kernel, rfl, by decide +kernel, by decide +kernel⟩
theorem tb__law_claim : tabOk (N__law_claim.take 9) (defScope s__law_claim) = true := by decide +kernel
abbrev s__law_used : Stmt := topS 40
abbrev N__law_used : List Str := ["_law_thing", "_law_nums", "_law_found", "_law_one"]
abbrev P__law_used : List Str := ["_law_thing", "_law_nums"]
theorem sc__law_used : FnScope N__law_used P__law_used (defScope s__law_used) := ⟨rfl, rfl, rfl, by decide +kernel, rfl, by decide +kernel, by decide +kernel⟩
theorem tb__law_used : tabOk (N__law_used.take 4) (defScope s__law_used) = true := by decide +kernel
abbrev s__law_statement : Stmt := topS 41
abbrev N__law_statement : List Str := ["_law_cell_here", "_law_nums", "_law_free", "_law_rows", "_law_which", "_law_x", "_law_r"]
abbrev P__law_statement : List Str := ["_law_cell_here", "_law_nums", "_law_free", "_law_rows"]
theorem sc__law_statement : FnScope N__law_statement P__law_statement (defScope s__law_statement) := ⟨rfl, rfl, rfl, by decide +kernel, rfl, by decide +kernel, by decide +kernel⟩
theorem tb__law_statement : tabOk (N__law_statement.take 7) (defScope s__law_statement) = true := by decide +kernel
abbrev s__law_proc : Stmt := topS 42
abbrev N__law_proc : List Str := ["_law_script", "_law_words_here", "_law_params", "_law_free", "_law_nums", "_law_rows", "_law_needs", "_law_gives", "_law_k", "_law_body"]
abbrev P__law_proc : List Str := ["_law_script", "_law_words_here"]
theorem sc__law_proc : FnScope N__law_proc P__law_proc (defScope s__law_proc) := ⟨rfl, rfl, rfl, by decide +kernel, rfl, by decide +kernel, by decide +kernel⟩
theorem tb__law_proc : tabOk (N__law_proc.take 10) (defScope s__law_proc) = true := by decide +kernel
abbrev s__law_due : Stmt := topS 43
abbrev N__law_due : List Str := ["_law_proc_here", "_law_names", "_law_used_here", "_law_way", "_law_found", "_law_n", "_law_statement_here", "_law_k", "_law_give", "_law_x", "_law_need"]
abbrev P__law_due : List Str := ["_law_proc_here", "_law_names"]
theorem sc__law_due : FnScope N__law_due P__law_due (defScope s__law_due) := ⟨rfl, rfl, rfl, by decide +kernel, rfl, by decide +kernel, by decide +kernel⟩
theorem tb__law_due : tabOk (N__law_due.take 9) (defScope s__law_due) = true := by decide +kernel
abbrev s_law : Stmt := topS 44
abbrev N_law : List Str := ["_law_script", "_law_words_here", "_law_proc_here", "_law_due_here", "_law_found", "_law_k"]
abbrev P_law : List Str := ["_law_script"]
theorem sc_law : FnScope N_law P_law (defScope s_law) := ⟨rfl, rfl, rfl, by decide +kernel, rfl, by decide +kernel, by decide +kernel⟩
theorem tb_law : tabOk (N_law.take 6) (defScope s_law) = true := by decide +kernel
/-- what a script is -/
def Sbd (n : Int) : Prop := ∃ b : Nat, b ≤ 1050000 ∧ n.natAbs < 2 ^ b
theorem Sbd.bd {n : Int} (h : Sbd n) : Bd n := by
  obtain ⟨b, hb, h⟩ := h
  exact ⟨b, by omega, h⟩
theorem sbd_of {ns : List Int} (h : ∀ z ∈ ns, Builtin.Int.intBits z ≤ 1048576) : ∀ z ∈ ns, Sbd z := fun z hz => by
  refine ⟨1048576, by omega, ?_⟩
  have h1 := h z hz
  unfold Builtin.Int.intBits at h1
  by_cases h0 : z = 0
  · subst h0
    exact Nat.two_pow_pos _
  · rw [if_neg (by simpa using h0)] at h1
    exact Nat.lt_of_lt_of_le Nat.lt_log2_self (Nat.pow_le_pow_right (by omega) h1)
structure Scr where
  ns : List Int
  len : ns.length ≤ 63
  bd : ∀ z ∈ ns, Sbd z
abbrev Scr.D (S : Scr) : PyData := .list (S.ns.map .int)
abbrev Scr.at (S : Scr) (k : Nat) : Int := S.ns.getD k 0
theorem Scr.bdAt (S : Scr) (k : Nat) : Sbd (S.at k) := by
  unfold Scr.at
  rw [List.getD_eq_getElem?_getD]
  cases h : S.ns[k]? with
  | none => exact ⟨1, by decide, by decide⟩
  | some z => exact S.bd z (List.mem_of_getElem? h)
theorem Scr.atI (S : Scr) {i : Int} (h0 : 0 ≤ i) (h1 : i < S.ns.length) : L2.atI (S.ns.map PyData.int) i = some (.int (S.at i.toNat)) := at_map h0 h1
section
set_option maxHeartbeats 4000000
/-! ### set(xs) of a list of ints, sorted(set(xs)), of any number -/
/-- what a new set is -/
def eset (w : World) : Obj := { cls := .type "set", dict := none, data := .set #[] 0 (.fresh 0 0 (!w.params.followText "set-order")) }
section
variable {P : Program} {w : World} {A : Around} {Er : Value → Shared → Prop} {s : Shared}
set_option maxRecDepth 100000 in
theorem setl_call {at_ : Addr} {vals : Array Value} (ns : List Int) {Good : Value → Shared → Prop} (calm : A.handled = none) (isl : s.heap.IsList at_ vals) (iv : IntsAre vals.toList ns) (few : ns.length + 1 < scanBound)
    (fin : ∀ (hp : Heap) (tok cnt : Nat), SetR w hp s.heap.objs.size (fun j => decide (j ∈ ns)) cnt → cnt ≤ ns.length → (∀ b o, s.heap.get? b = some o → hp.get? b = some o) → Good (.ref s.heap.objs.size) { s with heap := hp, toks := tok }) :
    wpAny (model P w) A (call (.type "set") [.ref at_]) Good Er s := by
  have size_eq : vals.size = ns.length := by
    have := IntsAre.length iv
    rwa [Array.length_toList] at this
  obtain ⟨c0, tl0, mro0⟩ := F.called_set.mro
  have made0 := F.called_set.made
  have sub0 := F.called_set.sub
  refine wpAny_call (codeAny_of_tree ?_)
  show wpAny (model P w) _ (callAny (.type "set") _) _ _ s
  refine wpAny_pure ⟨Code.quiet_builtin _ (by decide +kernel), codeAny_builtin F.entry_type_call ?_⟩
  rw [Around.under_plain (weight_type_call_type "set" [.ref at_] []) rfl]
  have nt0 := F.called_set.notType
  have cc0 := F.called_set.canCreate
  have tc0 := F.typeCall_set_1 (.ref at_)
  repeat (any_goals (first | assumption | wp_step))
  refine codeAny_mono (code_set_led1 (.ref at_) (E := Er) (Q₁ := fun ob s₁ => ob = .ref s.heap.objs.size ∧ s₁ = { s with heap := s.heap.push (eset w) }) ⟨rfl, rfl⟩) fun res st1 hres => ?_
  match res, hres with
  | .error _, z => exact z
  | .ok (.ret ob), z =>
    obtain ⟨rfl, rfl⟩ := z
    have here : (s.heap.push (eset w)).get? s.heap.objs.size = some (eset w) := Heap.get?_push_size _ rfl
    have isset : Shared.TypeIs { s with heap := s.heap.push (eset w) } (.ref s.heap.objs.size) "set" := ⟨_, here, rfl⟩
    have lk0 := F.called_set.init.lookup
    have bi0 := F.called_set.init.bind (.ref s.heap.objs.size)
    repeat (any_goals (first | assumption | wp_step))
    refine codeAny_mono (codeAny_call_builtin (R := wants (fun told s₂ => told = .none ∧ ∃ hp tok cnt, s₂ = { s with heap := hp, toks := tok } ∧ SetR w hp s.heap.objs.size (fun j => decide (j ∈ ns)) cnt ∧ cnt ≤ ns.length ∧
        (∀ b o, s.heap.get? b = some o → hp.get? b = some o)) Er) F.called_set.init.plain F.entry_set_init (check_set_init_1 isset ?_)) fun res2 st2 hres2 => ?_
    · obtain ⟨ob, hob, cl, nn, dt⟩ := isl
      obtain ⟨f1, f2, f3, f4⟩ := ob
      simp only at cl dt
      subst cl
      subst dt
      have hob2 : (s.heap.push (eset w)).get? at_ = some { cls := .type "list", dict := f2, data := .seq vals nn, slots := f4 } := Heap.get?_push_of_some _ hob
      have n1 := F.sub_list_set
      have n2 := F.sub_list_frozenset
      have n3 : (Value.type "list" == Value.type "dict") = false := by decide
      have isl2 : (s.heap.push (eset w)).IsList at_ vals := ⟨_, hob2, rfl, nn, rfl⟩
      unfold Builtin.«set.__init__» noKeywords Builtin.Frozenset.updateFrom
      generalize hold : pyIter = walkIt
      wp_walk
      subst hold
      refine wpAny_pyIter_list isl2 ?_
      refine wpAny_bind (wpAny_runValue ?_)
      have ltA : at_ < s.heap.objs.size := Heap.lt_size hob
      have calm3 : A.in1.in1.in1.handled = none := by simp [calm]
      have neIt : at_ ≠ (s.heap.push (eset w)).objs.size := by
        rw [Heap.size_push]
        exact fun z => Nat.lt_irrefl _ (Nat.lt_trans (z ▸ ltA : s.heap.objs.size + 1 < _) (Nat.lt_succ_self _))
      have notIn : s.heap.objs.size ∉ [(s.heap.push (eset w)).objs.size, at_] := by
        intro z
        rcases List.mem_cons.mp z with z | z
        · rw [Heap.size_push] at z
          exact Nat.ne_of_lt (Nat.lt_succ_self _) z
        · rw [List.mem_singleton] at z
          exact Nat.lt_irrefl _ (z ▸ ltA)
      have each : ∀ (i : Nat) (v : Value), vals[i]? = some v → ∃ k t, ns[i]? = some k ∧ v = .int k t := fun i v hv => by
        have hi : i < ns.length := by
          rw [← size_eq]
          exact (Array.getElem?_eq_some_iff.mp hv).1
        obtain ⟨t, e⟩ := IntsAre.int_at iv i v (by rw [Array.getElem?_toList]; exact hv)
        exact ⟨ns[i], t, List.getElem?_eq_getElem hi, by rw [e, List.getD_eq_getElem?_getD, List.getElem?_eq_getElem hi]; rfl⟩
      refine set_update_ints ((Walks.list calm3 _ at_ neIt vals).toS) s.heap.objs.size notIn ns size_eq few each vals.size 0 _ (by omega) (by omega) ⟨⟨_, Heap.get?_push_size _ rfl, rfl, rfl⟩, isl2.push _⟩ ⟨0, by omega, ?_⟩ ?_
      · exact setR_new_at (Heap.get?_push_of_some _ here)
      · intro sx cx mv le set2
        have g1 : sx.gens = s.gens := mv.gens
        have g2 : sx.drawn = s.drawn := mv.drawn
        have g3 : sx.os = s.os := mv.os
        show wpAny _ _ _ _ _ _
        refine wpAny_pure ?_
        show wpAny _ _ (ret Value.none) _ _ _
        rw [size_eq] at le
        refine wpAny_pure ⟨rfl, sx.heap, sx.toks, cx, ?_, set2, le, fun b o e => ?_⟩
        · cases sx
          cases s
          simp only at g1 g2 g3
          subst g1
          subst g2
          subst g3
          rfl
        · have b0 : b < s.heap.objs.size := Heap.lt_size e
          refine mv.heap b o (fun z => ?_) (Heap.get?_push_of_some _ (Heap.get?_push_of_some _ e))
          rcases List.mem_cons.mp z with z | z
          · exact Nat.lt_irrefl _ (z ▸ b0)
          · rw [List.mem_singleton, Heap.size_push] at z
            exact Nat.lt_irrefl _ (Nat.lt_trans (z ▸ b0 : s.heap.objs.size + 1 < _) (Nat.lt_succ_self _))
    · match res2, hres2 with
      | .error _, z => exact z
      | .ok (.ret _), z =>
        obtain ⟨rfl, hp, tok, cnt, rfl, k1, k2, k3⟩ := z
        repeat (any_goals (first | assumption | wp_step))
        exact fin _ _ _ k1 k2 k3
end
section
variable {P : Program} {w : World} {A : Around} {Er : Value → Shared → Prop} {s : Shared}
theorem sets_sorted {at_ : Addr} {S : Int → Bool} {cnt : Nat} {Good : Value → Shared → Prop} (R : SetR w s.heap at_ S cnt) (calm : A.handled = none)
    (fin : ∀ (s2 : Shared) (p : Addr) (out : List Value) (ns : List Int), (∀ b o, s.heap.get? b = some o → s2.heap.get? b = some o) → s2.gens = s.gens → s2.os = s.os → s.heap.objs.size ≤ p → (∃ ep, s2.heap.get? p = some (seqObj "list" out.toArray ep)) →
      IntsAre out ns → ns.length ≤ sizeLine → ns.Pairwise (· < ·) → (∀ k, k ∈ ns ↔ S k = true) → Good (.ref p) s2) :
    wpAny (model P w) A (call (.builtin "sorted") [.ref at_]) Good Er s := by
  obtain ⟨ob, es, ep, tb, hob, ex, dt, good, nodup, mem, few, fits, size, ris, led⟩ := R
  refine Calls.call_function_entry kind_sorted plain_sorted entry_sorted (args_sorted1 _) ?_
  unfold Builtin.«sorted»
  refine wpAny_bind (m := checkCount "sorted" 1 1 _) (wpAny_pure ?_)
  refine wpAny_bind (collect_set (A := A.in1) calm ⟨ob, hob, ex.1, dt⟩ fits few ris led fun st got keep grow gens os perm => ?_)
  have allI : ∀ v ∈ got, ∃ i t, v = Value.int i t := fun v hv => by
    obtain ⟨e, he, q⟩ := List.mem_map.mp (perm.mem_iff.mp hv)
    obtain ⟨k, tk, h1, _⟩ := good e he
    exact ⟨k, tk, by rw [← q]; exact h1⟩
  have hI := SrtO.ints_iv allI
  have lenG : got.length < scanBound := by
    rw [perm.length_eq, List.length_map, Array.length_toList]
    exact few
  have lenS : got.length ≤ sizeLine := by
    rw [sizeLine_eq]
    unfold scanBound at lenG
    omega
  have keys : (got.map SrtO.iv).Perm (es.toList.map keyOf) := by
    have q := perm.map SrtO.iv
    rw [List.map_map] at q
    refine q.trans (List.Perm.of_eq (List.map_congr_left fun e he => ?_))
    obtain ⟨k, tk, h1, _⟩ := good e he
    show SrtO.iv e.2 = keyOf e
    unfold keyOf
    rw [h1]
    rfl
  refine wpAny_bind (wpAny_newList ?_ (by omega))
  have there : (st.heap.push (seqObj "list" got.toArray 0)).get? st.heap.objs.size = some (seqObj "list" got.toArray 0) := Heap.get?_push_size _ rfl
  refine wpAny_bind (wpAny_holding (wpAny_call_entry slot_list_sort ⟨_, there, rfl⟩ entry_list_sort (SrtO.list_sort_ord SrtO.swo_int there lenS (fun h2 => SrtO.ints_sortable hI h2) fun out o1 o2 => ⟨_, rfl, ?_⟩) (args_list_sort _)))
  obtain ⟨k1, k2, k3⟩ := SrtO.ints_out hI o1 o2
  obtain ⟨e2, atP⟩ := sortedHeap_at (vs := got) (out := out.toArray) there
  have pm : (out.map SrtO.iv).Perm (es.toList.map keyOf) := k2.trans keys
  have lenO : (out.map SrtO.iv).length ≤ sizeLine := by
    rw [k2.length_eq, List.length_map]
    exact lenS
  refine wpAny_pure ⟨_, rfl, fin _ st.heap.objs.size out (out.map SrtO.iv) (fun b u e => ?_) gens os grow ⟨e2, atP⟩ k1 lenO ?_ fun k => by rw [pm.mem_iff, ← mem k]⟩
  · have old := keep b u e
    have lt := Heap.lt_size old
    show (sortedHeap _ _ _ _).get? b = some u
    rw [sortedHeap_old (Nat.ne_of_lt lt) (by rw [size_push']; exact Nat.lt_succ_of_lt lt)]
    exact Heap.get?_push_of_some _ old
  · have nd2 := pm.nodup_iff.mpr nodup
    exact (k3.and nd2).imp fun {x y} h => by omega
end
/-- what set(xs) is -/
def rSetIL (K : PySem.W.Frag) (w : World) : List V → Hp → VK → Prop := fun xs H Q => ∃ (l : Addr) (ns : List Int), xs = [V.ref l] ∧ SqL K H l (ns.map V.int) ∧ ns.length + 1 < scanBound ∧
  ∀ (a : Addr) (c : Nat), H a = none → c ≤ ns.length → Q (.ref a) (upd H a (SetO w a (fun j => decide (j ∈ ns)) c))
/-- sorted of a set of ints -/
def rSortIS (w : World) : List V → Hp → VK → Prop := fun xs H Q => ∃ (a : Addr) (S : Int → Bool) (n : Nat), xs = [V.ref a] ∧ H a = some (SetO w a S n) ∧
  ∀ (ns : List Int) (p : Addr), ns.Pairwise (· < ·) → (∀ k : Int, k ∈ ns ↔ S k = true) → H p = none → Q (.ref p) (upd H p (.lst (ns.map V.int)))
section
variable {X : Cx}
theorem cr_setIL (calm : X.calm = true) : CallR X (.type "set") (rSetIL X.K X.w) := by
  intro pins s σ H xs us Q I r h
  obtain ⟨l, ns, rfl, hl, few, q⟩ := h
  rw [Vals.ref1 r]
  obtain ⟨its, rv, pl, _⟩ := I.list hl
  have free : H s.heap.objs.size = none := I.hok.fresh (Nat.le_refl _)
  refine setl_call ns (I.ok.hd calm) pl.isList (by simpa using rv.ints) few fun hp tok cnt R le keep => ?_
  exact ⟨.ref s.heap.objs.size, upd H s.heap.objs.size (SetO X.w s.heap.objs.size (fun j => decide (j ∈ ns)) cnt), I.laid (t' := tok) keep (Nat.le_refl _) (setO_new R), rfl, q _ cnt free le⟩
theorem cr_sortIS (calm : X.calm = true) : CallR X (.builtin "sorted") (rSortIS X.w) := by
  intro pins s σ H xs us Q I r h
  obtain ⟨a, S, n, rfl, ha, q⟩ := h
  rw [Vals.ref1 r]
  refine sets_sorted (setO_get I ha) (I.ok.hd calm) fun s2 p out ns keep gens os free ⟨ep, atp⟩ iso len srt mem => ?_
  have hn : H p = none := I.hok.fresh free
  have lenV : (ns.map V.int).length ≤ sizeLine := by rw [List.length_map]; exact len
  have J : Inv X pins σ (upd H p (.lst (ns.map V.int))) { s with heap := s2.heap, gens := s2.gens, drawn := s2.drawn, toks := s2.toks } :=
    I.call (ch := []) (Un.laid keep free hn) (I.hok.laid keep free ⟨lenV, out, ep, vals_of_ints iso, atp⟩) (by rw [gens]; exact I.bare) (fun _ z => nomatch z)
  have same : s2 = { s with heap := s2.heap, gens := s2.gens, drawn := s2.drawn, toks := s2.toks } := by
    cases s2
    cases s
    cases os
    rfl
  rw [same]
  exact ⟨.ref p, _, J, rfl, q ns p srt mem hn⟩
end
def uniqS : List Int → List Int
  | [] => []
  | [a] => [a]
  | a :: b :: r => if a = b then uniqS (b :: r) else a :: uniqS (b :: r)
/-- the numbers of a list, each once, rising -/
def sortU (ns : List Int) : List Int := uniqS (sortI ns)
theorem uniqS_ok : ∀ (l : List Int), l.Pairwise (· ≤ ·) → (uniqS l).Pairwise (· < ·) ∧ ∀ k, k ∈ uniqS l ↔ k ∈ l
  | [], _ => ⟨List.Pairwise.nil, fun k => Iff.rfl⟩
  | [a], _ => ⟨List.pairwise_singleton _ _, fun k => Iff.rfl⟩
  | a :: b :: r, hl => by
    rw [List.pairwise_cons] at hl
    obtain ⟨h1, h2⟩ := uniqS_ok (b :: r) hl.2
    by_cases e : a = b
    · have q : uniqS (a :: b :: r) = uniqS (b :: r) := by
        show (if a = b then _ else _) = _
        rw [if_pos e]
      rw [q]
      refine ⟨h1, fun k => ?_⟩
      rw [h2, List.mem_cons (a := k) (b := a), e]
      exact ⟨.inr, fun z => z.elim (fun z => by rw [z]; exact List.mem_cons_self) id⟩
    · have q : uniqS (a :: b :: r) = a :: uniqS (b :: r) := by
        show (if a = b then _ else _) = _
        rw [if_neg e]
      rw [q]
      refine ⟨List.pairwise_cons.mpr ⟨fun x hx => ?_, h1⟩, fun k => by rw [List.mem_cons, h2, List.mem_cons (a := k) (b := a)]⟩
      have hx2 := (h2 x).mp hx
      have l1 := hl.1 b List.mem_cons_self
      rcases List.mem_cons.mp hx2 with z | z
      · omega
      · have := (List.pairwise_cons.mp hl.2).1 x z
        omega
theorem sortU_ok (ns : List Int) : (sortU ns).Pairwise (· < ·) ∧ ∀ k, k ∈ sortU ns ↔ k ∈ ns := by
  obtain ⟨h1, h2⟩ := uniqS_ok _ (sortI_srt ns)
  exact ⟨h1, fun k => (h2 k).trans (sortI_perm ns).mem_iff⟩
theorem uniqS_len : ∀ l : List Int, (uniqS l).length ≤ l.length
  | [] => Nat.le_refl _
  | [a] => Nat.le_refl _
  | a :: b :: r => by
    have := uniqS_len (b :: r)
    show (if a = b then uniqS (b :: r) else a :: uniqS (b :: r)).length ≤ _
    split
    · rw [List.length_cons]; omega
    · rw [List.length_cons, List.length_cons (a := a)]; omega
theorem sortU_len (ns : List Int) : (sortU ns).length ≤ ns.length := by
  have h := uniqS_len (sortI ns)
  rw [(sortI_perm ns).length_eq] at h
  exact h
theorem sortU_uniq {ns ms : List Int} (h : ms.Pairwise (· < ·)) (hm : ∀ k, k ∈ ms ↔ k ∈ ns) : ms = sortU ns := by
  obtain ⟨h1, h2⟩ := sortU_ok ns
  have n1 : ms.Nodup := h.imp fun {a b} h => by omega
  have n2 : (sortU ns).Nodup := h1.imp fun {a b} h => by omega
  have p : ms.Perm (sortU ns) := (List.perm_ext_iff_of_nodup n1 n2).mpr fun k => (hm k).trans (h2 k).symm
  exact perm_sorted (le := fun a b : Int => a ≤ b) (fun a b h1 h2 => by omega) p (h.imp fun {a b} h => by omega) (h1.imp fun {a b} h => by omega)
section
variable {X : Cx} {na : NA} {sl sl' : Sl} {cs cs1 cs2 cs3 : Cs} {s t u : SV} {pos pos2 p p2 : Pos} {a : Expr}
theorem ev_sortedSet {ns : List Int} (hm : X.mg "sorted" = none) (hm2 : X.mg "set" = none) (ha : EV X na a sl cs s cs1) (hl : IsL cs1 s ((ns.map PyData.int).map SV.val)) (few : ns.length ≤ 1000) (hc : X.calm = true := by rfl) (hg : Gl X "sorted" := by rfl) (hg2 : Gl X "set" := by rfl)
    (hs : starEach [a] X.env = (false, eval a X.env) :: starEach [] X.env := by rfl) (hs2 : starEach [.Call (.Name "set" p2) [a] [] pos2] X.env = (false, eval (.Call (.Name "set" p2) [a] [] pos2) X.env) :: starEach [] X.env := by rfl)
    (hpl : (backTo pos2 (starEach [] X.env)).any (·.1) = false := by rfl) (hpl2 : (backTo pos (starEach [] X.env)).any (·.1) = false := by rfl) :
    EV X na (.Call (.Name "sorted" p) [.Call (.Name "set" p2) [a] [] pos2] [] pos) sl cs (.val (.list ((sortU ns).map .int))) cs1 := by
  have inner : PE X (.Call (.Name "set" p2) [a] [] pos2) (tCB (rSetIL X.K X.w) (tCons (anyE X a) tNil)) := pe_callTy (cr_setIL hc) hg2 hm2 (by decide +kernel) (pa_cons pe_any pa_nil hs) (by decide) (by decide) hs hpl
  refine ev_of (pe_callB (cr_sortIS hc) hg hm (by decide +kernel) (pa_cons inner pa_nil hs2) (by decide) (by decide) hs2 hpl2) fun B G ps σ H hn C S Q q => ?_
  refine ha B G ps σ H hn C S _ fun v G1 ps1 H1 C1 u1 r1 => ?_
  obtain ⟨l, vs, rfl, h1, h2⟩ := hl.sq C1 r1
  have e : vs = ns.map V.int := Reps.ints (Reps.ofVs h2)
  subst e
  refine ⟨l, ns, rfl, h1, by unfold scanBound; omega, fun b c hb _ => ?_⟩
  have C2 := C1.alloc (SetO X.w b (fun j => decide (j ∈ ns)) c) hb
  have u2 : Up G1 ps1 (upd G1 b (SetO X.w b (fun j => decide (j ∈ ns)) c)) ps1 := ⟨Same.new (C1.freeG hb), List.prefix_refl _⟩
  refine ⟨b, _, _, rfl, upd_same, fun ms d srt mem hd => ?_⟩
  have : ms = sortU ns := sortU_uniq srt fun k => (mem k).trans (by rw [decide_eq_true_eq])
  subst this
  exact C2.newLst (Reps.ofInts _) (fun z G' ps' H' C' u' r' => q z G' ps' H' C' ((u1.trans u2).trans u') r') d hd
end
end
open PySem PySem.Spec PyProof.Rows L2
/-! ### sets of texts -/
abbrev EltT := Int × Value
def txtOf (v : Value) : Str := match v with | .str z _ => z | _ => Str.empty
def tkey (e : EltT) : Str := txtOf e.2
def TOk (w : World) (e : EltT) : Prop := ∃ z t, e.2 = .str z t ∧ e.1 = hashStr w z
/-- a set of texts: those of T, c of them -/
def SetT (w : World) (hp : Heap) (a : Addr) (T : Str → Bool) (c : Nat) : Prop := ∃ ob els ep tb, hp.get? a = some ob ∧ ob.ExactSet ∧ ob.data = .set els ep tb ∧ (∀ e ∈ els.toList, TOk w e) ∧ (els.toList.map tkey).Nodup ∧
  (∀ z, T z = true ↔ z ∈ els.toList.map tkey) ∧ els.size < scanBound ∧ tb.fits els.size = true ∧ els.size = c ∧ Ris tb.place.toList ∧ (w.params.followText "set-order" = true ∨ tb.led = true)
section
variable {P : Program} {w : World} {hp hp' : Heap} {a : Addr} {T T' : Str → Bool} {c : Nat}
theorem SetT.at (R : SetT w hp a T c) (k : ∀ o, hp.get? a = some o → hp'.get? a = some o) : SetT w hp' a T c :=
  let ⟨ob, els, ep, tb, h1, h2⟩ := R
  ⟨ob, els, ep, tb, k ob h1, h2⟩
theorem SetT.congr (R : SetT w hp a T c) (e : ∀ z, T' z = T z) : SetT w hp a T' c := by
  rw [show T' = T from funext e]
  exact R
theorem tok_els {l : List EltT} (g : ∀ e ∈ l, TOk w e) : ElemsOf (PySem.strKind P w) l := fun e he =>
  let ⟨z, t, h1, h2⟩ := g e he
  ⟨⟨z, by rw [h1]; exact strKind_is P w z t, h2⟩, by rw [h1]; rfl⟩
theorem tok_is {e : EltT} (g : TOk w e) (z : Str) : (PySem.strKind P w).is z e.2 = true ↔ tkey e = z := by
  obtain ⟨y, t, h1, _⟩ := g
  unfold tkey
  rw [h1]
  show (y == z) = true ↔ y = z
  exact beq_iff_eq
theorem tok_mem {l : List EltT} (g : ∀ e ∈ l, TOk w e) (z : Str) : z ∈ l.map tkey ↔ ∃ e ∈ l, (PySem.strKind P w).is z e.2 = true :=
  ⟨fun h => let ⟨e, he, q⟩ := List.mem_map.mp h; ⟨e, he, (tok_is (g e he) z).mpr q⟩, fun ⟨e, he, q⟩ => List.mem_map.mpr ⟨e, he, (tok_is (g e he) z).mp q⟩⟩
theorem setT_none (ho : hp.get? a = some (eset w)) : SetT w hp a (fun z => decide (z ∈ (([] : List Str)))) 0 := by
  refine ⟨eset w, #[], 0, _, ho, ⟨rfl, rfl, rfl⟩, rfl, fun e h => absurd h (by simp), by simp, fun z => by simp, by decide, rfl, rfl, List.Pairwise.nil, ?_⟩
  show _ ∨ (!w.params.followText "set-order") = true
  cases w.params.followText "set-order" <;> simp
end
section
variable {P : Program} {w : World} {A : Around} {Er : Value → Shared → Prop} {s : Shared} {a : Addr} {T : Str → Bool} {c : Nat}
/-- the end of an add: what is stored, laid anew where it is too full -/
theorem setT_store {g : Bool → Sem Unit} (hg : ∀ (b : Bool) (s1 : Shared) (Q : Unit → Shared → Prop), Q () s1 → wpAny (model P w) A (g b) Q Er s1) {ob : Obj} {els : Array EltT} {ep : Nat} {tb : SetTable} (h1 : s.heap.get? a = some ob) (h2 : ob.ExactSet) (h3 : ob.data = .set els ep tb)
    {els1 : Array EltT} {tb1 : SetTable} {T1 : Str → Bool} (g1 : ∀ e ∈ els1.toList, TOk w e) (n1 : (els1.toList.map tkey).Nodup) (m1 : ∀ z, T1 z = true ↔ z ∈ els1.toList.map tkey) (b1 : els1.size < scanBound) (f1 : tb1.fits els1.size = true) (r1 : Ris tb1.place.toList)
    (l1 : w.params.followText "set-order" = true ∨ tb1.led = true) {dm : Bool} {R : Option Bool → Shared → Prop} (fin : ∀ hp, Heap.SameBut a s.heap hp → SetT w hp a T1 els1.size → R (some true) { s with heap := hp }) :
    wpAny (model P w) A (do
        storeSet a els1 tb1
        if (!dm && tb1.tooFull) = true then do
            g (relayAll tb1 els1 (SetTable.grown els1.size)).2.2
            storeSet a (relayAll tb1 els1 (SetTable.grown els1.size)).1 (relayAll tb1 els1 (SetTable.grown els1.size)).2.1
            pure (some true)
          else pure (some true)) R Er s := by
  refine wpAny_bind (wpAny_storeSet_of h1 h3 ?_ (fits_of_scanBound b1))
  have at1 := store_at (es' := els1) (t' := tb1) h1 h3
  have same1 := Heap.SameBut.update s.heap a (Obj.putSet els1 tb1)
  split
  · have q1 := relayAll_perm tb1 els1 (SetTable.grown els1.size)
    have q2 := relayAll_fits tb1 els1 (SetTable.grown els1.size)
    have q3 := relayAll_ris tb1 els1 (SetTable.grown els1.size)
    have q4 := relayAll_led tb1 els1 (SetTable.grown els1.size)
    generalize relayAll tb1 els1 (SetTable.grown els1.size) = Y at q1 q2 q3 q4 ⊢
    obtain ⟨els2, tb2, gw⟩ := Y
    dsimp only at q1 q2 q3 q4 ⊢
    have z2 : els2.size = els1.size := by rw [← Array.length_toList, q1.length_eq, Array.length_toList]
    have b2 : els2.size < scanBound := z2 ▸ b1
    refine wpAny_bind (hg _ _ _ (wpAny_bind (wpAny_storeSet_of at1 rfl ?_ (fits_of_scanBound b2))))
    have at2 := store_at (es' := els2) (t' := tb2) at1 rfl
    exact wpAny_pure (fin _ (same1.trans (Heap.SameBut.update _ a _)) ⟨_, els2, _, tb2, at2, h2, rfl, fun e he => g1 e (q1.mem_iff.mp he), (q1.map tkey).nodup_iff.mpr n1, fun z => (m1 z).trans (q1.map tkey).mem_iff.symm, b2, q2, z2, q3, l1.imp id fun y => by rw [q4]; exact y⟩)
  · exact wpAny_pure (fin _ same1 ⟨_, els1, _, tb1, at1, h2, rfl, g1, n1, m1, b1, f1, rfl, r1, l1⟩)
theorem setT_put {z : Str} {t : Tok} {Q : Bool → Shared → Prop} (R : SetT w s.heap a T c) (room : c + 1 < scanBound) (fin : ∀ hp, Heap.SameBut a s.heap hp → SetT w hp a (fun y => T y || decide (y = z)) (if T z = true then c else c + 1) → Q (!T z) { s with heap := hp }) :
    wpAny (model P w) A (setAddHashed a (.str z t) ((PySem.strKind P w).hash z)) Q Er s := by
  obtain ⟨ob, els, ep, tb, h1, h2, h3, g, nd, mem, few, fits, size, ris, led⟩ := R
  have isz : (PySem.strKind P w).is z (.str z t) = true := strKind_is P w z t
  have scn : (Value.str z t).scannable = true := rfl
  have elz : ElemsOf (PySem.strKind P w) els.toList := tok_els g
  unfold setAddHashed; unfold setAddHashedIn
  refine wpAny_holding (wpAny_bind (wpAny_setState_of h1 h3 fits ?_))
  dsimp only
  rw [byScan_of scn few elz]
  simp only [↓reduceIte]
  unfold setAddByScan
  refine wpAny_bind (wpAny_bind (wpAny_rule (wpAny_bind (wpAny_setScan_of isz h1 h3 fits elz ?_))))
  cases fd : List.findIdx? (fun e => (PySem.strKind P w).is z e.2) els.toList with
  | some i =>
    obtain ⟨hi, pi, _⟩ := List.findIdx?_eq_some_iff_getElem.mp fd
    have yes : T z = true := (mem z).mpr ((tok_mem (P := P) g z).mpr ⟨els.toList[i], List.getElem_mem hi, pi⟩)
    refine wpAny_pure (wpAny_pure ?_)
    have q := fin s.heap (Heap.SameBut.refl a s.heap) ⟨ob, els, ep, tb, h1, h2, h3, g, nd, fun y => by
      rw [Bool.or_eq_true, decide_eq_true_eq, ← mem y]
      exact ⟨fun o => o.elim id fun e => e ▸ yes, .inl⟩, few, fits, by rw [if_pos yes]; exact size, ris, led⟩
    rwa [yes] at q
  | none =>
    have away : z ∉ els.toList.map tkey := fun o => by
      obtain ⟨e, he, q⟩ := (tok_mem (P := P) g z).mp o
      have no := List.findIdx?_eq_none_iff.mp fd e he
      rw [q] at no
      cases no
    have no : T z = false := by
      cases q : T z
      · rfl
      · exact absurd ((mem z).mp q) away
    have gave : ∀ (b : Bool) {s1 : Shared} {Q1 : Unit → Shared → Prop}, Q1 () s1 → wpAny (model P w) A (match b with | true => rule "set.scan.the-table-gave-way" | false => pure ()) Q1 Er s1 := fun b s1 Q1 q => by
      cases b
      · exact wpAny_pure q
      · exact wpAny_rule q
    have q1 := layNew_perm tb els ((PySem.strKind P w).hash z) (.str z t)
    have q2 := layNew_fits tb els ((PySem.strKind P w).hash z) (.str z t)
    have q3 := layNew_ris tb els ((PySem.strKind P w).hash z) (.str z t) ris
    have q4 := layNew_led tb els ((PySem.strKind P w).hash z) (.str z t)
    generalize layNew tb els ((PySem.strKind P w).hash z) (.str z t) = Y at q1 q2 q3 q4 ⊢
    obtain ⟨els1, tb1, dm, gw⟩ := Y
    dsimp only at q1 q2 q3 q4 ⊢
    rw [Array.toList_push] at q1
    have pc : els1.toList.Perm (((PySem.strKind P w).hash z, Value.str z t) :: els.toList) := q1.trans (List.perm_append_singleton _ _)
    have pk : (els1.toList.map tkey).Perm (z :: els.toList.map tkey) := pc.map tkey
    have g1 : ∀ e ∈ els1.toList, TOk w e := fun e he => (List.mem_cons.mp (pc.mem_iff.mp he)).elim (fun y => by rw [y]; exact ⟨z, t, rfl, rfl⟩) (g e)
    have n1 : (els1.toList.map tkey).Nodup := pk.nodup_iff.mpr (List.nodup_cons.mpr ⟨away, nd⟩)
    have m1 : ∀ y, (T y || decide (y = z)) = true ↔ y ∈ els1.toList.map tkey := fun y => by
      rw [Bool.or_eq_true, decide_eq_true_eq, mem y, pk.mem_iff, List.mem_cons]
      exact Or.comm
    have z1 : els1.size = c + 1 := by rw [← Array.length_toList, pc.length_eq, List.length_cons, Array.length_toList, size]
    have b1 : els1.size < scanBound := z1 ▸ room
    have l1 : w.params.followText "set-order" = true ∨ tb1.led = true := led.imp id fun y => by rw [q4]; exact y
    have done : ∀ hp, Heap.SameBut a s.heap hp → SetT w hp a (fun y => T y || decide (y = z)) els1.size → Q true { s with heap := hp } := fun hp sb r => by
      have q := fin hp sb
      rw [no] at q
      rw [z1] at r
      exact q r
    refine wpAny_bind (gave _ ?_)
    split
    · refine wpAny_bind ?_
      rw [hashByValue_scannable 8 scn]
      refine wpAny_pure (setT_store (fun b s1 Q1 q => by cases b <;> first | exact wpAny_pure q | exact wpAny_rule q) h1 h2 h3 g1 n1 m1 b1 ?_ ?_ ?_ fun hp sb r => wpAny_pure (done hp sb r))
      · first | exact q2 | (split <;> first | exact q2 | exact SetTable.fits_plain_off q2)
      · first | exact q3 | (split <;> exact q3)
      · first | exact l1 | (split <;> exact l1)
    · refine wpAny_bind (wpAny_pure ?_)
      simp only [↓reduceIte]
      exact setT_store (fun b s1 Q1 q => by cases b <;> first | exact wpAny_pure q | exact wpAny_rule q) h1 h2 h3 g1 n1 m1 b1 q2 q3 l1 fun hp sb r => wpAny_pure (done hp sb r)
end
section
variable {P : Program} {w : World} {A : Around} {Er : Value → Shared → Prop} {s : Shared}
/-- the walk over what a set is made of -/
theorem setT_walk {it : Addr} {fp wr : List Addr} {G : Array GenState → Array GenState → Prop} {m : Nat} {Pv : Nat → Value → Prop} {St : Nat → Shared → Prop} {R : Result → Shared → Prop} (W : WalksS P w A.in1 it fp wr G m Pv St) (a : Addr) (apart : a ∉ fp) (zs : List Str) (hm : m = zs.length)
    (room : zs.length + 1 < scanBound) (each : ∀ i v, Pv i v → ∃ z t, zs[i]? = some z ∧ v = .str z t) :
    ∀ (left i : Nat) (s : Shared), m - i = left → i ≤ m → St i s → (∃ c, c ≤ i ∧ SetT w s.heap a (fun z => decide (z ∈ zs.take i)) c) →
      (∀ s1 c, Moved (a :: wr) G s s1 → c ≤ m → SetT w s1.heap a (fun z => decide (z ∈ zs)) c → R (.ok (.ret .none)) s1) → codeAny (model P w) A (.builtin "set.update.loop" ⟨[.ref a, .ref it], []⟩) R s := by
  have out : a ∉ wr := fun y => apart (W.sub _ y)
  have more : ∀ b ∈ wr, b ∈ a :: wr := fun b y => List.mem_cons_of_mem _ y
  intro left
  induction left with
  | zero =>
    intro i s el hi st ⟨c, hc, R0⟩ fin
    obtain rfl : i = m := by omega
    refine codeAny_builtin F.entry_set_update_loop ?_; rw [Around.under_plainId F.plain_set_update_loop _]; show wpAny _ A.in1 (pyNext (.ref it) >>= _) _ _ s
    refine wpAny_bind (W.done s _ _ st fun s1 mv => wpAny_pure ?_)
    rw [List.take_of_length_le (by omega)] at R0
    exact fin s1 c (mv.mono more) hc (R0.at fun o e => mv.heap a o out e)
  | succ left ih =>
    intro i s el hi st ⟨c, hc, R0⟩ fin
    have lt : i < m := by omega
    refine codeAny_builtin F.entry_set_update_loop ?_; rw [Around.under_plainId F.plain_set_update_loop _]; show wpAny _ A.in1 (pyNext (.ref it) >>= _) _ _ s
    refine wpAny_bind (W.item i s _ _ lt st fun v s1 pv st1 mv => ?_)
    obtain ⟨z, t, ez, rfl⟩ := each i v pv
    have R1 : SetT w s1.heap a (fun y => decide (y ∈ zs.take i)) c := R0.at fun o e => mv.heap a o out e
    show wpAny _ A.in1 (holding [Value.str z t] (setAdd a (.str z t)) >>= _) _ _ s1
    unfold setAdd
    refine wpAny_bind (wpAny_holding (wpAny_holding (wpAny_bind ((PySem.strKind P w).pyHash (k := z) (strKind_is _ _ _ _) ?_))))
    refine setT_put (s := { s1 with toks := s1.toks + 1 }) R1 (by omega) fun hp sb R2 => ?_
    have R3 : SetT w hp a (fun y => decide (y ∈ zs.take (i + 1))) (if decide (z ∈ zs.take i) = true then c else c + 1) := R2.congr fun y => by
      rw [List.take_add_one, ez]
      simp [List.mem_append]
    have c3 : (if decide (z ∈ zs.take i) = true then c else c + 1) ≤ i + 1 := by split <;> omega
    refine wpAny_pure ⟨plainId_quiet F.plain_set_update_loop _, ih (i + 1) _ (by omega) lt (W.frame _ s1 _ _ st1 (Nat.le_succ _) fun b hb o e => ?_) ⟨_, c3, R3⟩ fun s2 c2 mv2 hc2 R4 => ?_⟩
    · rw [sb.2 b fun y => apart (y ▸ hb)]
      exact e
    · refine fin s2 c2 (Moved.trans W.gtrans ((mv.mono more).then_heap (Nat.le_succ _) fun b o hb e => ?_) mv2) hc2 R4
      rw [sb.2 b fun y => hb (y ▸ List.mem_cons_self)]
      exact e
theorem txt_at : ∀ {vs : List Value} {zs : List Str}, StrsAre vs zs → ∀ (i : Nat) (v : Value), vs[i]? = some v → ∃ z t, zs[i]? = some z ∧ v = .str z t
  | _, _, .nil, i, v, h => nomatch h
  | _, _, .cons n t r, 0, v, h => ⟨n, t, rfl, (Option.some.inj h).symm⟩
  | _, _, .cons n t r, i + 1, v, h => txt_at r i v h
set_option maxRecDepth 100000 in
theorem setT_call {at_ : Addr} {vals : Array Value} (zs : List Str) {Good : Value → Shared → Prop} (calm : A.handled = none) (isl : s.heap.IsList at_ vals) (iv : StrsAre vals.toList zs) (few : zs.length + 1 < scanBound)
    (fin : ∀ (hp : Heap) (tok cnt : Nat), SetT w hp s.heap.objs.size (fun z => decide (z ∈ zs)) cnt → cnt ≤ zs.length → (∀ b o, s.heap.get? b = some o → hp.get? b = some o) → Good (.ref s.heap.objs.size) { s with heap := hp, toks := tok }) :
    wpAny (model P w) A (call (.type "set") [.ref at_]) Good Er s := by
  have size_eq : vals.size = zs.length := by rw [← StrsAre.len_eq iv, Array.length_toList]
  obtain ⟨c0, tl0, mro0⟩ := F.called_set.mro
  have made0 := F.called_set.made
  have sub0 := F.called_set.sub
  refine wpAny_call (codeAny_of_tree ?_)
  show wpAny (model P w) _ (callAny (.type "set") _) _ _ s
  refine wpAny_pure ⟨Code.quiet_builtin _ (by decide +kernel), codeAny_builtin F.entry_type_call ?_⟩
  rw [Around.under_plain (weight_type_call_type "set" [.ref at_] []) rfl]
  have nt0 := F.called_set.notType
  have cc0 := F.called_set.canCreate
  have tc0 := F.typeCall_set_1 (.ref at_)
  repeat (any_goals (first | assumption | wp_step))
  refine codeAny_mono (code_set_led1 (.ref at_) (E := Er) (Q₁ := fun ob s₁ => ob = .ref s.heap.objs.size ∧ s₁ = { s with heap := s.heap.push (eset w) }) ⟨rfl, rfl⟩) fun res st1 hres => ?_
  match res, hres with
  | .error _, z => exact z
  | .ok (.ret ob), z =>
    obtain ⟨rfl, rfl⟩ := z
    have here : (s.heap.push (eset w)).get? s.heap.objs.size = some (eset w) := Heap.get?_push_size _ rfl
    have isset : Shared.TypeIs { s with heap := s.heap.push (eset w) } (.ref s.heap.objs.size) "set" := ⟨_, here, rfl⟩
    have lk0 := F.called_set.init.lookup
    have bi0 := F.called_set.init.bind (.ref s.heap.objs.size)
    repeat (any_goals (first | assumption | wp_step))
    refine codeAny_mono (codeAny_call_builtin (R := wants (fun told s₂ => told = .none ∧ ∃ hp tok cnt, s₂ = { s with heap := hp, toks := tok } ∧ SetT w hp s.heap.objs.size (fun z => decide (z ∈ zs)) cnt ∧ cnt ≤ zs.length ∧
        (∀ b o, s.heap.get? b = some o → hp.get? b = some o)) Er) F.called_set.init.plain F.entry_set_init (check_set_init_1 isset ?_)) fun res2 st2 hres2 => ?_
    · obtain ⟨ob, hob, cl, nn, dt⟩ := isl
      obtain ⟨f1, f2, f3, f4⟩ := ob
      simp only at cl dt
      subst cl
      subst dt
      have hob2 : (s.heap.push (eset w)).get? at_ = some { cls := .type "list", dict := f2, data := .seq vals nn, slots := f4 } := Heap.get?_push_of_some _ hob
      have n1 := F.sub_list_set
      have n2 := F.sub_list_frozenset
      have n3 : (Value.type "list" == Value.type "dict") = false := by decide
      have isl2 : (s.heap.push (eset w)).IsList at_ vals := ⟨_, hob2, rfl, nn, rfl⟩
      unfold Builtin.«set.__init__» noKeywords Builtin.Frozenset.updateFrom
      generalize hold : pyIter = walkIt
      wp_walk
      subst hold
      refine wpAny_pyIter_list isl2 (wpAny_bind (wpAny_runValue ?_))
      have ltA : at_ < s.heap.objs.size := Heap.lt_size hob
      have calm3 : A.in1.in1.in1.handled = none := by simp [calm]
      have neIt : at_ ≠ (s.heap.push (eset w)).objs.size := by
        rw [Heap.size_push]
        exact fun z => Nat.lt_irrefl _ (Nat.lt_trans (z ▸ ltA : s.heap.objs.size + 1 < _) (Nat.lt_succ_self _))
      have notIn : s.heap.objs.size ∉ [(s.heap.push (eset w)).objs.size, at_] := by
        intro z
        rcases List.mem_cons.mp z with z | z
        · rw [Heap.size_push] at z
          exact Nat.ne_of_lt (Nat.lt_succ_self _) z
        · rw [List.mem_singleton] at z
          exact Nat.lt_irrefl _ (z ▸ ltA)
      have each : ∀ (i : Nat) (v : Value), vals[i]? = some v → ∃ z t, zs[i]? = some z ∧ v = .str z t := fun i v hv => txt_at iv i v (by rw [Array.getElem?_toList]; exact hv)
      refine setT_walk ((Walks.list calm3 _ at_ neIt vals).toS) s.heap.objs.size notIn zs size_eq few each vals.size 0 _ (by omega) (by omega) ⟨⟨_, Heap.get?_push_size _ rfl, rfl, rfl⟩, isl2.push _⟩ ⟨0, by omega, ?_⟩ ?_
      · exact setT_none (Heap.get?_push_of_some _ here)
      · intro sx cx mv le set2
        have g1 : sx.gens = s.gens := mv.gens
        have g2 : sx.drawn = s.drawn := mv.drawn
        have g3 : sx.os = s.os := mv.os
        show wpAny _ _ _ _ _ _
        refine wpAny_pure ?_
        show wpAny _ _ (ret Value.none) _ _ _
        rw [size_eq] at le
        refine wpAny_pure ⟨rfl, sx.heap, sx.toks, cx, ?_, set2, le, fun b o e => ?_⟩
        · cases sx
          cases s
          simp only at g1 g2 g3
          subst g1
          subst g2
          subst g3
          rfl
        · have b0 : b < s.heap.objs.size := Heap.lt_size e
          refine mv.heap b o (fun z => ?_) (Heap.get?_push_of_some _ (Heap.get?_push_of_some _ e))
          rcases List.mem_cons.mp z with z | z
          · exact Nat.lt_irrefl _ (z ▸ b0)
          · rw [List.mem_singleton, Heap.size_push] at z
            exact Nat.lt_irrefl _ (Nat.lt_trans (z ▸ b0 : s.heap.objs.size + 1 < _) (Nat.lt_succ_self _))
    · match res2, hres2 with
      | .error _, z => exact z
      | .ok (.ret _), z =>
        obtain ⟨rfl, hp, tok, cnt, rfl, k1, k2, k3⟩ := z
        repeat (any_goals (first | assumption | wp_step))
        exact fin _ _ _ k1 k2 k3
end
/-! ### texts in order -/
def ltT (x y : Str) : Bool := decide (x.cps.toList < y.cps.toList)
def ltTv (v u : Value) : Bool := ltT (txtOf v) (txtOf u)
theorem swo_txt : SrtO.Swo ltTv := by
  refine ⟨fun x y h => ?_, fun x y z h1 h2 => ?_⟩
  · have h := of_decide_eq_true (p := (txtOf x).cps.toList < (txtOf y).cps.toList) h
    exact decide_eq_false (p := (txtOf y).cps.toList < (txtOf x).cps.toList) (List.lt_asymm h)
  · have h1 := of_decide_eq_false (p := (txtOf y).cps.toList < (txtOf x).cps.toList) h1
    have h2 := of_decide_eq_false (p := (txtOf z).cps.toList < (txtOf y).cps.toList) h2
    exact decide_eq_false (p := (txtOf z).cps.toList < (txtOf x).cps.toList) (fun h => List.not_lt.mpr (List.le_trans (List.not_lt.mp h1) (List.not_lt.mp h2)) h)
section
variable {P : Program} {w : World} {A : Around} {Er : Value → Shared → Prop} {s : Shared}
theorem txts_mem : ∀ {vs : List Value} {zs : List Str}, StrsAre vs zs → ∀ v ∈ vs, ∃ z t, v = Value.str z t
  | _, _, .nil, v, h => absurd h (by simp)
  | _, _, .cons n t r, v, h => (List.mem_cons.mp h).elim (fun e => ⟨n, t, e⟩) (txts_mem r v)
theorem txts_of : ∀ {vs : List Value}, (∀ v ∈ vs, ∃ z t, v = Value.str z t) → StrsAre vs (vs.map txtOf)
  | [], _ => .nil
  | v :: vs, h => by
    obtain ⟨z, t, rfl⟩ := h v List.mem_cons_self
    exact .cons z t (txts_of fun u hu => h u (List.mem_cons_of_mem _ hu))
theorem txts_cmp {vs : List Value} {zs : List Str} (hT : StrsAre vs zs) : SrtO.Cmp P w A s oneType' (fun p => p.1 ∈ vs) (SrtO.lt2 ltTv) := by
  intro p q hm hm'
  obtain ⟨x, t, e⟩ := txts_mem hT _ hm
  obtain ⟨y, u, e'⟩ := txts_mem hT _ hm'
  show wpAny (model P w) A (keyLt' oneType' p.1 q.1) (fun r s1 => s1 = s ∧ r = ltTv p.1 q.1) (fun _ _ => False) s
  rw [e, e', keyLt'_oneType]
  exact oneLt_str ⟨rfl, rfl⟩
theorem txts_sortable {a : Addr} {vs : List Value} {zs : List Str} (hT : StrsAre vs zs) (h2 : 2 ≤ vs.length) : SrtO.SortableO P w A s a vs ltTv := by
  intro hp _
  refine ⟨oneType', fun Q E hq => ?_, txts_cmp hT⟩
  match vs, hT, h2 with
  | v1 :: v2 :: rest, hT, _ =>
    rw [keyKind_strs hT]
    exact wpAny_pure hq
  | [], _, h => exact absurd h (by decide)
  | [v], _, h => exact absurd h (by simp)
theorem txts_out {vs out : List Value} {zs : List Str} (hT : StrsAre vs zs) (hs : SrtO.Srtd ltTv out) (hb : SrtO.Stb ltTv out vs) : StrsAre out (out.map txtOf) ∧ (out.map txtOf).Perm (vs.map txtOf) ∧ (out.map txtOf).Pairwise (fun x y => ltT y x = false) :=
  ⟨txts_of fun v hv => txts_mem hT v (hb.perm.mem_iff.mp hv), hb.perm.map txtOf, List.pairwise_map.mpr (hs.imp fun {x y} h => h)⟩
theorem txt_inj {x y : Str} (h : x.cps.toList = y.cps.toList) : x = y := by
  cases x
  cases y
  exact congrArg _ (Array.toList_inj.mp h)
theorem setT_sorted {at_ : Addr} {T : Str → Bool} {cnt : Nat} {Good : Value → Shared → Prop} (R : SetT w s.heap at_ T cnt) (calm : A.handled = none)
    (fin : ∀ (s2 : Shared) (p : Addr) (out : List Value) (zs : List Str), (∀ b o, s.heap.get? b = some o → s2.heap.get? b = some o) → s2.gens = s.gens → s2.os = s.os → s.heap.objs.size ≤ p → (∃ ep, s2.heap.get? p = some (seqObj "list" out.toArray ep)) →
      StrsAre out zs → zs.length ≤ sizeLine → zs.Pairwise (fun x y => ltT x y = true) → (∀ z, z ∈ zs ↔ T z = true) → Good (.ref p) s2) : wpAny (model P w) A (call (.builtin "sorted") [.ref at_]) Good Er s := by
  obtain ⟨ob, els, ep, tb, hob, ex, dt, good, nodup, mem, few, fits, size, ris, led⟩ := R
  refine Calls.call_function_entry kind_sorted plain_sorted entry_sorted (args_sorted1 _) ?_
  unfold Builtin.«sorted»
  refine wpAny_bind (m := checkCount "sorted" 1 1 _) (wpAny_pure ?_)
  refine wpAny_bind (collect_set (A := A.in1) calm ⟨ob, hob, ex.1, dt⟩ fits few ris led fun st got keep grow gens os perm => ?_)
  have allT : ∀ v ∈ got, ∃ z t, v = Value.str z t := fun v hv => by
    obtain ⟨e, he, q⟩ := List.mem_map.mp (perm.mem_iff.mp hv)
    obtain ⟨z, t, h1, _⟩ := good e he
    exact ⟨z, t, by rw [← q]; exact h1⟩
  have hT := txts_of allT
  have lenG : got.length < scanBound := by
    rw [perm.length_eq, List.length_map, Array.length_toList]
    exact few
  have lenS : got.length ≤ sizeLine := by
    rw [sizeLine_eq]
    unfold scanBound at lenG
    omega
  have keys : (got.map txtOf).Perm (els.toList.map tkey) := by
    have q := perm.map txtOf
    rw [List.map_map] at q
    exact q
  refine wpAny_bind (wpAny_newList ?_ (by omega))
  have there : (st.heap.push (seqObj "list" got.toArray 0)).get? st.heap.objs.size = some (seqObj "list" got.toArray 0) := Heap.get?_push_size _ rfl
  refine wpAny_bind (wpAny_holding (wpAny_call_entry slot_list_sort ⟨_, there, rfl⟩ entry_list_sort (SrtO.list_sort_ord swo_txt there lenS (fun h2 => txts_sortable hT h2) fun out o1 o2 => ⟨_, rfl, ?_⟩) (args_list_sort _)))
  obtain ⟨k1, k2, k3⟩ := txts_out hT o1 o2
  obtain ⟨e2, atP⟩ := sortedHeap_at (vs := got) (out := out.toArray) there
  have pm : (out.map txtOf).Perm (els.toList.map tkey) := k2.trans keys
  have lenO : (out.map txtOf).length ≤ sizeLine := by
    rw [k2.length_eq, List.length_map]
    exact lenS
  refine wpAny_pure ⟨_, rfl, fin _ st.heap.objs.size out (out.map txtOf) (fun b u e => ?_) gens os grow ⟨e2, atP⟩ k1 lenO ?_ fun z => by rw [pm.mem_iff, ← mem z]⟩
  · have old := keep b u e
    have lt := Heap.lt_size old
    show (sortedHeap _ _ _ _).get? b = some u
    rw [sortedHeap_old (Nat.ne_of_lt lt) (by rw [size_push']; exact Nat.lt_succ_of_lt lt)]
    exact Heap.get?_push_of_some _ old
  · have nd2 := pm.nodup_iff.mpr nodup
    refine (k3.and nd2).imp fun {x y} h => ?_
    have h1 := of_decide_eq_false (p := y.cps.toList < x.cps.toList) h.1
    refine decide_eq_true (Classical.byContradiction fun h2 => h.2 (txt_inj (List.le_antisymm (List.not_lt.mp h1) (List.not_lt.mp h2))))
end
/-- the set of texts as an object -/
def SetTO (w : World) (a : Addr) (T : Str → Bool) (n : Nat) : HO := .ext fun h => SetT w h a T n
def rSetTL (K : PySem.W.Frag) (w : World) : List V → Hp → VK → Prop := fun xs H Q => ∃ (l : Addr) (zs : List Str), xs = [V.ref l] ∧ SqL K H l (zs.map V.str) ∧ zs.length + 1 < scanBound ∧
  ∀ (a : Addr) (c : Nat), H a = none → c ≤ zs.length → Q (.ref a) (upd H a (SetTO w a (fun z => decide (z ∈ zs)) c))
def rSortTS (w : World) : List V → Hp → VK → Prop := fun xs H Q => ∃ (a : Addr) (T : Str → Bool) (n : Nat), xs = [V.ref a] ∧ H a = some (SetTO w a T n) ∧
  ∀ (zs : List Str) (p : Addr), zs.Pairwise (fun x y => ltT x y = true) → (∀ z : Str, z ∈ zs ↔ T z = true) → H p = none → Q (.ref p) (upd H p (.lst (zs.map V.str)))
section
variable {X : Cx}
theorem cr_setTL (calm : X.calm = true) : CallR X (.type "set") (rSetTL X.K X.w) := by
  intro pins s σ H xs us Q I r h
  obtain ⟨l, zs, rfl, hl, few, q⟩ := h
  rw [Vals.ref1 r]
  obtain ⟨its, rv, pl, _⟩ := I.list hl
  have free : H s.heap.objs.size = none := I.hok.fresh (Nat.le_refl _)
  refine setT_call zs (I.ok.hd calm) pl.isList (by simpa using rv.strs) few fun hp tok cnt R le keep => ?_
  have new : ObjOk X.prog X.w H hp s.heap.objs.size (SetTO X.w s.heap.objs.size (fun z => decide (z ∈ zs)) cnt) := by
    have ⟨o, _, _, _, ho, _⟩ := R
    exact ⟨R, ⟨o, ho⟩, fun h1 h2 p k => SetT.at p k⟩
  exact ⟨.ref s.heap.objs.size, upd H s.heap.objs.size (SetTO X.w s.heap.objs.size (fun z => decide (z ∈ zs)) cnt), I.laid (t' := tok) keep (Nat.le_refl _) new, rfl, q _ cnt free le⟩
theorem cr_sortTS (calm : X.calm = true) : CallR X (.builtin "sorted") (rSortTS X.w) := by
  intro pins s σ H xs us Q I r h
  obtain ⟨a, T, n, rfl, ha, q⟩ := h
  rw [Vals.ref1 r]
  have R : SetT X.w s.heap a T n := (I.hok a _ ha).1
  refine setT_sorted R (I.ok.hd calm) fun s2 p out zs keep gens os free ⟨ep, atp⟩ iso len srt mem => ?_
  have hn : H p = none := I.hok.fresh free
  have lenV : (zs.map V.str).length ≤ sizeLine := by rw [List.length_map]; exact len
  have J : Inv X pins σ (upd H p (.lst (zs.map V.str))) { s with heap := s2.heap, gens := s2.gens, drawn := s2.drawn, toks := s2.toks } :=
    I.call (ch := []) (Un.laid keep free hn) (I.hok.laid keep free ⟨lenV, out, ep, vals_of_strs iso, atp⟩) (by rw [gens]; exact I.bare) (fun _ z => nomatch z)
  have same : s2 = { s with heap := s2.heap, gens := s2.gens, drawn := s2.drawn, toks := s2.toks } := by
    cases s2
    cases s
    cases os
    rfl
  rw [same]
  exact ⟨.ref p, _, J, rfl, q zs p srt mem hn⟩
end
/-! ### sorted(set(xs)) of texts -/
theorem ltT_irr (x : Str) : ltT x x = false := decide_eq_false (List.lt_irrefl _)
theorem ltT_trans {x y z : Str} (h1 : ltT x y = true) (h2 : ltT y z = true) : ltT x z = true := decide_eq_true (List.lt_trans (of_decide_eq_true (p := x.cps.toList < y.cps.toList) h1) (of_decide_eq_true (p := y.cps.toList < z.cps.toList) h2))
theorem ltT_asymm {x y : Str} (h : ltT x y = true) : ltT y x = false := decide_eq_false (List.lt_asymm (of_decide_eq_true (p := x.cps.toList < y.cps.toList) h))
theorem ltT_tri {x y : Str} (h1 : ltT x y = false) (h2 : ltT y x = false) : x = y := txt_inj (List.le_antisymm (List.not_lt.mp (of_decide_eq_false (p := y.cps.toList < x.cps.toList) h2)) (List.not_lt.mp (of_decide_eq_false (p := x.cps.toList < y.cps.toList) h1)))
def insT (z : Str) : List Str → List Str
  | [] => [z]
  | x :: r => if ltT z x = true then z :: x :: r else if ltT x z = true then x :: insT z r else x :: r
def sortT (zs : List Str) : List Str := zs.foldr insT []
theorem insT_ok (z : Str) : ∀ l : List Str, l.Pairwise (fun x y => ltT x y = true) → (insT z l).Pairwise (fun x y => ltT x y = true) ∧ ∀ y, y ∈ insT z l ↔ y = z ∨ y ∈ l
  | [], _ => ⟨List.pairwise_singleton _ _, fun y => by simp [insT]⟩
  | x :: r, h => by
    obtain ⟨h1, h2⟩ := List.pairwise_cons.mp h
    obtain ⟨i1, i2⟩ := insT_ok z r h2
    unfold insT
    by_cases a : ltT z x = true
    · rw [if_pos a]
      refine ⟨List.pairwise_cons.mpr ⟨fun y hy => ?_, h⟩, fun y => List.mem_cons⟩
      rcases List.mem_cons.mp hy with e | e
      · rw [e]
        exact a
      · exact ltT_trans a (h1 y e)
    · rw [if_neg a]
      by_cases b : ltT x z = true
      · rw [if_pos b]
        refine ⟨List.pairwise_cons.mpr ⟨fun y hy => ?_, i1⟩, fun y => ?_⟩
        · rcases (i2 y).mp hy with e | e
          · rw [e]
            exact b
          · exact h1 y e
        · rw [List.mem_cons, i2 y, List.mem_cons]
          exact ⟨fun o => o.elim (fun e => .inr (.inl e)) fun o => o.elim .inl fun e => .inr (.inr e), fun o => o.elim (fun e => .inr (.inl e)) fun o => o.elim .inl fun e => .inr (.inr e)⟩
      · rw [if_neg b]
        have e : x = z := ltT_tri (by simpa using b) (by simpa using a)
        refine ⟨h, fun y => ?_⟩
        rw [List.mem_cons, e]
        exact ⟨fun o => .inr o, fun o => o.elim .inl id⟩
theorem sortT_ok : ∀ zs : List Str, (sortT zs).Pairwise (fun x y => ltT x y = true) ∧ ∀ y, y ∈ sortT zs ↔ y ∈ zs
  | [] => ⟨List.Pairwise.nil, fun y => Iff.rfl⟩
  | z :: r => by
    obtain ⟨h1, h2⟩ := sortT_ok r
    obtain ⟨i1, i2⟩ := insT_ok z (sortT r) h1
    exact ⟨i1, fun y => (i2 y).trans (by rw [h2 y, List.mem_cons])⟩
theorem sortT_nd {l : List Str} (h : l.Pairwise (fun x y => ltT x y = true)) : l.Nodup := h.imp fun {x y} o e => by
  rw [e, ltT_irr] at o
  cases o
theorem sortT_uniq {zs l : List Str} (h : l.Pairwise (fun x y => ltT x y = true)) (hm : ∀ y, y ∈ l ↔ y ∈ zs) : l = sortT zs := by
  obtain ⟨h1, h2⟩ := sortT_ok zs
  have p : l.Perm (sortT zs) := (List.perm_ext_iff_of_nodup (sortT_nd h) (sortT_nd h1)).mpr fun y => (hm y).trans (h2 y).symm
  exact perm_sorted (le := fun x y => ltT x y = true) (fun x y a b => by rw [ltT_asymm a] at b; cases b) p h h1
theorem sortT_congr {zs ys : List Str} (h : ∀ y, y ∈ zs ↔ y ∈ ys) : sortT zs = sortT ys := sortT_uniq (sortT_ok zs).1 fun y => ((sortT_ok zs).2 y).trans (h y)
theorem insT_len (z : Str) : ∀ l : List Str, (insT z l).length ≤ l.length + 1
  | [] => Nat.le_refl _
  | x :: r => by
    have := insT_len z r
    unfold insT
    split
    · exact Nat.le_refl _
    · split
      · rw [List.length_cons, List.length_cons]
        omega
      · exact Nat.le_succ _
theorem sortT_len : ∀ zs : List Str, (sortT zs).length ≤ zs.length
  | [] => Nat.le_refl _
  | z :: r => Nat.le_trans (insT_len z (sortT r)) (Nat.succ_le_succ (sortT_len r))
section
variable {X : Cx} {na : NA} {sl sl' : Sl} {cs cs1 cs2 cs3 : Cs} {s t u : SV} {pos pos2 p p2 : Pos} {a : Expr}
theorem ev_sortedSetT {zs : List Str} (hm : X.mg "sorted" = none) (hm2 : X.mg "set" = none) (ha : EV X na a sl cs s cs1) (hl : IsL cs1 s ((zs.map PyData.str).map SV.val)) (few : zs.length ≤ 1000) (hc : X.calm = true := by rfl) (hg : Gl X "sorted" := by rfl) (hg2 : Gl X "set" := by rfl)
    (hs : starEach [a] X.env = (false, eval a X.env) :: starEach [] X.env := by rfl) (hs2 : starEach [.Call (.Name "set" p2) [a] [] pos2] X.env = (false, eval (.Call (.Name "set" p2) [a] [] pos2) X.env) :: starEach [] X.env := by rfl)
    (hpl : (backTo pos2 (starEach [] X.env)).any (·.1) = false := by rfl) (hpl2 : (backTo pos (starEach [] X.env)).any (·.1) = false := by rfl) :
    EV X na (.Call (.Name "sorted" p) [.Call (.Name "set" p2) [a] [] pos2] [] pos) sl cs (.val (.list ((sortT zs).map .str))) cs1 := by
  have inner : PE X (.Call (.Name "set" p2) [a] [] pos2) (tCB (rSetTL X.K X.w) (tCons (anyE X a) tNil)) := pe_callTy (cr_setTL hc) hg2 hm2 (by decide +kernel) (pa_cons pe_any pa_nil hs) (by decide) (by decide) hs hpl
  refine ev_of (pe_callB (cr_sortTS hc) hg hm (by decide +kernel) (pa_cons inner pa_nil hs2) (by decide) (by decide) hs2 hpl2) fun B G ps σ H hn C S Q q => ?_
  refine ha B G ps σ H hn C S _ fun v G1 ps1 H1 C1 u1 r1 => ?_
  obtain ⟨l, vs, rfl, h1, h2⟩ := hl.sq C1 r1
  have e : vs = zs.map V.str := Reps.strs (Reps.ofVs h2)
  subst e
  refine ⟨l, zs, rfl, h1, by unfold scanBound; omega, fun b c hb _ => ?_⟩
  have C2 := C1.alloc (SetTO X.w b (fun z => decide (z ∈ zs)) c) hb
  have u2 : Up G1 ps1 (upd G1 b (SetTO X.w b (fun z => decide (z ∈ zs)) c)) ps1 := ⟨Same.new (C1.freeG hb), List.prefix_refl _⟩
  refine ⟨b, _, _, rfl, upd_same, fun ms d srt mem hd => ?_⟩
  have e2 : ms = sortT zs := sortT_uniq srt fun y => (mem y).trans (by rw [decide_eq_true_eq])
  subst e2
  exact C2.newLst (Reps.ofStrs _) (fun z G' ps' H' C' u' r' => q z G' ps' H' C' ((u1.trans u2).trans u') r') d hd
end
/-! ### how a text is gone through -/
local macro_rules | `(tactic| wtm_at "d.lk") => `(tactic| first | exact Lk.here | (apply Lk.there; wtm_at "d.lk"))
local macro_rules | `(tactic| wtm_at "d.put") => `(tactic| first | exact Put.here | (apply Put.there; wtm_at "d.put"))
local macro_rules | `(tactic| wtm_at "d.putC") => `(tactic| first | exact PutC.here | (apply PutC.there; wtm_at "d.putC"))
local macro_rules | `(tactic| wtm_at "d.appC") => `(tactic| first | exact AppC.nil | (apply AppC.cons; wtm_at "d.appC"))
local macro_rules | `(tactic| wtm_at "d.le") => `(tactic| first | exact Le.nil | (apply Le.same; wtm_at "d.le") | (apply Le.lose; wtm_at "d.le"))
local macro_rules | `(tactic| wtm_at "d.isL") => `(tactic| first | exact IsL.val | exact IsL.cell rfl | assumption)
local macro_rules | `(tactic| wtm_at "d.isQ") => `(tactic| first | exact IsQ.t | exact IsQ.l IsL.val | exact IsQ.l (IsL.cell rfl))
local macro_rules | `(tactic| wtm_at "d.isD") => `(tactic| first | exact IsD.val | exact IsD.cell rfl | assumption)
local macro_rules | `(tactic| wtm_at "d.isDat") => `(tactic| first | exact IsDat.val | exact IsDat.cell rfl rfl | assumption)
local macro_rules | `(tactic| wtm_at "d.flat") => `(tactic| first | rfl | exact flat_map _ | exact flat_svK _ | exact all_flat1 (flat_map _) | exact all_flat1 (flat_svK _) | assumption | (simp [CC.flat, SV.isVal]; done))
local macro_rules | `(tactic| wtm_at "d.sel") => `(tactic| first | exact Sel.nil | (refine' Sel.cons rfl (by wtm_at "d.flat") (by intro z; cases z) ?t; (case t => wtm_at "d.sel")))
local macro_rules | `(tactic| wtm_at "d.ren") => `(tactic| first | exact RenA.nil | (apply RenA.val; wtm_at "d.ren") | (refine' RenA.cell rfl ?t; (case t => wtm_at "d.ren")))
local macro_rules | `(tactic| wtm_at "d.setA") => `(tactic| first | exact SetA.nil | (refine' SetA.cons ?h ?t; (case h => wtm_at "d.putC"); (case t => wtm_at "d.setA")))
local macro_rules | `(tactic| wtm_at "d.args") => `(tactic| first | exact av_nil | (refine' av_cons ?h ?t; (case h => wtm_at "d.ev"); (case t => wtm_at "d.args")))
local macro_rules | `(tactic| wtm_at "d.argsD") => `(tactic| first | exact ad_nil | (refine' ad_cons ?h ?t; (case h => wtm_at "d.ev"); (case t => wtm_at "d.argsD")))
local macro_rules | `(tactic| wtm_at "d.argsC") => `(tactic| first | exact av_nil | (refine' av_cons ?h ?t; (case h => first | wtm_at "d.evC" | wtm_at "d.ev"); (case t => wtm_at "d.argsC")))
local macro_rules | `(tactic| wtm_at "d.side") => `(tactic| first | with_reducible assumption | omega | decide | rfl)
local macro_rules | `(tactic| wtm_at "d.mul") => `(tactic| first | with_reducible assumption | exact small_mul (by omega) (by omega) | exact bd_mul_small (by assumption) (by omega) | exact bd_mul_small (Deal.bd _) (by omega) | exact small_mul (by decide) (by decide))
local macro_rules | `(tactic| wtm_at "d.div") => `(tactic| exact small_div (by omega) (by omega))
local macro_rules | `(tactic| wtm_at "d.pow") => `(tactic| exact ⟨by decide, by decide, by decide⟩)
local macro_rules | `(tactic| wtm_at "d.at") => `(tactic| first | with_reducible assumption | exact at_if | rfl | exact at_zero | (apply atI_nat; assumption))
local macro_rules | `(tactic| wtm_at "d.lt") => `(tactic| first | rfl | (simp [CC.lt, SV.lt]; done))
local macro_rules | `(tactic| wtm_at "d.ret") => `(tactic| first
  | (refine RetOk.val ?_ rfl ?_; (exact ⟨_, rfl⟩); wtm_at "d.lt")
  | (refine RetOk.frz ?_ rfl ?_ ?_ rfl ?_; (exact Nat.le_of_ble_eq_true rfl); (first | rfl | (simp [CC.data, svData_map, kvData_map]; done)); (exact ⟨_, rfl⟩); wtm_at "d.lt")
  | (refine RetOk.new ?_ rfl ?_ ?_ ?_ rfl ?_; (exact Nat.le_of_ble_eq_true rfl); (first | rfl | (simp [CC.flat, SV.isVal]; done)); (intro z; cases z); (exact ⟨_, rfl⟩); wtm_at "d.lt"))
local macro_rules | `(tactic| wtm_at "d.dget") => `(tactic| (refine' ev_dget (by assumption) ?ha ?hb ?hd ?hk ?hl; (case ha => wtm_at "d.ev"); (case hb => wtm_at "d.ev"); (case hd => wtm_at "d.isD"); (case hk => constructor); (case hl => first | assumption | rfl)))
local macro_rules | `(tactic| wtm_at "d.dg2") => `(tactic| first | assumption | rfl)
local macro_rules | `(tactic| wtm_at "d.dget2") => `(tactic| (refine' ev_dget2 (by assumption) ?hf ?ha ?hb ?hd1 ?hd ?hk ?hl; (case ha => wtm_at "d.ev"); (case hb => wtm_at "d.ev"); (case hf => wtm_at "d.ev"); (case hd1 => exact ⟨_, by wtm_at "d.isD"⟩); (case hd => wtm_at "d.isD"); (case hk => constructor); (case hl => wtm_at "d.dg2")))
local macro_rules | `(tactic| wtm_at "d.two") => `(tactic| ((case ha => wtm_at "d.ev"); (case hb => wtm_at "d.ev")))
local macro_rules | `(tactic| wtm_at "d.nelist") => `(tactic| (refine' tv_neD (by assumption) ?ha ?hb ?hd ?he ?sd ?se; (case ha => wtm_at "d.ev"); (case hb => wtm_at "d.ev"); (case hd => wtm_at "d.isDat"); (case he => wtm_at "d.isDat"); (case sd => assumption); (case se => assumption)))
local macro_rules | `(tactic| wtm_at "d.eqDD") => `(tactic| first
  | (refine' tv_eqDD (by assumption) ?ha ?hb ?hd ?he ?hf ?nd; (case ha => wtm_at "d.ev"); (case hb => wtm_at "d.ev"); (case hd => wtm_at "d.isD"); (case he => wtm_at "d.isD"); (case hf => assumption); (case nd => assumption))
  | (refine' tv_neDD (by assumption) ?ha ?hb ?hd ?he ?hf ?nd; (case ha => wtm_at "d.ev"); (case hb => wtm_at "d.ev"); (case hd => wtm_at "d.isD"); (case he => wtm_at "d.isD"); (case hf => assumption); (case nd => assumption)))
local macro_rules | `(tactic| wtm_at "d.eqD") => `(tactic| first
  | (refine' ev_eqDD (by assumption) ?ha ?hb ?hd ?he ?hf ?nd; (case ha => wtm_at "d.ev"); (case hb => wtm_at "d.ev"); (case hd => wtm_at "d.isD"); (case he => wtm_at "d.isD"); (case hf => assumption); (case nd => assumption))
  | (refine' ev_eqD (by assumption) ?ha ?hb ?hd ?he ?sd ?se; (case ha => wtm_at "d.ev"); (case hb => wtm_at "d.ev"); (case hd => wtm_at "d.isDat"); (case he => wtm_at "d.isDat"); (case sd => first | rfl | assumption); (case se => first | rfl | assumption)))
local macro_rules | `(tactic| wtm_at "d.catL") => `(tactic| (refine' ev_catL ?ha ?hb ?hl ?hm ?hz; (case ha => wtm_at "d.ev"); (case hb => wtm_at "d.ev"); (case hl => wtm_at "d.isL"); (case hm => wtm_at "d.isL"); (case hz => first | assumption | decide)))
local macro_rules | `(tactic| wtm_at "d.slF") => `(tactic| (refine' ev_slFrom (k := 1) ?ha ?hb ?hl _; (case ha => wtm_at "d.ev"); (case hb => wtm_at "d.ev"); (case hl => wtm_at "d.isL")))
local macro_rules | `(tactic| wtm_at "d.tv") => `(tactic| first
  | (refine' tv_w ?h; (case h => wtm_at "d.wv"))
  | (refine' tv_not ?h; (case h => wtm_at "d.tv"))
  | (refine' tv_lt ?ha ?hb; (case ha => wtm_at "d.ev"); (case hb => wtm_at "d.ev")) | (refine' tv_le ?ha ?hb; (case ha => wtm_at "d.ev"); (case hb => wtm_at "d.ev")) | (refine' tv_gt ?ha ?hb; (case ha => wtm_at "d.ev"); (case hb => wtm_at "d.ev")) | (refine' tv_ge ?ha ?hb; (case ha => wtm_at "d.ev"); (case hb => wtm_at "d.ev"))
  | (refine' tv_eqI ?ha ?hb; (case ha => wtm_at "d.ev"); (case hb => wtm_at "d.ev")) | (refine' tv_eqS ?ha ?hb; (case ha => wtm_at "d.ev"); (case hb => wtm_at "d.ev")) | (refine' tv_neI ?ha ?hb; (case ha => wtm_at "d.ev"); (case hb => wtm_at "d.ev")) | (refine' tv_neS ?ha ?hb; (case ha => wtm_at "d.ev"); (case hb => wtm_at "d.ev"))
  | (refine' tv_isN ?ha ?hb; (case ha => wtm_at "d.ev"); (case hb => wtm_at "d.ev")) | (refine' tv_notN ?ha ?hb; (case ha => wtm_at "d.ev"); (case hb => wtm_at "d.ev"))
  | (refine' tv_din (by assumption) ?ha ?hb ?hd ?hk; (case ha => wtm_at "d.ev"); (case hb => wtm_at "d.ev"); (case hd => wtm_at "d.isD"); (case hk => constructor))
  | (refine' tv_dnin (by assumption) ?ha ?hb ?hd ?hk; (case ha => wtm_at "d.ev"); (case hb => wtm_at "d.ev"); (case hd => wtm_at "d.isD"); (case hk => constructor))
  | wtm_at "d.nelist"
  | (refine' tv_isnotB ?ha ?hb; (case ha => wtm_at "d.ev"); (case hb => wtm_at "d.ev"))
  | wtm_at "d.eqDD"
  | (refine' tv_neDF (by assumption) ?ha ?hb ?hd ?he ?hf ?nd; (case ha => wtm_at "d.ev"); (case hb => wtm_at "d.ev"); (case hd => wtm_at "d.isD"); (case he => wtm_at "d.isD"); (case hf => assumption); (case nd => assumption))
  | (refine' tv_val ?h; (case h => wtm_at "d.ev")))
local macro_rules | `(tactic| wtm_at "d.wv") => `(tactic| first
  | (refine' wv_and1 ?h; (case h => wtm_at "d.tv")) | (refine' wv_or1 ?h; (case h => wtm_at "d.tv"))
  | (refine' wv_and ?h (fun hk => ?t); (case h => wtm_at "d.tv"); (case t => wtm_at "d.wv"))
  | (refine' wv_or ?h (fun hk => ?t); (case h => wtm_at "d.tv"); (case t => wtm_at "d.wv"))
  | (refine' wv_or0 ?h ?t; (case h => wtm_at "d.tv"); (case t => wtm_at "d.wv"))
  | (refine' wv_and0 ?h ?t; (case h => wtm_at "d.tv"); (case t => wtm_at "d.wv")))
local macro_rules | `(tactic| wtm_at "d.ev") => `(tactic| first
  | exact ev_int | exact ev_str | exact ev_bool | exact ev_none
  | (refine' ev_name (by assumption) rfl ?h ?hi; (case h => wtm_at "d.lk"); (case hi => exact rfl))
  | (refine' ev_nameV (by assumption) rfl ?h; (case h => wtm_at "d.lk"))
  | (refine' ev_add ?ha ?hb; (case ha => wtm_at "d.ev"); (case hb => wtm_at "d.ev"))
  | (refine' ev_sub ?ha ?hb; (case ha => wtm_at "d.ev"); (case hb => wtm_at "d.ev"))
  | (refine' ev_mul ?ha ?hb ?hc; (case ha => wtm_at "d.ev"); (case hb => wtm_at "d.ev"); (case hc => wtm_at "d.mul"))
  | (refine' ev_mod ?ha ?hb ?hc; (case ha => wtm_at "d.ev"); (case hb => wtm_at "d.ev"); (case hc => wtm_at "d.side"))
  | (refine' ev_div ?ha ?hb ?hc; (case ha => wtm_at "d.ev"); (case hb => wtm_at "d.ev"); (case hc => wtm_at "d.div"))
  | (refine' ev_pow ?ha ?hb ?hc; (case ha => wtm_at "d.ev"); (case hb => wtm_at "d.ev"); (case hc => wtm_at "d.pow"))
  | (refine' ev_neg ?ha; (case ha => wtm_at "d.ev"))
  | (refine' ev_lt ?ha ?hb; (case ha => wtm_at "d.ev"); (case hb => wtm_at "d.ev")) | (refine' ev_le ?ha ?hb; (case ha => wtm_at "d.ev"); (case hb => wtm_at "d.ev")) | (refine' ev_gt ?ha ?hb; (case ha => wtm_at "d.ev"); (case hb => wtm_at "d.ev")) | (refine' ev_ge ?ha ?hb; (case ha => wtm_at "d.ev"); (case hb => wtm_at "d.ev"))
  | (refine' ev_eqI ?ha ?hb; (case ha => wtm_at "d.ev"); (case hb => wtm_at "d.ev")) | (refine' ev_eqS ?ha ?hb; (case ha => wtm_at "d.ev"); (case hb => wtm_at "d.ev")) | (refine' ev_neI ?ha ?hb; (case ha => wtm_at "d.ev"); (case hb => wtm_at "d.ev")) | (refine' ev_neS ?ha ?hb; (case ha => wtm_at "d.ev"); (case hb => wtm_at "d.ev"))
  | (refine' ev_isN ?ha ?hb; (case ha => wtm_at "d.ev"); (case hb => wtm_at "d.ev")) | (refine' ev_notN ?ha ?hb; (case ha => wtm_at "d.ev"); (case hb => wtm_at "d.ev"))
  | (refine' ev_not ?ha; (case ha => wtm_at "d.ev"))
  | (refine' ev_tup ?ha ?hz; (case ha => wtm_at "d.argsD"); (case hz => exact rfl))
  | (refine' ev_lstV ?ha ?hz; (case ha => wtm_at "d.argsD"); (case hz => exact rfl))
  | (refine' ev_ixT ?ha ?hb ?hi; (case ha => wtm_at "d.ev"); (case hb => wtm_at "d.ev"); (case hi => wtm_at "d.at"))
  | (refine' ev_ixLv ?ha ?hb ?hi; (case ha => wtm_at "d.ev"); (case hb => wtm_at "d.ev"); (case hi => wtm_at "d.at"))
  | (refine' ev_ixL ?ha ?hb ?hl ?hi; (case ha => wtm_at "d.ev"); (case hb => wtm_at "d.ev"); (case hl => wtm_at "d.isL"); (case hi => wtm_at "d.at"))
  | wtm_at "d.dget"
  | wtm_at "d.dget2"
  | exact ev_dict0V
  | (refine' ev_dictDV (by assumption) rfl ?ha ?hl; (case ha => wtm_at "d.ev"); (case hl => wtm_at "d.isD"))
  | (refine' ev_len (by assumption) rfl ?ha ?hr; (case ha => wtm_at "d.ev"); (case hr => first | exact rc_lenT | exact rc_lenLv | exact rc_lenL (IsL.cell rfl)))
  | (refine' ev_tupleL (by assumption) rfl ?ha ?hl; (case ha => wtm_at "d.ev"); (case hl => wtm_at "d.isL"))
  | (refine' ev_tupleT (by assumption) rfl ?ha; (case ha => wtm_at "d.ev"))
  | (refine' ev_max2 rfl (by assumption) rfl ?ha ?hb; (case ha => wtm_at "d.ev"); (case hb => wtm_at "d.ev")) | (refine' ev_min2 rfl (by assumption) rfl ?ha ?hb; (case ha => wtm_at "d.ev"); (case hb => wtm_at "d.ev"))
  | (refine' ev_intB (by assumption) rfl ?ha; (case ha => wtm_at "d.ev"))
  | (refine' ev_isTup (by assumption) rfl ?ha (by assumption) rfl; (case ha => wtm_at "d.ev")) | (refine' ev_isInt (by assumption) rfl ?ha (by assumption) rfl; (case ha => wtm_at "d.ev")) | (refine' ev_isBool (by assumption) rfl ?ha (by assumption) rfl; (case ha => wtm_at "d.ev")) | (refine' ev_isStr (by assumption) rfl ?ha (by assumption) rfl; (case ha => wtm_at "d.ev")) | (refine' ev_isLst (by assumption) rfl ?ha (by assumption) rfl; (case ha => wtm_at "d.ev"))
  | (refine' ev_glo (by assumption) rfl)
  | wtm_at "d.eqD"
  | wtm_at "d.catL"
  | wtm_at "d.slF"
  | (refine' ev_sortedI (by assumption) rfl ?ha ?hl; (case ha => wtm_at "d.ev"); (case hl => first | assumption | wtm_at "d.isL"))
  | (refine' ev_and1 ?ha; (case ha => wtm_at "d.ev"))
  | (refine' ev_and ?ha ?hb; (case ha => wtm_at "d.ev"); (case hb => intro _; wtm_at "d.ev"))
  | (refine' ev_or ?ha ?hb; (case ha => wtm_at "d.ev"); (case hb => intro _; wtm_at "d.ev"))
  | (refine' ev_and0 ?ha ?hb; (case ha => wtm_at "d.ev"); (case hb => wtm_at "d.ev"))
  | (refine' ev_or0 ?ha ?hb; (case ha => wtm_at "d.ev"); (case hb => wtm_at "d.ev"))
  | (refine' ev_append ?ha ?hb ?hc ?hd ?hp ?hz; (case ha => wtm_at "d.ev"); (case hb => wtm_at "d.ev"); (case hc => exact rfl); (case hd => exact rfl); (case hp => wtm_at "d.putC"); (case hz => wtm_at "d.side"))
  | (refine' ev_listRg1 rfl (by assumption) rfl (by assumption) rfl ?ha ?ho ?hq; (case ha => wtm_at "d.ev"); (case ho => wtm_at "d.side"); (case hq => wtm_at "d.side"))
  | (refine' ev_listRg2 rfl (by assumption) rfl (by assumption) rfl ?ha ?hb ?ho ?hq; (case ha => wtm_at "d.ev"); (case hb => wtm_at "d.ev"); (case ho => wtm_at "d.side"); (case hq => wtm_at "d.side"))
  | (refine' ev_reverse ?ha ?hc ?hp; (case ha => wtm_at "d.ev"); (case hc => exact rfl); (case hp => wtm_at "d.putC"))
  | (refine' ev_sortedP (by assumption) rfl ?ha ?hl; (case ha => wtm_at "d.ev"); (case hl => wtm_at "d.isL"))
  | wtm_at "d.call")
/-- what makes a new cell -/
local macro_rules | `(tactic| wtm_at "d.evC") => `(tactic| first
  | (refine' ev_lstC ?ha ?hac ?hz; (case ha => wtm_at "d.args"); (case hac => wtm_at "d.appC"); (case hz => exact rfl))
  | (refine' ev_dict0 ?hac; (case hac => wtm_at "d.appC"))
  | (refine' ev_listC (by assumption) rfl ?ha ?hl ?hac; (case ha => wtm_at "d.ev"); (case hl => wtm_at "d.isQ"); (case hac => wtm_at "d.appC"))
  | (refine' ev_dictP rfl (by assumption) rfl ?ha ?hl ?hac; (case ha => wtm_at "d.ev"); (case hl => wtm_at "d.isL"); (case hac => wtm_at "d.appC"))
  | wtm_at "d.callC")
local macro_rules | `(tactic| wtm_at "d.setC") => `(tactic| (refine' s1_set (by assumption) rfl ?h ?p ?q ?hi; (case h => wtm_at "d.evC"); (case p => wtm_at "d.put"); (case hi => exact rfl); show SX _ _ _ _ _ _))
local macro_rules | `(tactic| wtm_at "d.returnC") => `(tactic| (refine' s1_ret ?h ?q; (case h => wtm_at "d.evC"); show RetOk _ _ _ _ _))
local macro_rules | `(tactic| wtm_at "d.stC") => `(tactic| (refine' sx_cons ?s; first | wtm_at "d.setC" | wtm_at "d.returnC"))
/-- statements without branches -/
local macro_rules | `(tactic| wtm_at "d.set") => `(tactic| (refine' s1_set (by assumption) rfl ?h ?p ?q ?hi; (case h => wtm_at "d.ev"); (case p => wtm_at "d.put"); (case hi => exact rfl); show SX _ _ _ _ _ _))
local macro_rules | `(tactic| wtm_at "d.return") => `(tactic| (refine' s1_ret ?h ?q; (case h => wtm_at "d.ev"); show RetOk _ _ _ _ _))
local macro_rules | `(tactic| wtm_at "d.expr") => `(tactic| (refine' s1_expr ?h ?q; (case h => wtm_at "d.ev"); show SX _ _ _ _ _ _))
local macro_rules | `(tactic| wtm_at "d.lput") => `(tactic| (refine' s1_lput ?hv ?ho ?hi ?hc ?hj ?p ?q; (case hv => wtm_at "d.ev"); (case ho => wtm_at "d.ev"); (case hi => wtm_at "d.ev"); (case hc => exact rfl); (case hj => exact rfl); (case p => wtm_at "d.putC"); show SX _ _ _ _ _ _))
local macro_rules | `(tactic| wtm_at "d.dput") => `(tactic| (refine' s1_dput (by assumption) ?hv ?ho ?hi ?hc ?hk ?hz ?nd ?p ?q; (case hv => wtm_at "d.ev"); (case ho => wtm_at "d.ev"); (case hi => wtm_at "d.ev"); (case hc => exact rfl); (case hk => constructor); (case hz => wtm_at "d.side"); (case nd => assumption); (case p => wtm_at "d.putC"); show SX _ _ _ _ _ _))
local macro_rules | `(tactic| wtm_at "d.st") => `(tactic| (refine' sx_cons ?s; first | wtm_at "d.set" | wtm_at "d.return" | wtm_at "d.expr" | wtm_at "d.lput" | wtm_at "d.dput"))
local macro_rules | `(tactic| wtm_at "d.if") => `(tactic| (refine' sx_cons ?s; refine' s1_if ?h ?y ?n; (case h => wtm_at "d.tv")))
local macro_rules | `(tactic| wtm_at "d.lv") => `(tactic| first | decide | omega)
/-- a, b = .. -/
local macro_rules | `(tactic| wtm_at "d.gxs") => `(tactic| first
  | (refine' gxs_cons (gx_name (by assumption) rfl ?p ?r ?i) ?hs; (case p => wtm_at "d.put"); (case i => exact rfl); (case hs => exact rfl); wtm_at "d.gxs")
  | refine' gxs_nil ?bd)
local macro_rules | `(tactic| wtm_at "d.unp") => `(tactic| (refine' sx_cons ?s; refine' s1_asg ?h ?g; (case h => wtm_at "d.ev"); (first | refine' gx_lst rfl IsL.val ?u rfl | refine' gx_tup rfl ?u rfl); wtm_at "d.gxs"; show SX _ _ _ _ _ _))
local macro_rules | `(tactic| wtm_at "g.len") => `(tactic| simp only [List.length_append, List.length_cons, List.length_nil, List.length_map, List.length_range, List.length_reverse, List.length_drop, List.length_take, List.length_set, List.length_replicate])
local macro_rules | `(tactic| wtm_at "g.lenA") => `(tactic| simp only [List.length_append, List.length_cons, List.length_nil, List.length_map, List.length_range, List.length_reverse, List.length_drop, List.length_take, List.length_set, List.length_replicate] at *)
local macro_rules | `(tactic| wtm_at "g.sd") => `(tactic| first | with_reducible assumption | omega | decide | (split <;> omega) | (wtm_at "g.len"; omega) | (wtm_at "g.lenA"; omega) | (subst_vars; first | with_reducible assumption | omega | (wtm_at "g.len"; omega) | (wtm_at "g.lenA"; omega)))
local macro_rules | `(tactic| wtm_at "g.pre") => `(tactic| wtm_at "g.sd")
local macro_rules | `(tactic| wtm_at "g.nd") => `(tactic| first | with_reducible assumption | exact List.Pairwise.nil | (refine putSt_nd _ _ _ ?_; wtm_at "g.nd") | (refine putI_nd _ _ _ ?_; wtm_at "g.nd") | (subst_vars; with_reducible assumption))
local macro_rules | `(tactic| wtm_at "g.str") => `(tactic| first | with_reducible assumption | omega | decide | (subst_vars; omega) | (subst_vars; decide))
local macro_rules | `(tactic| wtm_at "g.ixs") => `(tactic| first | with_reducible assumption | omega | (refine ⟨by omega, Int.lt_of_lt_of_le (b := 4) (by omega) (by decide)⟩))
local macro_rules | `(tactic| wtm_at "g.inv") => `(tactic| first | wtm_at "g.sd" | wtm_at "g.nd" | (refine ⟨?_, ?_⟩ <;> wtm_at "g.inv"))
local macro_rules | `(tactic| wtm_at "g.flat") => `(tactic| first | rfl | exact all_flat1 (flat_map _) | exact all_flat1 (flat_svK _) | (simp only [List.all_cons, List.all_nil, flat_svK, flat_map, Bool.and_self, Bool.and_true]; done) | (simp [CC.flat, SV.isVal]; done))
local macro_rules | `(tactic| wtm_at "g.data") => `(tactic| first | rfl | exact data_map _ | exact data_svK _ | (simp [CC.data, svData_map, kvData_map]; done))
local macro_rules | `(tactic| wtm_at "g.okS") => `(tactic| first | rfl | (simp [okS, SV.lt]; done))
local macro_rules | `(tactic| wtm_at "g.key") => `(tactic| first | with_reducible assumption | (subst_vars; with_reducible assumption))
local macro_rules | `(tactic| wtm_at "g.same") => `(tactic| first | rfl | (subst_vars; rfl))
local macro_rules | `(tactic| wtm_at "d.lt") => `(tactic| first | rfl | (simp only [List.all_cons, List.all_nil, lt_svK, lt_map, Bool.and_true, Bool.true_and]; first | done | rfl) | (simp [CC.lt, SV.lt]; done))
local macro_rules | `(tactic| wtm_at "g.some") => `(tactic| first | with_reducible assumption | exact some_of (by assumption) | (subst_vars; first | with_reducible assumption | exact some_of (by assumption)))
local macro_rules | `(tactic| wtm_at "g.wj") => `(tactic| (refine ⟨?_, ?_⟩ <;> wtm_at "g.inv"))
local macro_rules | `(tactic| wtm_at "g.shp") => `(tactic| first | exact dk_shaped (n := 0) rfl (by decide) | exact dk_shaped (n := 1) rfl (by decide) | exact dk_shaped (n := 0) (by assumption) (by decide) | exact dk_shaped (n := 1) (by decide) (by decide) | exact dk_shaped (n := 1) (by decide +kernel) (by decide))
local macro_rules | `(tactic| wtm_at "g.cj") => `(tactic| first | trivial | (intros; dsimp only at *; wtm_at "g.inv") | wtm_at "g.inv")
inductive Trm
  | is (x : Str)
  | rd (r : Str) (p : Str × Int)
def Trm.D : Trm → PyData
  | .is x => .tuple [.str "is", .str x]
  | .rd r p => .tuple [.str "at", .str r, .tuple [.str p.1, .int p.2]]
inductive Ag
  | row (s : Str)
  | is (x : Str)
def Ag.D : Ag → PyData
  | .row s => .tuple [.str "row", .str s]
  | .is x => .tuple [.str "is", .str x]
inductive Clm
  | least (a b : Trm) (c : Int)
  | each (t u : Str × Int) (r way : Str) (b : Ag) (c : Int)
  | rise (t u : Str × Int) (r : Str)
def Clm.D : Clm → PyData
  | .least a b c => .tuple [.str "least", a.D, b.D, .int c]
  | .each t u r w b c => .tuple [.str "each", .tuple [.str t.1, .int t.2], .tuple [.str u.1, .int u.2], .str r, .str w, b.D, .int c]
  | .rise t u r => .tuple [.str "rise", .tuple [.str t.1, .int t.2], .tuple [.str u.1, .int u.2], .str r]
inductive Fst
  | set (x : Str) (t : Trm) (c : Int)
  | put (r : Str) (p : Str × Int) (t : Trm) (c : Int)
  | any (x : Str)
  | claim (c : Clm)
instance : Inhabited Fst := ⟨.any ""⟩
def Fst.D : Fst → PyData
  | .set x t c => .tuple [.str "set", .str x, t.D, .int c]
  | .put r p t c => .tuple [.str "put", .str r, .tuple [.str p.1, .int p.2], t.D, .int c]
  | .any x => .tuple [.str "any", .str x]
  | .claim c => .tuple [.str "claim", c.D]
inductive Row
  | set (x : Str) (t : Trm) (c : Int)
  | put (r : Str) (p : Str × Int) (t : Trm) (c : Int)
  | any (x : Str)
  | know (c : Clm)
  | lose (r : Str)
instance : Inhabited Row := ⟨.any ""⟩
def Row.D : Row → PyData
  | .set x t c => .tuple [.str "set", .str x, t.D, .int c]
  | .put r p t c => .tuple [.str "put", .str r, .tuple [.str p.1, .int p.2], t.D, .int c]
  | .any x => .tuple [.str "any", .str x]
  | .know c => .tuple [.str "know", c.D]
  | .lose r => .tuple [.str "lose", .str r]
abbrev e_tup_str_int (q : (Str × Int)) : PyData := .tuple [(.str q.1), (.int q.2)]
abbrev e_tupl_tup_int_int (q : (List (Int × Int))) : PyData := .tuple (q.map pD)
abbrev e_tup_int_tupl_tup_int_int (q : (Int × (List (Int × Int)))) : PyData := .tuple [(.int q.1), (.tuple (q.2.map pD))]
abbrev e_lst_int (q : (List Int)) : PyData := .list (q.map PyData.int)
abbrev e_lst_str (q : (List Str)) : PyData := .list (q.map PyData.str)
abbrev e_tupl_str (q : (List Str)) : PyData := .tuple (q.map PyData.str)
abbrev e_tupl_int (q : (List Int)) : PyData := .tuple (q.map PyData.int)
abbrev e_tupl_Clm (q : (List Clm)) : PyData := .tuple (q.map Clm.D)
abbrev e_lst_Row (q : (List Row)) : PyData := .list (q.map Row.D)
abbrev e_lst_lst_Row (q : (List (List Row))) : PyData := .list (q.map e_lst_Row)
abbrev e_tupl_Fst (q : (List Fst)) : PyData := .tuple (q.map Fst.D)
abbrev e_tup_str_str_tupl_str_tupl_str_tupl_Clm_tupl_Clm_tupl_Fst (q : (Str × Str × (List Str) × (List Str) × (List Clm) × (List Clm) × (List Fst))) : PyData := .tuple [(.str q.1), (.str q.2.1), (.tuple (q.2.2.1.map PyData.str)), (.tuple (q.2.2.2.1.map PyData.str)), (.tuple (q.2.2.2.2.1.map Clm.D)), (.tuple (q.2.2.2.2.2.1.map Clm.D)), (.tuple (q.2.2.2.2.2.2.map Fst.D))]
abbrev e_tup_str_str_tupl_int_int_lst_Row_Clm (q : (Str × Str × (List Int) × Int × (List Row) × Clm)) : PyData := .tuple [(.str q.1), (.str q.2.1), (.tuple (q.2.2.1.map PyData.int)), (.int q.2.2.2.1), (.list (q.2.2.2.2.1.map Row.D)), (Clm.D q.2.2.2.2.2)]
abbrev e_lst_tup_str_str_tupl_int_int_lst_Row_Clm (q : (List (Str × Str × (List Int) × Int × (List Row) × Clm))) : PyData := .list (q.map e_tup_str_str_tupl_int_int_lst_Row_Clm)
abbrev e_tup_str_str_tupl_int (q : (Str × Str × (List Int))) : PyData := .tuple [(.str q.1), (.str q.2.1), (.tuple (q.2.2.map PyData.int))]
abbrev e_tup_lst_str_lst_str (q : ((List Str) × (List Str))) : PyData := .tuple [(.list (q.1.map PyData.str)), (.list (q.2.map PyData.str))]
abbrev e_lst_tup_lst_str_lst_str (q : (List ((List Str) × (List Str)))) : PyData := .list (q.map e_tup_lst_str_lst_str)
abbrev e_lst_Clm (q : (List Clm)) : PyData := .list (q.map Clm.D)
abbrev e_tupl_tup_str_str_tupl_str_tupl_str_tupl_Clm_tupl_Clm_tupl_Fst (q : (List (Str × Str × (List Str) × (List Str) × (List Clm) × (List Clm) × (List Fst)))) : PyData := .tuple (q.map e_tup_str_str_tupl_str_tupl_str_tupl_Clm_tupl_Clm_tupl_Fst)
def m_place_names (place_0 : (Str × Int)) : (List Str) := if (decide (place_0.1 = ("" : Str))) then ([] : (List Str)) else ([place_0.1] : (List Str))
section
variable {P : Program} {w : World} {K : PySem.W.Frag} {mg : Str → Option Value} {base : Heap}
inductive Sp_place_names : Spec
  | mk {place_0 : (Str × Int)}  : Sp_place_names [.val (.tuple [(.str place_0.1), (.int place_0.2)])] [] (.val (.list ((m_place_names place_0).map PyData.str))) []
theorem cal_place_names (D : DefAt K mg "place_names" s_place_names P_place_names) : Cal P w K mg base 1 "place_names" 1 Sp_place_names := by
  refine cal_def D sc_place_names tb_place_names (fun f cdv A outer s0 H E hr T TL svs cs sv cs1 hsp hl => ?_)
  cases hsp with
  | @mk place_0  =>
  obtain ⟨R0, h⟩ : ∃ R0, (m_place_names place_0) = R0 := ⟨_, rfl⟩
  rw [h]
  unfold m_place_names at h
  show SX _ _ _ [some (.val (.tuple [(.str place_0.1), (.int place_0.2)]))] [] _
  refine' sx_cons (s1_if (tv_eqS (ev_ixT (ev_name T rfl Lk.here rfl) ev_int rfl) ev_str) ?y2 ?n2)
  case y2 =>
    intro hb1
    have hb1x := hb1
    try simp only [Bool.and_eq_true, Bool.or_eq_true, Bool.and_eq_false_iff, Bool.or_eq_false_iff, decide_eq_true_eq, decide_eq_false_iff_not, Bool.not_eq_true', Bool.not_eq_false', Bool.not_eq_eq_eq_not, Bool.not_true, Bool.not_false] at hb1x
    rw [if_pos hb1] at h
    refine sx_cons (s1_ret (ev_lstV ad_nil rfl) ?_)
    show RetOk _ _ _ _ _
    subst h
    exact ret_val rfl rfl rfl (by wtm_at "d.lt")
  case n2 =>
    intro hb1
    have hb1x := hb1
    try simp only [Bool.and_eq_true, Bool.or_eq_true, Bool.and_eq_false_iff, Bool.or_eq_false_iff, decide_eq_true_eq, decide_eq_false_iff_not, Bool.not_eq_true', Bool.not_eq_false', Bool.not_eq_eq_eq_not, Bool.not_true, Bool.not_false] at hb1x
    rw [if_neg (by rw [hb1]; decide)] at h
    refine sx_nil ?_
    show SX _ _ _ _ _ _
    refine sx_cons (s1_ret (ev_lstV (ad_cons (ev_ixT (ev_name T rfl Lk.here rfl) ev_int rfl) ad_nil) rfl) ?_)
    show RetOk _ _ _ _ _
    subst h
    exact ret_val rfl rfl rfl (by wtm_at "d.lt")
end
theorem pn_len (p : Str × Int) : (m_place_names p).length ≤ 1 := by
  unfold m_place_names
  split
  · exact Nat.zero_le _
  · exact Nat.le_refl _
def m_term_names_t (term_0 : Trm) : ((List Str) × (List Str)) := match term_0 with
  | .is x => letF (m_place_names (x, 0)) fun r_1 => (r_1, ([] : (List Str)))
  | .rd r p => letF (m_place_names p) fun r_2 => (r_2, ([r] : (List Str)))
section
variable {P : Program} {w : World} {K : PySem.W.Frag} {mg : Str → Option Value} {base : Heap}
inductive Sp_term_names_t : Spec
  | mk {term_0 : Trm}  : Sp_term_names_t [.val (Trm.D term_0)] [] (.val (.tuple [(.list ((m_term_names_t term_0).1.map PyData.str)), (.list ((m_term_names_t term_0).2.map PyData.str))])) []
theorem cal_term_names_t (D : DefAt K mg "term_names" s_term_names P_term_names) (C_place_names : Cal P w K mg base 1 "place_names" 1 Sp_place_names) : Cal P w K mg base 2 "term_names" 1 Sp_term_names_t := by
  refine cal_def D sc_term_names tb_term_names (fun f cdv A outer s0 H E hr T TL svs cs sv cs1 hsp hl => ?_)
  cases hsp with
  | @mk term_0  =>
  obtain ⟨R0, h⟩ : ∃ R0, (m_term_names_t term_0) = R0 := ⟨_, rfl⟩
  rw [h]
  unfold m_term_names_t at h
  cases term_0
  case is x =>
    dsimp only at h
    show SX _ _ _ [some (.val (.tuple [(.str ("is" : Str)), (.str x)]))] [] _
    refine sx_cons (s1_if (tv_eqS (ev_ixT (ev_name T rfl Lk.here rfl) ev_int rfl) ev_str) (fun z => absurd z (by decide)) (fun _ => ?_))
    refine sx_nil ?_
    show SX _ _ _ _ _ _
    refine sx_cons (s1_if (tv_eqS (ev_ixT (ev_name T rfl Lk.here rfl) ev_int rfl) ev_str) (fun z => absurd z (by decide)) (fun _ => ?_))
    refine sx_nil ?_
    show SX _ _ _ _ _ _
    replace h := letF_elim h
    obtain ⟨r_1, er_1, h⟩ := h
    have p3 := pn_len (x, 0)
    refine sx_cons (s1_ret (ev_tup (ad_cons (ev_as (t := .val (.list (r_1.map PyData.str))) (cs2 := []) (ev_callM (κ := []) C_place_names hr (by first | decide | omega) rfl (av_cons (ev_tup (ad_cons (ev_ixT (ev_name T rfl Lk.here rfl) ev_int rfl) (ad_cons ev_int ad_nil)) rfl) av_nil) Sel.nil (RenA.val RenA.nil) (Sp_place_names.mk (place_0 := (x, 0)) ) SetA.nil (List.prefix_refl _) rfl (by decide) rfl) (by subst er_1; rfl) (by subst er_1; rfl)) (ad_cons (ev_lstV ad_nil rfl) ad_nil)) rfl) ?_)
    show RetOk _ _ _ _ _
    subst h
    exact ret_val rfl rfl rfl (by wtm_at "d.lt")
  case rd r p =>
    dsimp only at h
    show SX _ _ _ [some (.val (.tuple [(.str ("at" : Str)), (.str r), (.tuple [(.str p.1), (.int p.2)])]))] [] _
    refine sx_cons (s1_if (tv_eqS (ev_ixT (ev_name T rfl Lk.here rfl) ev_int rfl) ev_str) (fun _ => ?_) (fun z => absurd z (by decide)))
    replace h := letF_elim h
    obtain ⟨r_2, er_2, h⟩ := h
    have p5 := pn_len p
    refine sx_cons (s1_ret (ev_tup (ad_cons (ev_as (t := .val (.list (r_2.map PyData.str))) (cs2 := []) (ev_callM (κ := []) C_place_names hr (by first | decide | omega) rfl (av_cons (ev_ixT (ev_name T rfl Lk.here rfl) ev_int rfl) av_nil) Sel.nil (RenA.val RenA.nil) (Sp_place_names.mk (place_0 := p) ) SetA.nil (List.prefix_refl _) rfl (by decide) rfl) (by subst er_2; rfl) (by subst er_2; rfl)) (ad_cons (ev_lstV (ad_cons (ev_ixT (ev_name T rfl Lk.here rfl) ev_int rfl) ad_nil) rfl) ad_nil)) rfl) ?_)
    show RetOk _ _ _ _ _
    subst h
    exact ret_val rfl rfl rfl (by wtm_at "d.lt")
end
def m_term_names_b (term_0 : Ag) : ((List Str) × (List Str)) := match term_0 with
  | .row s => (([] : (List Str)), ([s] : (List Str)))
  | .is x => letF (m_place_names (x, 0)) fun r_1 => (r_1, ([] : (List Str)))
section
variable {P : Program} {w : World} {K : PySem.W.Frag} {mg : Str → Option Value} {base : Heap}
inductive Sp_term_names_b : Spec
  | mk {term_0 : Ag}  : Sp_term_names_b [.val (Ag.D term_0)] [] (.val (.tuple [(.list ((m_term_names_b term_0).1.map PyData.str)), (.list ((m_term_names_b term_0).2.map PyData.str))])) []
theorem cal_term_names_b (D : DefAt K mg "term_names" s_term_names P_term_names) (C_place_names : Cal P w K mg base 1 "place_names" 1 Sp_place_names) : Cal P w K mg base 2 "term_names" 1 Sp_term_names_b := by
  refine cal_def D sc_term_names tb_term_names (fun f cdv A outer s0 H E hr T TL svs cs sv cs1 hsp hl => ?_)
  cases hsp with
  | @mk term_0  =>
  obtain ⟨R0, h⟩ : ∃ R0, (m_term_names_b term_0) = R0 := ⟨_, rfl⟩
  rw [h]
  unfold m_term_names_b at h
  cases term_0
  case row s =>
    dsimp only at h
    show SX _ _ _ [some (.val (.tuple [(.str ("row" : Str)), (.str s)]))] [] _
    refine sx_cons (s1_if (tv_eqS (ev_ixT (ev_name T rfl Lk.here rfl) ev_int rfl) ev_str) (fun z => absurd z (by decide)) (fun _ => ?_))
    refine sx_nil ?_
    show SX _ _ _ _ _ _
    refine sx_cons (s1_if (tv_eqS (ev_ixT (ev_name T rfl Lk.here rfl) ev_int rfl) ev_str) (fun _ => ?_) (fun z => absurd z (by decide)))
    refine sx_cons (s1_ret (ev_tup (ad_cons (ev_lstV ad_nil rfl) (ad_cons (ev_lstV (ad_cons (ev_ixT (ev_name T rfl Lk.here rfl) ev_int rfl) ad_nil) rfl) ad_nil)) rfl) ?_)
    show RetOk _ _ _ _ _
    subst h
    exact ret_val rfl rfl rfl (by wtm_at "d.lt")
  case is x =>
    dsimp only at h
    show SX _ _ _ [some (.val (.tuple [(.str ("is" : Str)), (.str x)]))] [] _
    refine sx_cons (s1_if (tv_eqS (ev_ixT (ev_name T rfl Lk.here rfl) ev_int rfl) ev_str) (fun z => absurd z (by decide)) (fun _ => ?_))
    refine sx_nil ?_
    show SX _ _ _ _ _ _
    refine sx_cons (s1_if (tv_eqS (ev_ixT (ev_name T rfl Lk.here rfl) ev_int rfl) ev_str) (fun z => absurd z (by decide)) (fun _ => ?_))
    refine sx_nil ?_
    show SX _ _ _ _ _ _
    replace h := letF_elim h
    obtain ⟨r_1, er_1, h⟩ := h
    have p5 := pn_len (x, 0)
    refine sx_cons (s1_ret (ev_tup (ad_cons (ev_as (t := .val (.list (r_1.map PyData.str))) (cs2 := []) (ev_callM (κ := []) C_place_names hr (by first | decide | omega) rfl (av_cons (ev_tup (ad_cons (ev_ixT (ev_name T rfl Lk.here rfl) ev_int rfl) (ad_cons ev_int ad_nil)) rfl) av_nil) Sel.nil (RenA.val RenA.nil) (Sp_place_names.mk (place_0 := (x, 0)) ) SetA.nil (List.prefix_refl _) rfl (by decide) rfl) (by subst er_1; rfl) (by subst er_1; rfl)) (ad_cons (ev_lstV ad_nil rfl) ad_nil)) rfl) ?_)
    show RetOk _ _ _ _ _
    subst h
    exact ret_val rfl rfl rfl (by wtm_at "d.lt")
end
theorem tnt_len (t : Trm) : (m_term_names_t t).1.length ≤ 1 ∧ (m_term_names_t t).2.length ≤ 1 := by
  cases t with
  | is x => exact ⟨pn_len _, Nat.zero_le _⟩
  | rd r p => exact ⟨pn_len _, Nat.le_refl _⟩
theorem tnb_len (t : Ag) : (m_term_names_b t).1.length ≤ 1 ∧ (m_term_names_b t).2.length ≤ 1 := by
  cases t with
  | row r => exact ⟨Nat.zero_le _, Nat.le_refl _⟩
  | is x => exact ⟨pn_len _, Nat.zero_le _⟩
def m_claim_names (claim_0 : Clm) : ((List Str) × (List Str)) := match claim_0 with
  | .least a b c => letF (m_term_names_t a) fun r_1 => letF (m_term_names_t b) fun r_2 => ((r_1.1 ++ r_2.1), (r_1.2 ++ r_2.2))
  | .each t u r w b c => letF (m_place_names t) fun r_3 => letF (m_place_names u) fun r_4 => letF (r_3 ++ r_4) fun numbers_5 => letF (m_term_names_b b) fun r_6 => ((numbers_5 ++ r_6.1), (([r] : (List Str)) ++ r_6.2))
  | .rise t u r => letF (m_place_names t) fun r_7 => letF (m_place_names u) fun r_8 => letF (r_7 ++ r_8) fun numbers_9 => (numbers_9, ([r] : (List Str)))
section
variable {P : Program} {w : World} {K : PySem.W.Frag} {mg : Str → Option Value} {base : Heap}
inductive Sp_claim_names : Spec
  | mk {claim_0 : Clm}  : Sp_claim_names [.val (Clm.D claim_0)] [] (.val (.tuple [(.list ((m_claim_names claim_0).1.map PyData.str)), (.list ((m_claim_names claim_0).2.map PyData.str))])) []
theorem cal_claim_names (D : DefAt K mg "claim_names" s_claim_names P_claim_names) (C_term_names_t : Cal P w K mg base 2 "term_names" 1 Sp_term_names_t) (C_place_names : Cal P w K mg base 1 "place_names" 1 Sp_place_names) (C_term_names_b : Cal P w K mg base 2 "term_names" 1 Sp_term_names_b) : Cal P w K mg base 3 "claim_names" 1 Sp_claim_names := by
  refine cal_def D sc_claim_names tb_claim_names (fun f cdv A outer s0 H E hr T TL svs cs sv cs1 hsp hl => ?_)
  cases hsp with
  | @mk claim_0  =>
  obtain ⟨R0, h⟩ : ∃ R0, (m_claim_names claim_0) = R0 := ⟨_, rfl⟩
  rw [h]
  unfold m_claim_names at h
  cases claim_0
  case least a b c =>
    dsimp only at h
    show SX _ _ _ [some (.val (.tuple [(.str ("least" : Str)), (Trm.D a), (Trm.D b), (.int c)])), none, none, none, none] [] _
    refine sx_cons (s1_if (tv_eqS (ev_ixT (ev_name T rfl Lk.here rfl) ev_int rfl) ev_str) (fun _ => ?_) (fun z => absurd z (by decide)))
    replace h := letF_elim h
    obtain ⟨r_1, er_1, h⟩ := h
    have p2 := tnt_len a
    refine sx_cons (s1_set TL rfl (ev_as (t := .val (.tuple [(.list (r_1.1.map PyData.str)), (.list (r_1.2.map PyData.str))])) (cs2 := []) (ev_callM (κ := []) C_term_names_t hr (by first | decide | omega) rfl (av_cons (ev_ixT (ev_name T rfl Lk.here rfl) ev_int rfl) av_nil) Sel.nil (RenA.val RenA.nil) (Sp_term_names_t.mk (term_0 := a) ) SetA.nil (List.prefix_refl _) rfl (by decide) rfl) (by subst er_1; rfl) (by subst er_1; rfl)) (Put.there Put.here) ?_ rfl)
    show SX _ _ _ _ _ _
    replace h := letF_elim h
    obtain ⟨r_2, er_2, h⟩ := h
    have p3 := tnt_len b
    refine sx_cons (s1_set TL rfl (ev_as (t := .val (.tuple [(.list (r_2.1.map PyData.str)), (.list (r_2.2.map PyData.str))])) (cs2 := []) (ev_callM (κ := []) C_term_names_t hr (by first | decide | omega) rfl (av_cons (ev_ixT (ev_name T rfl Lk.here rfl) ev_int rfl) av_nil) Sel.nil (RenA.val RenA.nil) (Sp_term_names_t.mk (term_0 := b) ) SetA.nil (List.prefix_refl _) rfl (by decide) rfl) (by subst er_2; rfl) (by subst er_2; rfl)) (Put.there (Put.there Put.here)) ?_ rfl)
    show SX _ _ _ _ _ _
    have hz4 : (r_1.1).length + (r_2.1).length ≤ 1000000 := by wtm_at "g.sd"
    have hz5 : (r_1.2).length + (r_2.2).length ≤ 1000000 := by wtm_at "g.sd"
    refine sx_cons (s1_ret (ev_tup (ad_cons (ev_is (t := .val (.list ((r_1.1 ++ r_2.1).map PyData.str))) (ev_catL (ds := r_1.1.map PyData.str) (es := r_2.1.map PyData.str) (ev_ixT (ev_name T rfl (Lk.there Lk.here) rfl) ev_int rfl) (ev_ixT (ev_name T rfl (Lk.there (Lk.there Lk.here)) rfl) ev_int rfl) IsL.val IsL.val (by simpa only [List.length_map] using hz4)) (by rw [← List.map_append])) (ad_cons (ev_is (t := .val (.list ((r_1.2 ++ r_2.2).map PyData.str))) (ev_catL (ds := r_1.2.map PyData.str) (es := r_2.2.map PyData.str) (ev_ixT (ev_name T rfl (Lk.there Lk.here) rfl) ev_int rfl) (ev_ixT (ev_name T rfl (Lk.there (Lk.there Lk.here)) rfl) ev_int rfl) IsL.val IsL.val (by simpa only [List.length_map] using hz5)) (by rw [← List.map_append])) ad_nil)) rfl) ?_)
    show RetOk _ _ _ _ _
    subst h
    exact ret_val rfl rfl rfl (by wtm_at "d.lt")
  case each t u r w b c =>
    dsimp only at h
    show SX _ _ _ [some (.val (.tuple [(.str ("each" : Str)), (.tuple [(.str t.1), (.int t.2)]), (.tuple [(.str u.1), (.int u.2)]), (.str r), (.str w), (Ag.D b), (.int c)])), none, none, none, none] [] _
    refine sx_cons (s1_if (tv_eqS (ev_ixT (ev_name T rfl Lk.here rfl) ev_int rfl) ev_str) (fun z => absurd z (by decide)) (fun _ => ?_))
    refine sx_nil ?_
    show SX _ _ _ _ _ _
    replace h := letF_elim h
    obtain ⟨r_3, er_3, h⟩ := h
    replace h := letF_elim h
    obtain ⟨r_4, er_4, h⟩ := h
    replace h := letF_elim h
    obtain ⟨numbers_5, enumbers_5, h⟩ := h
    have p7 := pn_len t
    have p8 := pn_len u
    have hz9 : (r_3).length + (r_4).length ≤ 1000000 := by wtm_at "g.sd"
    refine sx_cons (s1_set TL rfl (ev_is (t := .val (.list (numbers_5.map PyData.str))) (ev_is (t := .val (.list ((r_3 ++ r_4).map PyData.str))) (ev_catL (ds := r_3.map PyData.str) (es := r_4.map PyData.str) (ev_as (t := .val (.list (r_3.map PyData.str))) (cs2 := []) (ev_callM (κ := []) C_place_names hr (by first | decide | omega) rfl (av_cons (ev_ixT (ev_name T rfl Lk.here rfl) ev_int rfl) av_nil) Sel.nil (RenA.val RenA.nil) (Sp_place_names.mk (place_0 := t) ) SetA.nil (List.prefix_refl _) rfl (by decide) rfl) (by subst er_3; rfl) (by subst er_3; rfl)) (ev_as (t := .val (.list (r_4.map PyData.str))) (cs2 := []) (ev_callM (κ := []) C_place_names hr (by first | decide | omega) rfl (av_cons (ev_ixT (ev_name T rfl Lk.here rfl) ev_int rfl) av_nil) Sel.nil (RenA.val RenA.nil) (Sp_place_names.mk (place_0 := u) ) SetA.nil (List.prefix_refl _) rfl (by decide) rfl) (by subst er_4; rfl) (by subst er_4; rfl)) IsL.val IsL.val (by simpa only [List.length_map] using hz9)) (by rw [← List.map_append])) (by subst enumbers_5; rfl)) (Put.there (Put.there (Put.there Put.here))) ?_ rfl)
    show SX _ _ _ _ _ _
    refine sx_cons (s1_set TL rfl (ev_lstV (ad_cons (ev_ixT (ev_name T rfl Lk.here rfl) ev_int rfl) ad_nil) rfl) (Put.there (Put.there (Put.there (Put.there Put.here)))) ?_ rfl)
    show SX _ _ _ _ _ _
    refine sx_cons (s1_if (tv_eqS (ev_ixT (ev_name T rfl Lk.here rfl) ev_int rfl) ev_str) (fun _ => ?_) (fun z => absurd z (by decide)))
    replace h := letF_elim h
    obtain ⟨r_6, er_6, h⟩ := h
    have p11 := tnb_len b
    refine sx_cons (s1_set TL rfl (ev_as (t := .val (.tuple [(.list (r_6.1.map PyData.str)), (.list (r_6.2.map PyData.str))])) (cs2 := []) (ev_callM (κ := []) C_term_names_b hr (by first | decide | omega) rfl (av_cons (ev_ixT (ev_name T rfl Lk.here rfl) ev_int rfl) av_nil) Sel.nil (RenA.val RenA.nil) (Sp_term_names_b.mk (term_0 := b) ) SetA.nil (List.prefix_refl _) rfl (by decide) rfl) (by subst er_6; rfl) (by subst er_6; rfl)) (Put.there Put.here) ?_ rfl)
    show SX _ _ _ _ _ _
    have hz12 : (numbers_5).length + (r_6.1).length ≤ 1000000 := by wtm_at "g.sd"
    have hz13 : (([r] : (List Str))).length + (r_6.2).length ≤ 1000000 := by wtm_at "g.sd"
    refine sx_cons (s1_ret (ev_tup (ad_cons (ev_is (t := .val (.list ((numbers_5 ++ r_6.1).map PyData.str))) (ev_catL (ds := numbers_5.map PyData.str) (es := r_6.1.map PyData.str) (ev_name T rfl (Lk.there (Lk.there (Lk.there Lk.here))) rfl) (ev_ixT (ev_name T rfl (Lk.there Lk.here) rfl) ev_int rfl) IsL.val IsL.val (by simpa only [List.length_map] using hz12)) (by rw [← List.map_append])) (ad_cons (ev_is (t := .val (.list ((([r] : (List Str)) ++ r_6.2).map PyData.str))) (ev_catL (ds := ([r] : (List Str)).map PyData.str) (es := r_6.2.map PyData.str) (ev_name T rfl (Lk.there (Lk.there (Lk.there (Lk.there Lk.here)))) rfl) (ev_ixT (ev_name T rfl (Lk.there Lk.here) rfl) ev_int rfl) IsL.val IsL.val (by simpa only [List.length_map] using hz13)) (by rw [← List.map_append])) ad_nil)) rfl) ?_)
    show RetOk _ _ _ _ _
    subst h
    exact ret_val rfl rfl rfl (by wtm_at "d.lt")
  case rise t u r =>
    dsimp only at h
    show SX _ _ _ [some (.val (.tuple [(.str ("rise" : Str)), (.tuple [(.str t.1), (.int t.2)]), (.tuple [(.str u.1), (.int u.2)]), (.str r)])), none, none, none, none] [] _
    refine sx_cons (s1_if (tv_eqS (ev_ixT (ev_name T rfl Lk.here rfl) ev_int rfl) ev_str) (fun z => absurd z (by decide)) (fun _ => ?_))
    refine sx_nil ?_
    show SX _ _ _ _ _ _
    replace h := letF_elim h
    obtain ⟨r_7, er_7, h⟩ := h
    replace h := letF_elim h
    obtain ⟨r_8, er_8, h⟩ := h
    replace h := letF_elim h
    obtain ⟨numbers_9, enumbers_9, h⟩ := h
    have p15 := pn_len t
    have p16 := pn_len u
    have hz17 : (r_7).length + (r_8).length ≤ 1000000 := by wtm_at "g.sd"
    refine sx_cons (s1_set TL rfl (ev_is (t := .val (.list (numbers_9.map PyData.str))) (ev_is (t := .val (.list ((r_7 ++ r_8).map PyData.str))) (ev_catL (ds := r_7.map PyData.str) (es := r_8.map PyData.str) (ev_as (t := .val (.list (r_7.map PyData.str))) (cs2 := []) (ev_callM (κ := []) C_place_names hr (by first | decide | omega) rfl (av_cons (ev_ixT (ev_name T rfl Lk.here rfl) ev_int rfl) av_nil) Sel.nil (RenA.val RenA.nil) (Sp_place_names.mk (place_0 := t) ) SetA.nil (List.prefix_refl _) rfl (by decide) rfl) (by subst er_7; rfl) (by subst er_7; rfl)) (ev_as (t := .val (.list (r_8.map PyData.str))) (cs2 := []) (ev_callM (κ := []) C_place_names hr (by first | decide | omega) rfl (av_cons (ev_ixT (ev_name T rfl Lk.here rfl) ev_int rfl) av_nil) Sel.nil (RenA.val RenA.nil) (Sp_place_names.mk (place_0 := u) ) SetA.nil (List.prefix_refl _) rfl (by decide) rfl) (by subst er_8; rfl) (by subst er_8; rfl)) IsL.val IsL.val (by simpa only [List.length_map] using hz17)) (by rw [← List.map_append])) (by subst enumbers_9; rfl)) (Put.there (Put.there (Put.there Put.here))) ?_ rfl)
    show SX _ _ _ _ _ _
    refine sx_cons (s1_set TL rfl (ev_lstV (ad_cons (ev_ixT (ev_name T rfl Lk.here rfl) ev_int rfl) ad_nil) rfl) (Put.there (Put.there (Put.there (Put.there Put.here)))) ?_ rfl)
    show SX _ _ _ _ _ _
    refine sx_cons (s1_if (tv_eqS (ev_ixT (ev_name T rfl Lk.here rfl) ev_int rfl) ev_str) (fun z => absurd z (by decide)) (fun _ => ?_))
    refine sx_nil ?_
    show SX _ _ _ _ _ _
    refine sx_cons (s1_ret (ev_tup (ad_cons (ev_name T rfl (Lk.there (Lk.there (Lk.there Lk.here))) rfl) (ad_cons (ev_name T rfl (Lk.there (Lk.there (Lk.there (Lk.there Lk.here)))) rfl) ad_nil)) rfl) ?_)
    show RetOk _ _ _ _ _
    subst h
    exact ret_val rfl rfl rfl (by wtm_at "d.lt")
end
theorem cn_len (c : Clm) : (m_claim_names c).1.length ≤ 3 ∧ (m_claim_names c).2.length ≤ 2 := by
  cases c with
  | least a b k =>
    have h1 := tnt_len a
    have h2 := tnt_len b
    show ((m_term_names_t a).1 ++ (m_term_names_t b).1 : List Str).length ≤ 3 ∧ ((m_term_names_t a).2 ++ (m_term_names_t b).2 : List Str).length ≤ 2
    rw [List.length_append, List.length_append]
    omega
  | each t u r way b k =>
    have h1 := pn_len t
    have h2 := pn_len u
    have h3 := tnb_len b
    show ((m_place_names t ++ m_place_names u) ++ (m_term_names_b b).1 : List Str).length ≤ 3 ∧ ([r] ++ (m_term_names_b b).2 : List Str).length ≤ 2
    rw [List.length_append, List.length_append, List.length_append, List.length_singleton]
    omega
  | rise t u r =>
    have h1 := pn_len t
    have h2 := pn_len u
    show (m_place_names t ++ m_place_names u : List Str).length ≤ 3 ∧ ([r] : List Str).length ≤ 2
    rw [List.length_append, List.length_singleton]
    omega
/-- a call has few numbers and rows -/
def FOk : Fst → Prop
  | _ => True
def m_simple_names (statement_0 : Fst) : ((List Str) × (List Str)) := match statement_0 with
  | .set x t c => letF (m_term_names_t t) fun r_1 => ((([x] : (List Str)) ++ r_1.1), r_1.2)
  | .put r p t c => letF (m_term_names_t t) fun r_2 => letF (m_place_names p) fun r_3 => ((r_3 ++ r_2.1), (([r] : (List Str)) ++ r_2.2))
  | .any x => (([x] : (List Str)), ([] : (List Str)))
  | .claim c => letF (m_claim_names c) fun r_4 => r_4
section
variable {P : Program} {w : World} {K : PySem.W.Frag} {mg : Str → Option Value} {base : Heap}
inductive Sp_simple_names : Spec
  | mk {statement_0 : Fst} (hf : FOk statement_0) : Sp_simple_names [.val (Fst.D statement_0)] [] (.val (.tuple [(.list ((m_simple_names statement_0).1.map PyData.str)), (.list ((m_simple_names statement_0).2.map PyData.str))])) []
theorem cal_simple_names (D : DefAt K mg "simple_names" s_simple_names P_simple_names) (C_term_names_t : Cal P w K mg base 2 "term_names" 1 Sp_term_names_t) (C_place_names : Cal P w K mg base 1 "place_names" 1 Sp_place_names) (C_claim_names : Cal P w K mg base 3 "claim_names" 1 Sp_claim_names) : Cal P w K mg base 4 "simple_names" 1 Sp_simple_names := by
  refine cal_def D sc_simple_names tb_simple_names (fun f cdv A outer s0 H E hr T TL svs cs sv cs1 hsp hl => ?_)
  cases hsp with
  | @mk statement_0 hf =>
  obtain ⟨R0, h⟩ : ∃ R0, (m_simple_names statement_0) = R0 := ⟨_, rfl⟩
  rw [h]
  unfold m_simple_names at h
  cases statement_0
  case set x t c =>
    dsimp only at h
    show SX _ _ _ [some (.val (.tuple [(.str ("set" : Str)), (.str x), (Trm.D t), (.int c)])), none] [] _
    refine sx_cons (s1_if (tv_eqS (ev_ixT (ev_name T rfl Lk.here rfl) ev_int rfl) ev_str) (fun _ => ?_) (fun z => absurd z (by decide)))
    replace h := letF_elim h
    obtain ⟨r_1, er_1, h⟩ := h
    have p2 := tnt_len t
    refine sx_cons (s1_set TL rfl (ev_as (t := .val (.tuple [(.list (r_1.1.map PyData.str)), (.list (r_1.2.map PyData.str))])) (cs2 := []) (ev_callM (κ := []) C_term_names_t hr (by first | decide | omega) rfl (av_cons (ev_ixT (ev_name T rfl Lk.here rfl) ev_int rfl) av_nil) Sel.nil (RenA.val RenA.nil) (Sp_term_names_t.mk (term_0 := t) ) SetA.nil (List.prefix_refl _) rfl (by decide) rfl) (by subst er_1; rfl) (by subst er_1; rfl)) (Put.there Put.here) ?_ rfl)
    show SX _ _ _ _ _ _
    have hz3 : (([x] : (List Str))).length + (r_1.1).length ≤ 1000000 := by wtm_at "g.sd"
    refine sx_cons (s1_ret (ev_tup (ad_cons (ev_is (t := .val (.list ((([x] : (List Str)) ++ r_1.1).map PyData.str))) (ev_catL (ds := ([x] : (List Str)).map PyData.str) (es := r_1.1.map PyData.str) (ev_lstV (ad_cons (ev_ixT (ev_name T rfl Lk.here rfl) ev_int rfl) ad_nil) rfl) (ev_ixT (ev_name T rfl (Lk.there Lk.here) rfl) ev_int rfl) IsL.val IsL.val (by simpa only [List.length_map] using hz3)) (by rw [← List.map_append])) (ad_cons (ev_ixT (ev_name T rfl (Lk.there Lk.here) rfl) ev_int rfl) ad_nil)) rfl) ?_)
    show RetOk _ _ _ _ _
    subst h
    exact ret_val rfl rfl rfl (by wtm_at "d.lt")
  case put r p t c =>
    dsimp only at h
    show SX _ _ _ [some (.val (.tuple [(.str ("put" : Str)), (.str r), (.tuple [(.str p.1), (.int p.2)]), (Trm.D t), (.int c)])), none] [] _
    refine sx_cons (s1_if (tv_eqS (ev_ixT (ev_name T rfl Lk.here rfl) ev_int rfl) ev_str) (fun z => absurd z (by decide)) (fun _ => ?_))
    refine sx_nil ?_
    show SX _ _ _ _ _ _
    refine sx_cons (s1_if (tv_eqS (ev_ixT (ev_name T rfl Lk.here rfl) ev_int rfl) ev_str) (fun _ => ?_) (fun z => absurd z (by decide)))
    replace h := letF_elim h
    obtain ⟨r_2, er_2, h⟩ := h
    have p6 := tnt_len t
    refine sx_cons (s1_set TL rfl (ev_as (t := .val (.tuple [(.list (r_2.1.map PyData.str)), (.list (r_2.2.map PyData.str))])) (cs2 := []) (ev_callM (κ := []) C_term_names_t hr (by first | decide | omega) rfl (av_cons (ev_ixT (ev_name T rfl Lk.here rfl) ev_int rfl) av_nil) Sel.nil (RenA.val RenA.nil) (Sp_term_names_t.mk (term_0 := t) ) SetA.nil (List.prefix_refl _) rfl (by decide) rfl) (by subst er_2; rfl) (by subst er_2; rfl)) (Put.there Put.here) ?_ rfl)
    show SX _ _ _ _ _ _
    replace h := letF_elim h
    obtain ⟨r_3, er_3, h⟩ := h
    have p7 := pn_len p
    have hz8 : (r_3).length + (r_2.1).length ≤ 1000000 := by wtm_at "g.sd"
    have hz9 : (([r] : (List Str))).length + (r_2.2).length ≤ 1000000 := by wtm_at "g.sd"
    refine sx_cons (s1_ret (ev_tup (ad_cons (ev_is (t := .val (.list ((r_3 ++ r_2.1).map PyData.str))) (ev_catL (ds := r_3.map PyData.str) (es := r_2.1.map PyData.str) (ev_as (t := .val (.list (r_3.map PyData.str))) (cs2 := []) (ev_callM (κ := []) C_place_names hr (by first | decide | omega) rfl (av_cons (ev_ixT (ev_name T rfl Lk.here rfl) ev_int rfl) av_nil) Sel.nil (RenA.val RenA.nil) (Sp_place_names.mk (place_0 := p) ) SetA.nil (List.prefix_refl _) rfl (by decide) rfl) (by subst er_3; rfl) (by subst er_3; rfl)) (ev_ixT (ev_name T rfl (Lk.there Lk.here) rfl) ev_int rfl) IsL.val IsL.val (by simpa only [List.length_map] using hz8)) (by rw [← List.map_append])) (ad_cons (ev_is (t := .val (.list ((([r] : (List Str)) ++ r_2.2).map PyData.str))) (ev_catL (ds := ([r] : (List Str)).map PyData.str) (es := r_2.2.map PyData.str) (ev_lstV (ad_cons (ev_ixT (ev_name T rfl Lk.here rfl) ev_int rfl) ad_nil) rfl) (ev_ixT (ev_name T rfl (Lk.there Lk.here) rfl) ev_int rfl) IsL.val IsL.val (by simpa only [List.length_map] using hz9)) (by rw [← List.map_append])) ad_nil)) rfl) ?_)
    show RetOk _ _ _ _ _
    subst h
    exact ret_val rfl rfl rfl (by wtm_at "d.lt")
  case any x =>
    dsimp only at h
    show SX _ _ _ [some (.val (.tuple [(.str ("any" : Str)), (.str x)])), none] [] _
    refine sx_cons (s1_if (tv_eqS (ev_ixT (ev_name T rfl Lk.here rfl) ev_int rfl) ev_str) (fun z => absurd z (by decide)) (fun _ => ?_))
    refine sx_nil ?_
    show SX _ _ _ _ _ _
    refine sx_cons (s1_if (tv_eqS (ev_ixT (ev_name T rfl Lk.here rfl) ev_int rfl) ev_str) (fun z => absurd z (by decide)) (fun _ => ?_))
    refine sx_nil ?_
    show SX _ _ _ _ _ _
    refine sx_cons (s1_if (tv_eqS (ev_ixT (ev_name T rfl Lk.here rfl) ev_int rfl) ev_str) (fun _ => ?_) (fun z => absurd z (by decide)))
    refine sx_cons (s1_ret (ev_tup (ad_cons (ev_lstV (ad_cons (ev_ixT (ev_name T rfl Lk.here rfl) ev_int rfl) ad_nil) rfl) (ad_cons (ev_lstV ad_nil rfl) ad_nil)) rfl) ?_)
    show RetOk _ _ _ _ _
    subst h
    exact ret_val rfl rfl rfl (by wtm_at "d.lt")
  case claim c =>
    dsimp only at h
    show SX _ _ _ [some (.val (.tuple [(.str ("claim" : Str)), (Clm.D c)])), none] [] _
    refine sx_cons (s1_if (tv_eqS (ev_ixT (ev_name T rfl Lk.here rfl) ev_int rfl) ev_str) (fun z => absurd z (by decide)) (fun _ => ?_))
    refine sx_nil ?_
    show SX _ _ _ _ _ _
    refine sx_cons (s1_if (tv_eqS (ev_ixT (ev_name T rfl Lk.here rfl) ev_int rfl) ev_str) (fun z => absurd z (by decide)) (fun _ => ?_))
    refine sx_nil ?_
    show SX _ _ _ _ _ _
    refine sx_cons (s1_if (tv_eqS (ev_ixT (ev_name T rfl Lk.here rfl) ev_int rfl) ev_str) (fun z => absurd z (by decide)) (fun _ => ?_))
    refine sx_nil ?_
    show SX _ _ _ _ _ _
    refine sx_cons (s1_if (tv_eqS (ev_ixT (ev_name T rfl Lk.here rfl) ev_int rfl) ev_str) (fun _ => ?_) (fun z => absurd z (by decide)))
    replace h := letF_elim h
    obtain ⟨r_4, er_4, h⟩ := h
    have p17 := cn_len c
    refine sx_cons (s1_ret (ev_as (t := .val (.tuple [(.list (r_4.1.map PyData.str)), (.list (r_4.2.map PyData.str))])) (cs2 := []) (ev_callM (κ := []) C_claim_names hr (by first | decide | omega) rfl (av_cons (ev_ixT (ev_name T rfl Lk.here rfl) ev_int rfl) av_nil) Sel.nil (RenA.val RenA.nil) (Sp_claim_names.mk (claim_0 := c) ) SetA.nil (List.prefix_refl _) rfl (by decide) rfl) (by subst er_4; rfl) (by subst er_4; rfl)) ?_)
    show RetOk _ _ _ _ _
    subst h
    exact ret_val rfl rfl rfl (by wtm_at "d.lt")
end
theorem sn_len {s : Fst} (h : FOk s) : (m_simple_names s).1.length ≤ 6 ∧ (m_simple_names s).2.length ≤ 6 := by
  cases s with
  | set x t c =>
    have h1 := tnt_len t
    show ([x] ++ (m_term_names_t t).1 : List Str).length ≤ 6 ∧ (m_term_names_t t).2.length ≤ 6
    rw [List.length_append, List.length_singleton]
    omega
  | put r p t c =>
    have h1 := tnt_len t
    have h2 := pn_len p
    show (m_place_names p ++ (m_term_names_t t).1 : List Str).length ≤ 6 ∧ ([r] ++ (m_term_names_t t).2 : List Str).length ≤ 6
    rw [List.length_append, List.length_append, List.length_singleton]
    omega
  | any x => exact ⟨Nat.le_of_ble_eq_true rfl, Nat.le_of_ble_eq_true rfl⟩
  | claim c =>
    have h1 := cn_len c
    show (m_claim_names c).1.length ≤ 6 ∧ (m_claim_names c).2.length ≤ 6
    omega
theorem some_len {r x : List Str × List Str} (hx : x ∈ (([] : List (List Str × List Str)) ++ [r])) (h : r.1.length ≤ 6 ∧ r.2.length ≤ 6) : x.1.length ≤ 6 ∧ x.2.length ≤ 6 := by
  rw [List.nil_append, List.mem_singleton] at hx
  rw [hx]
  exact h
theorem forL_of {α σ ρ : Type} {body : α → σ → (σ → ρ) → ρ} {g : σ → α → σ} (hb : ∀ x s n, body x s n = n (g s x)) (k : σ → ρ) : ∀ (l : List α) (s : σ), forL body k l s = k (l.foldl g s)
  | [], _ => rfl
  | x :: l, s => by
    show body x s (fun s' => forL body k l s') = _
    rw [hb]
    exact forL_of hb k l _
theorem foldl_two {α β : Type} (f g : α → List β) : ∀ (l : List α) (s t : List β), l.foldl (fun (q : List β × List β) x => (q.1 ++ f x, q.2 ++ g x)) (s, t) = (s ++ l.flatMap f, t ++ l.flatMap g)
  | [], s, t => by simp
  | x :: l, s, t => by
    rw [List.foldl_cons, foldl_two f g l, List.flatMap_cons, List.flatMap_cons, List.append_assoc, List.append_assoc]
theorem foldl_one {α β : Type} (f : α → List β) : ∀ (l : List α) (s : List β), l.foldl (fun (q : List β) x => q ++ f x) s = s ++ l.flatMap f
  | [], s => by simp
  | x :: l, s => by
    rw [List.foldl_cons, foldl_one f l, List.flatMap_cons, List.append_assoc]
theorem flat_len {α β : Type} {f : α → List β} {k : Nat} : ∀ {l : List α}, (∀ x ∈ l, (f x).length ≤ k) → (l.flatMap f).length ≤ k * l.length
  | [], _ => by simp
  | x :: l, h => by
    have h1 := h x List.mem_cons_self
    have h2 := flat_len (l := l) fun y hy => h y (List.mem_cons_of_mem _ hy)
    rw [List.flatMap_cons, List.length_append, List.length_cons, Nat.mul_succ]
    omega
def m_body_names (body_0 : (List Fst)) : ((List Str) × (List Str)) := forL (fun (x_3 : Fst) (s_4 : ((List Str) × (List Str))) n_1 => (match x_3 with | .set zx_3 zt_4 zc_5 => letF (m_simple_names (Fst.set zx_3 zt_4 zc_5)) fun r_5 => forL (fun (x_9 : ((List Str) × (List Str))) (s_10 : ((List Str) × (List Str))) n_2 => n_2 ((s_10.1 ++ x_9.1), (s_10.2 ++ x_9.2))) (fun s_10 : ((List Str) × (List Str)) => n_1 (s_10.1, s_10.2)) (([] : (List ((List Str) × (List Str)))) ++ [r_5]) (s_4.1, s_4.2) | .put zr_11 zp_12 zt_13 zc_14 => letF (m_simple_names (Fst.put zr_11 zp_12 zt_13 zc_14)) fun r_11 => forL (fun (x_15 : ((List Str) × (List Str))) (s_16 : ((List Str) × (List Str))) n_3 => n_3 ((s_16.1 ++ x_15.1), (s_16.2 ++ x_15.2))) (fun s_16 : ((List Str) × (List Str)) => n_1 (s_16.1, s_16.2)) (([] : (List ((List Str) × (List Str)))) ++ [r_11]) (s_4.1, s_4.2) | .any zx_20 => letF (m_simple_names (Fst.any zx_20)) fun r_17 => forL (fun (x_21 : ((List Str) × (List Str))) (s_22 : ((List Str) × (List Str))) n_4 => n_4 ((s_22.1 ++ x_21.1), (s_22.2 ++ x_21.2))) (fun s_22 : ((List Str) × (List Str)) => n_1 (s_22.1, s_22.2)) (([] : (List ((List Str) × (List Str)))) ++ [r_17]) (s_4.1, s_4.2) | .claim zc_26 => letF (m_simple_names (Fst.claim zc_26)) fun r_23 => forL (fun (x_27 : ((List Str) × (List Str))) (s_28 : ((List Str) × (List Str))) n_5 => n_5 ((s_28.1 ++ x_27.1), (s_28.2 ++ x_27.2))) (fun s_28 : ((List Str) × (List Str)) => n_1 (s_28.1, s_28.2)) (([] : (List ((List Str) × (List Str)))) ++ [r_23]) (s_4.1, s_4.2))) (fun s_4 : ((List Str) × (List Str)) => (s_4.1, s_4.2)) body_0 (([] : (List Str)), ([] : (List Str)))
section
variable {P : Program} {w : World} {K : PySem.W.Frag} {mg : Str → Option Value} {base : Heap}
inductive Sp_body_names : Spec
  | mk {body_0 : (List Fst)} (hb : body_0.length ≤ 40) (hbo : ∀ z ∈ body_0, FOk z) : Sp_body_names [.val (.tuple (body_0.map Fst.D))] [] (.val (.tuple [(.list ((m_body_names body_0).1.map PyData.str)), (.list ((m_body_names body_0).2.map PyData.str))])) []
theorem cal_body_names (D : DefAt K mg "body_names" s_body_names P_body_names) (C_simple_names : Cal P w K mg base 4 "simple_names" 1 Sp_simple_names) : Cal P w K mg base 5 "body_names" 1 Sp_body_names := by
  refine cal_def D sc_body_names tb_body_names (fun f cdv A outer s0 H E hr T TL svs cs sv cs1 hsp hl => ?_)
  cases hsp with
  | @mk body_0 hb hbo =>
  obtain ⟨R0, h⟩ : ∃ R0, (m_body_names body_0) = R0 := ⟨_, rfl⟩
  rw [h]
  unfold m_body_names at h
  show SX _ _ _ [some (.val (.tuple (body_0.map Fst.D))), none, none, none, none, none, none, none] [] _
  refine sx_cons (s1_set TL rfl (ev_lstC (ss := []) av_nil AppC.nil rfl) (Put.there Put.here) ?_ rfl)
  show SX _ _ _ _ _ _
  refine sx_cons (s1_set TL rfl (ev_lstC (ss := []) av_nil (AppC.cons AppC.nil) rfl) (Put.there (Put.there Put.here)) ?_ rfl)
  show SX _ _ _ _ _ _
  refine' sx_cons ?lp2
  refine' s1_forK body_0 (fun x => SV.val (Fst.D x)) _ _ R0 (([] : (List Str)), ([] : (List Str))) (fun l_1 (s_4 : ((List Str) × (List Str))) => (s_4.1.length + 10 * l_1.length ≤ 400 ∧ s_4.2.length + 10 * l_1.length ≤ 400)) h PassesOwn.never rfl (iv_mapC (iv_tup (ds := body_0.map Fst.D) (ev_name T rfl Lk.here rfl))) ?j02 (fun s_4 : ((List Str) × (List Str)) => [some (.val (.tuple (body_0.map Fst.D))), some (.cell 0), some (.cell 1), none, none, none, none, none]) (fun s_4 : ((List Str) × (List Str)) => [(.lst ((s_4.1.map PyData.str).map SV.val)), (.lst ((s_4.2.map PyData.str).map SV.val))]) (Le.same (Le.same (Le.same (Le.lose (Le.lose (Le.lose (Le.lose (Le.lose Le.nil)))))))) rfl (fun _ => trivial) ?tu2 ?dn2
  case j02 => wtm_at "g.inv"
  case tu2 =>
    clear h
    rintro x_3 l_1 ⟨c_1, c_2⟩ n_1 hm1 hJ1 h
    have hm1p := hm1
    have hm1 := mem_mid hm1
    try dsimp only at h hJ1
    have hfo := hbo _ hm1
    refine gx_name TL rfl (Put.there (Put.there (Put.there Put.here))) ?_ rfl
    show SX _ _ _ [some (.val (.tuple (body_0.map Fst.D))), some (.cell 0), some (.cell 1), some (.val (Fst.D x_3)), none, none, none, none] [(.lst ((c_1.map PyData.str).map SV.val)), (.lst ((c_2.map PyData.str).map SV.val))] _
    cases x_3 with
    | set zx_3 zt_4 zc_5 =>
      try dsimp only at h
      show SX _ _ _ [some (.val (.tuple (body_0.map Fst.D))), some (.cell 0), some (.cell 1), some (.val (.tuple [(.str ("set" : Str)), (.str zx_3), (Trm.D zt_4), (.int zc_5)])), none, none, none, none] [(.lst ((c_1.map PyData.str).map SV.val)), (.lst ((c_2.map PyData.str).map SV.val))] _
      refine sx_cons (s1_set TL rfl (ev_lstC (ss := []) av_nil (AppC.cons (AppC.cons AppC.nil)) rfl) (Put.there (Put.there (Put.there (Put.there Put.here)))) ?_ rfl)
      show SX _ _ _ _ _ _
      refine sx_cons (s1_if (tv_w (wv_or (tv_eqS (ev_ixT (ev_name T rfl (Lk.there (Lk.there (Lk.there Lk.here))) rfl) ev_int rfl) ev_str) (fun hk6 => (by
        have hk6x := hk6
        try simp only [Bool.and_eq_true, Bool.or_eq_true, Bool.and_eq_false_iff, Bool.or_eq_false_iff, decide_eq_true_eq, decide_eq_false_iff_not, Bool.not_eq_true', Bool.not_eq_false', Bool.not_eq_eq_eq_not, Bool.not_true, Bool.not_false] at hk6x
        exact (wv_or1 (tv_eqS (ev_ixT (ev_name T rfl (Lk.there (Lk.there (Lk.there Lk.here))) rfl) ev_int rfl) ev_str)))))) (fun z => absurd z (by decide)) (fun _ => ?_))
      replace h := letF_elim h
      obtain ⟨r_5, er_5, h⟩ := h
      have p8 := sn_len (s := (Fst.set zx_3 zt_4 zc_5)) (by wtm_at "g.pre")
      refine sx_cons (s1_expr (ev_appT (f := e_tup_lst_str_lst_str) (l := ([] : (List ((List Str) × (List Str))))) (y := r_5) (ev_name T rfl (Lk.there (Lk.there (Lk.there (Lk.there Lk.here)))) rfl) (ev_as (t := .val (.tuple [(.list (r_5.1.map PyData.str)), (.list (r_5.2.map PyData.str))])) (cs2 := [(.lst ((c_1.map PyData.str).map SV.val)), (.lst ((c_2.map PyData.str).map SV.val)), (.lst ((([] : (List ((List Str) × (List Str)))).map e_tup_lst_str_lst_str).map SV.val))]) (ev_callM (κ := []) C_simple_names hr (by first | decide | omega) rfl (av_cons (ev_name T rfl (Lk.there (Lk.there (Lk.there Lk.here))) rfl) av_nil) Sel.nil (RenA.val RenA.nil) (Sp_simple_names.mk (statement_0 := (Fst.set zx_3 zt_4 zc_5)) (by wtm_at "g.pre")) SetA.nil (List.prefix_refl _) rfl (by decide) rfl) (by subst er_5; rfl) (by subst er_5; rfl)) rfl rfl (PutC.there (PutC.there PutC.here)) (by wtm_at "g.sd")) ?_)
      show SX _ _ _ _ _ _
      refine sx_nil ?_
      show SX _ _ _ _ _ _
      refine' sx_cons ?lp10
      refine' s1_forK (([] : (List ((List Str) × (List Str)))) ++ [r_5]) (fun x => SV.val (e_tup_lst_str_lst_str x)) _ _ R0 (c_1, c_2) (fun l_2 (s_10 : ((List Str) × (List Str))) => (s_10.1.length + 10 * l_1.length + 6 * l_2.length ≤ 396 ∧ s_10.2.length + 10 * l_1.length + 6 * l_2.length ≤ 396)) h PassesOwn.never rfl (iv_mapC (iv_cell (ev_name T rfl (Lk.there (Lk.there (Lk.there (Lk.there Lk.here)))) rfl) rfl)) ?j010 (fun s_10 : ((List Str) × (List Str)) => [some (.val (.tuple (body_0.map Fst.D))), some (.cell 0), some (.cell 1), some (.val (.tuple [(.str ("set" : Str)), (.str zx_3), (Trm.D zt_4), (.int zc_5)])), some (.cell 2), none, none, none]) (fun s_10 : ((List Str) × (List Str)) => [(.lst ((s_10.1.map PyData.str).map SV.val)), (.lst ((s_10.2.map PyData.str).map SV.val)), (.lst (((([] : (List ((List Str) × (List Str)))) ++ [r_5]).map e_tup_lst_str_lst_str).map SV.val))]) (Le.same (Le.same (Le.same (Le.same (Le.same (Le.lose (Le.lose (Le.lose Le.nil)))))))) rfl (by intro _; rfl) ?tu10 ?dn10
      case j010 => wtm_at "g.inv"
      case tu10 =>
        clear h
        rintro x_9 l_2 ⟨c_6, c_7⟩ n_2 hm9 hJ2 h
        have hm9p := hm9
        have hm9 := mem_mid hm9
        try dsimp only at h hJ2
        have hx6 := some_len hm9 (by first | assumption | (subst_vars; assumption))
        have hx6a := hx6.1
        have hx6b := hx6.2
        refine gx_name TL rfl (Put.there (Put.there (Put.there (Put.there (Put.there Put.here))))) ?_ rfl
        show SX _ _ _ [some (.val (.tuple (body_0.map Fst.D))), some (.cell 0), some (.cell 1), some (.val (.tuple [(.str ("set" : Str)), (.str zx_3), (Trm.D zt_4), (.int zc_5)])), some (.cell 2), some (.val (.tuple [(.list (x_9.1.map PyData.str)), (.list (x_9.2.map PyData.str))])), none, none] [(.lst ((c_6.map PyData.str).map SV.val)), (.lst ((c_7.map PyData.str).map SV.val)), (.lst (((([] : (List ((List Str) × (List Str)))) ++ [r_5]).map e_tup_lst_str_lst_str).map SV.val))] _
        refine sx_cons (s1_expr (ev_extV (f := PyData.str) (l := c_6) (m := x_9.1) (ev_name T rfl (Lk.there Lk.here) rfl) (ev_ixT (ev_name T rfl (Lk.there (Lk.there (Lk.there (Lk.there (Lk.there Lk.here))))) rfl) ev_int rfl) rfl rfl IsL.val PutC.here (by wtm_at "g.sd")) ?_)
        show SX _ _ _ _ _ _
        refine sx_cons (s1_expr (ev_extV (f := PyData.str) (l := c_7) (m := x_9.2) (ev_name T rfl (Lk.there (Lk.there Lk.here)) rfl) (ev_ixT (ev_name T rfl (Lk.there (Lk.there (Lk.there (Lk.there (Lk.there Lk.here))))) rfl) ev_int rfl) rfl rfl IsL.val (PutC.there PutC.here) (by wtm_at "g.sd")) ?_)
        show SX _ _ _ _ _ _
        refine sx_nil ?_
        exact ⟨((c_6 ++ x_9.1), (c_7 ++ x_9.2)), h, (by wtm_at "g.inv"), (At.same (Le.same (Le.same (Le.same (Le.same (Le.same (Le.lose (Le.lose (Le.lose Le.nil)))))))))⟩
      case dn10 =>
        clear h
        rintro ⟨c_6, c_7⟩ hJ2 h slx hlx
        try dsimp only at h hJ2
        refine sx_weak hlx ?_
        show SX _ _ _ [some (.val (.tuple (body_0.map Fst.D))), some (.cell 0), some (.cell 1), some (.val (.tuple [(.str ("set" : Str)), (.str zx_3), (Trm.D zt_4), (.int zc_5)])), some (.cell 2), none, none, none] [(.lst ((c_6.map PyData.str).map SV.val)), (.lst ((c_7.map PyData.str).map SV.val)), (.lst (((([] : (List ((List Str) × (List Str)))) ++ [r_5]).map e_tup_lst_str_lst_str).map SV.val))] _
        refine sx_nil ?_
        exact ⟨(c_6, c_7), h, (by wtm_at "g.inv"), (At.drop (Le.same (Le.same (Le.same (Le.lose (Le.lose (Le.lose (Le.lose (Le.lose Le.nil)))))))) (by wtm_at "g.okS") (by wtm_at "d.lt") rfl)⟩
    | put zr_11 zp_12 zt_13 zc_14 =>
      try dsimp only at h
      show SX _ _ _ [some (.val (.tuple (body_0.map Fst.D))), some (.cell 0), some (.cell 1), some (.val (.tuple [(.str ("put" : Str)), (.str zr_11), (.tuple [(.str zp_12.1), (.int zp_12.2)]), (Trm.D zt_13), (.int zc_14)])), none, none, none, none] [(.lst ((c_1.map PyData.str).map SV.val)), (.lst ((c_2.map PyData.str).map SV.val))] _
      refine sx_cons (s1_set TL rfl (ev_lstC (ss := []) av_nil (AppC.cons (AppC.cons AppC.nil)) rfl) (Put.there (Put.there (Put.there (Put.there Put.here)))) ?_ rfl)
      show SX _ _ _ _ _ _
      refine sx_cons (s1_if (tv_w (wv_or (tv_eqS (ev_ixT (ev_name T rfl (Lk.there (Lk.there (Lk.there Lk.here))) rfl) ev_int rfl) ev_str) (fun hk15 => (by
        have hk15x := hk15
        try simp only [Bool.and_eq_true, Bool.or_eq_true, Bool.and_eq_false_iff, Bool.or_eq_false_iff, decide_eq_true_eq, decide_eq_false_iff_not, Bool.not_eq_true', Bool.not_eq_false', Bool.not_eq_eq_eq_not, Bool.not_true, Bool.not_false] at hk15x
        exact (wv_or1 (tv_eqS (ev_ixT (ev_name T rfl (Lk.there (Lk.there (Lk.there Lk.here))) rfl) ev_int rfl) ev_str)))))) (fun z => absurd z (by decide)) (fun _ => ?_))
      replace h := letF_elim h
      obtain ⟨r_11, er_11, h⟩ := h
      have p17 := sn_len (s := (Fst.put zr_11 zp_12 zt_13 zc_14)) (by wtm_at "g.pre")
      refine sx_cons (s1_expr (ev_appT (f := e_tup_lst_str_lst_str) (l := ([] : (List ((List Str) × (List Str))))) (y := r_11) (ev_name T rfl (Lk.there (Lk.there (Lk.there (Lk.there Lk.here)))) rfl) (ev_as (t := .val (.tuple [(.list (r_11.1.map PyData.str)), (.list (r_11.2.map PyData.str))])) (cs2 := [(.lst ((c_1.map PyData.str).map SV.val)), (.lst ((c_2.map PyData.str).map SV.val)), (.lst ((([] : (List ((List Str) × (List Str)))).map e_tup_lst_str_lst_str).map SV.val))]) (ev_callM (κ := []) C_simple_names hr (by first | decide | omega) rfl (av_cons (ev_name T rfl (Lk.there (Lk.there (Lk.there Lk.here))) rfl) av_nil) Sel.nil (RenA.val RenA.nil) (Sp_simple_names.mk (statement_0 := (Fst.put zr_11 zp_12 zt_13 zc_14)) (by wtm_at "g.pre")) SetA.nil (List.prefix_refl _) rfl (by decide) rfl) (by subst er_11; rfl) (by subst er_11; rfl)) rfl rfl (PutC.there (PutC.there PutC.here)) (by wtm_at "g.sd")) ?_)
      show SX _ _ _ _ _ _
      refine sx_nil ?_
      show SX _ _ _ _ _ _
      refine' sx_cons ?lp19
      refine' s1_forK (([] : (List ((List Str) × (List Str)))) ++ [r_11]) (fun x => SV.val (e_tup_lst_str_lst_str x)) _ _ R0 (c_1, c_2) (fun l_3 (s_16 : ((List Str) × (List Str))) => (s_16.1.length + 10 * l_1.length + 6 * l_3.length ≤ 396 ∧ s_16.2.length + 10 * l_1.length + 6 * l_3.length ≤ 396)) h PassesOwn.never rfl (iv_mapC (iv_cell (ev_name T rfl (Lk.there (Lk.there (Lk.there (Lk.there Lk.here)))) rfl) rfl)) ?j019 (fun s_16 : ((List Str) × (List Str)) => [some (.val (.tuple (body_0.map Fst.D))), some (.cell 0), some (.cell 1), some (.val (.tuple [(.str ("put" : Str)), (.str zr_11), (.tuple [(.str zp_12.1), (.int zp_12.2)]), (Trm.D zt_13), (.int zc_14)])), some (.cell 2), none, none, none]) (fun s_16 : ((List Str) × (List Str)) => [(.lst ((s_16.1.map PyData.str).map SV.val)), (.lst ((s_16.2.map PyData.str).map SV.val)), (.lst (((([] : (List ((List Str) × (List Str)))) ++ [r_11]).map e_tup_lst_str_lst_str).map SV.val))]) (Le.same (Le.same (Le.same (Le.same (Le.same (Le.lose (Le.lose (Le.lose Le.nil)))))))) rfl (by intro _; rfl) ?tu19 ?dn19
      case j019 => wtm_at "g.inv"
      case tu19 =>
        clear h
        rintro x_15 l_3 ⟨c_12, c_13⟩ n_3 hm18 hJ3 h
        have hm18p := hm18
        have hm18 := mem_mid hm18
        try dsimp only at h hJ3
        have hx6 := some_len hm18 (by first | assumption | (subst_vars; assumption))
        have hx6a := hx6.1
        have hx6b := hx6.2
        refine gx_name TL rfl (Put.there (Put.there (Put.there (Put.there (Put.there Put.here))))) ?_ rfl
        show SX _ _ _ [some (.val (.tuple (body_0.map Fst.D))), some (.cell 0), some (.cell 1), some (.val (.tuple [(.str ("put" : Str)), (.str zr_11), (.tuple [(.str zp_12.1), (.int zp_12.2)]), (Trm.D zt_13), (.int zc_14)])), some (.cell 2), some (.val (.tuple [(.list (x_15.1.map PyData.str)), (.list (x_15.2.map PyData.str))])), none, none] [(.lst ((c_12.map PyData.str).map SV.val)), (.lst ((c_13.map PyData.str).map SV.val)), (.lst (((([] : (List ((List Str) × (List Str)))) ++ [r_11]).map e_tup_lst_str_lst_str).map SV.val))] _
        refine sx_cons (s1_expr (ev_extV (f := PyData.str) (l := c_12) (m := x_15.1) (ev_name T rfl (Lk.there Lk.here) rfl) (ev_ixT (ev_name T rfl (Lk.there (Lk.there (Lk.there (Lk.there (Lk.there Lk.here))))) rfl) ev_int rfl) rfl rfl IsL.val PutC.here (by wtm_at "g.sd")) ?_)
        show SX _ _ _ _ _ _
        refine sx_cons (s1_expr (ev_extV (f := PyData.str) (l := c_13) (m := x_15.2) (ev_name T rfl (Lk.there (Lk.there Lk.here)) rfl) (ev_ixT (ev_name T rfl (Lk.there (Lk.there (Lk.there (Lk.there (Lk.there Lk.here))))) rfl) ev_int rfl) rfl rfl IsL.val (PutC.there PutC.here) (by wtm_at "g.sd")) ?_)
        show SX _ _ _ _ _ _
        refine sx_nil ?_
        exact ⟨((c_12 ++ x_15.1), (c_13 ++ x_15.2)), h, (by wtm_at "g.inv"), (At.same (Le.same (Le.same (Le.same (Le.same (Le.same (Le.lose (Le.lose (Le.lose Le.nil)))))))))⟩
      case dn19 =>
        clear h
        rintro ⟨c_12, c_13⟩ hJ3 h slx hlx
        try dsimp only at h hJ3
        refine sx_weak hlx ?_
        show SX _ _ _ [some (.val (.tuple (body_0.map Fst.D))), some (.cell 0), some (.cell 1), some (.val (.tuple [(.str ("put" : Str)), (.str zr_11), (.tuple [(.str zp_12.1), (.int zp_12.2)]), (Trm.D zt_13), (.int zc_14)])), some (.cell 2), none, none, none] [(.lst ((c_12.map PyData.str).map SV.val)), (.lst ((c_13.map PyData.str).map SV.val)), (.lst (((([] : (List ((List Str) × (List Str)))) ++ [r_11]).map e_tup_lst_str_lst_str).map SV.val))] _
        refine sx_nil ?_
        exact ⟨(c_12, c_13), h, (by wtm_at "g.inv"), (At.drop (Le.same (Le.same (Le.same (Le.lose (Le.lose (Le.lose (Le.lose (Le.lose Le.nil)))))))) (by wtm_at "g.okS") (by wtm_at "d.lt") rfl)⟩
    | any zx_20 =>
      try dsimp only at h
      show SX _ _ _ [some (.val (.tuple (body_0.map Fst.D))), some (.cell 0), some (.cell 1), some (.val (.tuple [(.str ("any" : Str)), (.str zx_20)])), none, none, none, none] [(.lst ((c_1.map PyData.str).map SV.val)), (.lst ((c_2.map PyData.str).map SV.val))] _
      refine sx_cons (s1_set TL rfl (ev_lstC (ss := []) av_nil (AppC.cons (AppC.cons AppC.nil)) rfl) (Put.there (Put.there (Put.there (Put.there Put.here)))) ?_ rfl)
      show SX _ _ _ _ _ _
      refine sx_cons (s1_if (tv_w (wv_or (tv_eqS (ev_ixT (ev_name T rfl (Lk.there (Lk.there (Lk.there Lk.here))) rfl) ev_int rfl) ev_str) (fun hk21 => (by
        have hk21x := hk21
        try simp only [Bool.and_eq_true, Bool.or_eq_true, Bool.and_eq_false_iff, Bool.or_eq_false_iff, decide_eq_true_eq, decide_eq_false_iff_not, Bool.not_eq_true', Bool.not_eq_false', Bool.not_eq_eq_eq_not, Bool.not_true, Bool.not_false] at hk21x
        exact (wv_or1 (tv_eqS (ev_ixT (ev_name T rfl (Lk.there (Lk.there (Lk.there Lk.here))) rfl) ev_int rfl) ev_str)))))) (fun z => absurd z (by decide)) (fun _ => ?_))
      replace h := letF_elim h
      obtain ⟨r_17, er_17, h⟩ := h
      have p23 := sn_len (s := (Fst.any zx_20)) (by wtm_at "g.pre")
      refine sx_cons (s1_expr (ev_appT (f := e_tup_lst_str_lst_str) (l := ([] : (List ((List Str) × (List Str))))) (y := r_17) (ev_name T rfl (Lk.there (Lk.there (Lk.there (Lk.there Lk.here)))) rfl) (ev_as (t := .val (.tuple [(.list (r_17.1.map PyData.str)), (.list (r_17.2.map PyData.str))])) (cs2 := [(.lst ((c_1.map PyData.str).map SV.val)), (.lst ((c_2.map PyData.str).map SV.val)), (.lst ((([] : (List ((List Str) × (List Str)))).map e_tup_lst_str_lst_str).map SV.val))]) (ev_callM (κ := []) C_simple_names hr (by first | decide | omega) rfl (av_cons (ev_name T rfl (Lk.there (Lk.there (Lk.there Lk.here))) rfl) av_nil) Sel.nil (RenA.val RenA.nil) (Sp_simple_names.mk (statement_0 := (Fst.any zx_20)) (by wtm_at "g.pre")) SetA.nil (List.prefix_refl _) rfl (by decide) rfl) (by subst er_17; rfl) (by subst er_17; rfl)) rfl rfl (PutC.there (PutC.there PutC.here)) (by wtm_at "g.sd")) ?_)
      show SX _ _ _ _ _ _
      refine sx_nil ?_
      show SX _ _ _ _ _ _
      refine' sx_cons ?lp25
      refine' s1_forK (([] : (List ((List Str) × (List Str)))) ++ [r_17]) (fun x => SV.val (e_tup_lst_str_lst_str x)) _ _ R0 (c_1, c_2) (fun l_4 (s_22 : ((List Str) × (List Str))) => (s_22.1.length + 10 * l_1.length + 6 * l_4.length ≤ 396 ∧ s_22.2.length + 10 * l_1.length + 6 * l_4.length ≤ 396)) h PassesOwn.never rfl (iv_mapC (iv_cell (ev_name T rfl (Lk.there (Lk.there (Lk.there (Lk.there Lk.here)))) rfl) rfl)) ?j025 (fun s_22 : ((List Str) × (List Str)) => [some (.val (.tuple (body_0.map Fst.D))), some (.cell 0), some (.cell 1), some (.val (.tuple [(.str ("any" : Str)), (.str zx_20)])), some (.cell 2), none, none, none]) (fun s_22 : ((List Str) × (List Str)) => [(.lst ((s_22.1.map PyData.str).map SV.val)), (.lst ((s_22.2.map PyData.str).map SV.val)), (.lst (((([] : (List ((List Str) × (List Str)))) ++ [r_17]).map e_tup_lst_str_lst_str).map SV.val))]) (Le.same (Le.same (Le.same (Le.same (Le.same (Le.lose (Le.lose (Le.lose Le.nil)))))))) rfl (by intro _; rfl) ?tu25 ?dn25
      case j025 => wtm_at "g.inv"
      case tu25 =>
        clear h
        rintro x_21 l_4 ⟨c_18, c_19⟩ n_4 hm24 hJ4 h
        have hm24p := hm24
        have hm24 := mem_mid hm24
        try dsimp only at h hJ4
        have hx6 := some_len hm24 (by first | assumption | (subst_vars; assumption))
        have hx6a := hx6.1
        have hx6b := hx6.2
        refine gx_name TL rfl (Put.there (Put.there (Put.there (Put.there (Put.there Put.here))))) ?_ rfl
        show SX _ _ _ [some (.val (.tuple (body_0.map Fst.D))), some (.cell 0), some (.cell 1), some (.val (.tuple [(.str ("any" : Str)), (.str zx_20)])), some (.cell 2), some (.val (.tuple [(.list (x_21.1.map PyData.str)), (.list (x_21.2.map PyData.str))])), none, none] [(.lst ((c_18.map PyData.str).map SV.val)), (.lst ((c_19.map PyData.str).map SV.val)), (.lst (((([] : (List ((List Str) × (List Str)))) ++ [r_17]).map e_tup_lst_str_lst_str).map SV.val))] _
        refine sx_cons (s1_expr (ev_extV (f := PyData.str) (l := c_18) (m := x_21.1) (ev_name T rfl (Lk.there Lk.here) rfl) (ev_ixT (ev_name T rfl (Lk.there (Lk.there (Lk.there (Lk.there (Lk.there Lk.here))))) rfl) ev_int rfl) rfl rfl IsL.val PutC.here (by wtm_at "g.sd")) ?_)
        show SX _ _ _ _ _ _
        refine sx_cons (s1_expr (ev_extV (f := PyData.str) (l := c_19) (m := x_21.2) (ev_name T rfl (Lk.there (Lk.there Lk.here)) rfl) (ev_ixT (ev_name T rfl (Lk.there (Lk.there (Lk.there (Lk.there (Lk.there Lk.here))))) rfl) ev_int rfl) rfl rfl IsL.val (PutC.there PutC.here) (by wtm_at "g.sd")) ?_)
        show SX _ _ _ _ _ _
        refine sx_nil ?_
        exact ⟨((c_18 ++ x_21.1), (c_19 ++ x_21.2)), h, (by wtm_at "g.inv"), (At.same (Le.same (Le.same (Le.same (Le.same (Le.same (Le.lose (Le.lose (Le.lose Le.nil)))))))))⟩
      case dn25 =>
        clear h
        rintro ⟨c_18, c_19⟩ hJ4 h slx hlx
        try dsimp only at h hJ4
        refine sx_weak hlx ?_
        show SX _ _ _ [some (.val (.tuple (body_0.map Fst.D))), some (.cell 0), some (.cell 1), some (.val (.tuple [(.str ("any" : Str)), (.str zx_20)])), some (.cell 2), none, none, none] [(.lst ((c_18.map PyData.str).map SV.val)), (.lst ((c_19.map PyData.str).map SV.val)), (.lst (((([] : (List ((List Str) × (List Str)))) ++ [r_17]).map e_tup_lst_str_lst_str).map SV.val))] _
        refine sx_nil ?_
        exact ⟨(c_18, c_19), h, (by wtm_at "g.inv"), (At.drop (Le.same (Le.same (Le.same (Le.lose (Le.lose (Le.lose (Le.lose (Le.lose Le.nil)))))))) (by wtm_at "g.okS") (by wtm_at "d.lt") rfl)⟩
    | claim zc_26 =>
      try dsimp only at h
      show SX _ _ _ [some (.val (.tuple (body_0.map Fst.D))), some (.cell 0), some (.cell 1), some (.val (.tuple [(.str ("claim" : Str)), (Clm.D zc_26)])), none, none, none, none] [(.lst ((c_1.map PyData.str).map SV.val)), (.lst ((c_2.map PyData.str).map SV.val))] _
      refine sx_cons (s1_set TL rfl (ev_lstC (ss := []) av_nil (AppC.cons (AppC.cons AppC.nil)) rfl) (Put.there (Put.there (Put.there (Put.there Put.here)))) ?_ rfl)
      show SX _ _ _ _ _ _
      refine sx_cons (s1_if (tv_w (wv_or (tv_eqS (ev_ixT (ev_name T rfl (Lk.there (Lk.there (Lk.there Lk.here))) rfl) ev_int rfl) ev_str) (fun hk27 => (by
        have hk27x := hk27
        try simp only [Bool.and_eq_true, Bool.or_eq_true, Bool.and_eq_false_iff, Bool.or_eq_false_iff, decide_eq_true_eq, decide_eq_false_iff_not, Bool.not_eq_true', Bool.not_eq_false', Bool.not_eq_eq_eq_not, Bool.not_true, Bool.not_false] at hk27x
        exact (wv_or1 (tv_eqS (ev_ixT (ev_name T rfl (Lk.there (Lk.there (Lk.there Lk.here))) rfl) ev_int rfl) ev_str)))))) (fun z => absurd z (by decide)) (fun _ => ?_))
      replace h := letF_elim h
      obtain ⟨r_23, er_23, h⟩ := h
      have p29 := sn_len (s := (Fst.claim zc_26)) (by wtm_at "g.pre")
      refine sx_cons (s1_expr (ev_appT (f := e_tup_lst_str_lst_str) (l := ([] : (List ((List Str) × (List Str))))) (y := r_23) (ev_name T rfl (Lk.there (Lk.there (Lk.there (Lk.there Lk.here)))) rfl) (ev_as (t := .val (.tuple [(.list (r_23.1.map PyData.str)), (.list (r_23.2.map PyData.str))])) (cs2 := [(.lst ((c_1.map PyData.str).map SV.val)), (.lst ((c_2.map PyData.str).map SV.val)), (.lst ((([] : (List ((List Str) × (List Str)))).map e_tup_lst_str_lst_str).map SV.val))]) (ev_callM (κ := []) C_simple_names hr (by first | decide | omega) rfl (av_cons (ev_name T rfl (Lk.there (Lk.there (Lk.there Lk.here))) rfl) av_nil) Sel.nil (RenA.val RenA.nil) (Sp_simple_names.mk (statement_0 := (Fst.claim zc_26)) (by wtm_at "g.pre")) SetA.nil (List.prefix_refl _) rfl (by decide) rfl) (by subst er_23; rfl) (by subst er_23; rfl)) rfl rfl (PutC.there (PutC.there PutC.here)) (by wtm_at "g.sd")) ?_)
      show SX _ _ _ _ _ _
      refine sx_nil ?_
      show SX _ _ _ _ _ _
      refine' sx_cons ?lp31
      refine' s1_forK (([] : (List ((List Str) × (List Str)))) ++ [r_23]) (fun x => SV.val (e_tup_lst_str_lst_str x)) _ _ R0 (c_1, c_2) (fun l_5 (s_28 : ((List Str) × (List Str))) => (s_28.1.length + 10 * l_1.length + 6 * l_5.length ≤ 396 ∧ s_28.2.length + 10 * l_1.length + 6 * l_5.length ≤ 396)) h PassesOwn.never rfl (iv_mapC (iv_cell (ev_name T rfl (Lk.there (Lk.there (Lk.there (Lk.there Lk.here)))) rfl) rfl)) ?j031 (fun s_28 : ((List Str) × (List Str)) => [some (.val (.tuple (body_0.map Fst.D))), some (.cell 0), some (.cell 1), some (.val (.tuple [(.str ("claim" : Str)), (Clm.D zc_26)])), some (.cell 2), none, none, none]) (fun s_28 : ((List Str) × (List Str)) => [(.lst ((s_28.1.map PyData.str).map SV.val)), (.lst ((s_28.2.map PyData.str).map SV.val)), (.lst (((([] : (List ((List Str) × (List Str)))) ++ [r_23]).map e_tup_lst_str_lst_str).map SV.val))]) (Le.same (Le.same (Le.same (Le.same (Le.same (Le.lose (Le.lose (Le.lose Le.nil)))))))) rfl (by intro _; rfl) ?tu31 ?dn31
      case j031 => wtm_at "g.inv"
      case tu31 =>
        clear h
        rintro x_27 l_5 ⟨c_24, c_25⟩ n_5 hm30 hJ5 h
        have hm30p := hm30
        have hm30 := mem_mid hm30
        try dsimp only at h hJ5
        have hx6 := some_len hm30 (by first | assumption | (subst_vars; assumption))
        have hx6a := hx6.1
        have hx6b := hx6.2
        refine gx_name TL rfl (Put.there (Put.there (Put.there (Put.there (Put.there Put.here))))) ?_ rfl
        show SX _ _ _ [some (.val (.tuple (body_0.map Fst.D))), some (.cell 0), some (.cell 1), some (.val (.tuple [(.str ("claim" : Str)), (Clm.D zc_26)])), some (.cell 2), some (.val (.tuple [(.list (x_27.1.map PyData.str)), (.list (x_27.2.map PyData.str))])), none, none] [(.lst ((c_24.map PyData.str).map SV.val)), (.lst ((c_25.map PyData.str).map SV.val)), (.lst (((([] : (List ((List Str) × (List Str)))) ++ [r_23]).map e_tup_lst_str_lst_str).map SV.val))] _
        refine sx_cons (s1_expr (ev_extV (f := PyData.str) (l := c_24) (m := x_27.1) (ev_name T rfl (Lk.there Lk.here) rfl) (ev_ixT (ev_name T rfl (Lk.there (Lk.there (Lk.there (Lk.there (Lk.there Lk.here))))) rfl) ev_int rfl) rfl rfl IsL.val PutC.here (by wtm_at "g.sd")) ?_)
        show SX _ _ _ _ _ _
        refine sx_cons (s1_expr (ev_extV (f := PyData.str) (l := c_25) (m := x_27.2) (ev_name T rfl (Lk.there (Lk.there Lk.here)) rfl) (ev_ixT (ev_name T rfl (Lk.there (Lk.there (Lk.there (Lk.there (Lk.there Lk.here))))) rfl) ev_int rfl) rfl rfl IsL.val (PutC.there PutC.here) (by wtm_at "g.sd")) ?_)
        show SX _ _ _ _ _ _
        refine sx_nil ?_
        exact ⟨((c_24 ++ x_27.1), (c_25 ++ x_27.2)), h, (by wtm_at "g.inv"), (At.same (Le.same (Le.same (Le.same (Le.same (Le.same (Le.lose (Le.lose (Le.lose Le.nil)))))))))⟩
      case dn31 =>
        clear h
        rintro ⟨c_24, c_25⟩ hJ5 h slx hlx
        try dsimp only at h hJ5
        refine sx_weak hlx ?_
        show SX _ _ _ [some (.val (.tuple (body_0.map Fst.D))), some (.cell 0), some (.cell 1), some (.val (.tuple [(.str ("claim" : Str)), (Clm.D zc_26)])), some (.cell 2), none, none, none] [(.lst ((c_24.map PyData.str).map SV.val)), (.lst ((c_25.map PyData.str).map SV.val)), (.lst (((([] : (List ((List Str) × (List Str)))) ++ [r_23]).map e_tup_lst_str_lst_str).map SV.val))] _
        refine sx_nil ?_
        exact ⟨(c_24, c_25), h, (by wtm_at "g.inv"), (At.drop (Le.same (Le.same (Le.same (Le.lose (Le.lose (Le.lose (Le.lose (Le.lose Le.nil)))))))) (by wtm_at "g.okS") (by wtm_at "d.lt") rfl)⟩
  case dn2 =>
    clear h
    rintro ⟨c_1, c_2⟩ hJ1 h slx hlx
    try dsimp only at h hJ1
    refine sx_weak hlx ?_
    show SX _ _ _ [some (.val (.tuple (body_0.map Fst.D))), some (.cell 0), some (.cell 1), none, none, none, none, none] [(.lst ((c_1.map PyData.str).map SV.val)), (.lst ((c_2.map PyData.str).map SV.val))] _
    refine sx_cons (s1_ret (ev_tup (ad_cons (ev_frz (d' := (.list (c_1.map PyData.str))) (ev_name T rfl (Lk.there Lk.here) rfl) (Nat.le_of_ble_eq_true rfl) rfl (by wtm_at "g.data") rfl PutC.here) (ad_cons (ev_frz (d' := (.list (c_2.map PyData.str))) (ev_name T rfl (Lk.there (Lk.there Lk.here)) rfl) (Nat.le_of_ble_eq_true rfl) rfl (by wtm_at "g.data") rfl (PutC.there PutC.here)) ad_nil)) rfl) ?_)
    show RetOk _ _ _ _ _
    subst h
    exact ret_val rfl rfl rfl (by wtm_at "d.lt")
end
theorem body_is (b : List Fst) : m_body_names b = (b.flatMap fun z => (m_simple_names z).1, b.flatMap fun z => (m_simple_names z).2) := by
  unfold m_body_names
  refine (forL_of (g := fun (q : List Str × List Str) z => (q.1 ++ (m_simple_names z).1, q.2 ++ (m_simple_names z).2)) (fun x s n => by cases x <;> rfl) _ _ _).trans ?_
  rw [foldl_two]
  rfl
theorem bn_len {b : List Fst} (h : ∀ z ∈ b, FOk z) (hl : b.length ≤ 40) : (m_body_names b).1.length ≤ 240 := by
  rw [body_is]
  have := flat_len (l := b) (f := fun z => (m_simple_names z).1) (k := 6) fun z hz => (sn_len (h z hz)).1
  show (b.flatMap fun z => (m_simple_names z).1).length ≤ 240
  omega
structure PrcOk (p : Str × Str × (List Str) × (List Str) × (List Clm) × (List Clm) × (List Fst)) : Prop where
  a : p.2.2.1.length ≤ 5
  r : p.2.2.2.1.length ≤ 5
  n : p.2.2.2.2.1.length ≤ 5
  g : p.2.2.2.2.2.1.length ≤ 5
  b : p.2.2.2.2.2.2.length ≤ 40
  o : ∀ z ∈ p.2.2.2.2.2.2, FOk z
def m_numbers_of (proc_0 : (Str × Str × (List Str) × (List Str) × (List Clm) × (List Clm) × (List Fst))) : (List Str) := letF (m_body_names proc_0.2.2.2.2.2.2) fun r_1 => forL (fun (x_3 : Clm) (s_4 : ((List Str))) n_1 => letF (m_claim_names x_3) fun r_5 => n_1 ((s_4 ++ r_5.1))) (fun s_4 : ((List Str)) => (sortT s_4)) (proc_0.2.2.2.2.1 ++ proc_0.2.2.2.2.2.1) (((proc_0.2.2.1 ++ ([("out" : Str)] : (List Str))) ++ r_1.1))
section
variable {P : Program} {w : World} {K : PySem.W.Frag} {mg : Str → Option Value} {base : Heap}
inductive Sp_numbers_of : Spec
  | mk {proc_0 : (Str × Str × (List Str) × (List Str) × (List Clm) × (List Clm) × (List Fst))} (hp : PrcOk proc_0) : Sp_numbers_of [.val (.tuple [(.str proc_0.1), (.str proc_0.2.1), (.tuple (proc_0.2.2.1.map PyData.str)), (.tuple (proc_0.2.2.2.1.map PyData.str)), (.tuple (proc_0.2.2.2.2.1.map Clm.D)), (.tuple (proc_0.2.2.2.2.2.1.map Clm.D)), (.tuple (proc_0.2.2.2.2.2.2.map Fst.D))])] [] (.val (.list ((m_numbers_of proc_0).map PyData.str))) []
theorem cal_numbers_of (D : DefAt K mg "numbers_of" s_numbers_of P_numbers_of) (C_body_names : Cal P w K mg base 5 "body_names" 1 Sp_body_names) (C_claim_names : Cal P w K mg base 3 "claim_names" 1 Sp_claim_names) (z_list : mg "list" = none) (z_set : mg "set" = none) (z_sorted : mg "sorted" = none) (G_OUT : Glo K mg "OUT" (.str ("out" : Str))) : Cal P w K mg base 6 "numbers_of" 1 Sp_numbers_of := by
  refine cal_def D sc_numbers_of tb_numbers_of (fun f cdv A outer s0 H E hr T TL svs cs sv cs1 hsp hl => ?_)
  cases hsp with
  | @mk proc_0 hp =>
  obtain ⟨R0, h⟩ : ∃ R0, (m_numbers_of proc_0) = R0 := ⟨_, rfl⟩
  rw [h]
  unfold m_numbers_of at h
  have hpa := hp.a
  have hpr := hp.r
  have hpn := hp.n
  have hpg := hp.g
  have hpb := hp.b
  have hpo := hp.o
  show SX _ _ _ [some (.val (.tuple [(.str proc_0.1), (.str proc_0.2.1), (.tuple (proc_0.2.2.1.map PyData.str)), (.tuple (proc_0.2.2.2.1.map PyData.str)), (.tuple (proc_0.2.2.2.2.1.map Clm.D)), (.tuple (proc_0.2.2.2.2.2.1.map Clm.D)), (.tuple (proc_0.2.2.2.2.2.2.map Fst.D))])), none, none] [] _
  replace h := letF_elim h
  obtain ⟨r_1, er_1, h⟩ := h
  have hz1 : (proc_0.2.2.1).length + (([("out" : Str)] : (List Str))).length ≤ 1000000 := by wtm_at "g.sd"
  have p2 := bn_len (b := proc_0.2.2.2.2.2.2) (by wtm_at "g.pre") (by wtm_at "g.pre")
  have hz3 : ((proc_0.2.2.1 ++ ([("out" : Str)] : (List Str)))).length + (r_1.1).length ≤ 1000000 := by wtm_at "g.sd"
  refine sx_cons (s1_set TL rfl (ev_as (t := .cell 0) (cs2 := [(.lst ((((proc_0.2.2.1 ++ ([("out" : Str)] : (List Str))) ++ r_1.1).map PyData.str).map SV.val))]) (ev_catC (xs := ((proc_0.2.2.1 ++ ([("out" : Str)] : (List Str))).map PyData.str).map SV.val) (ys := (r_1.1.map PyData.str).map SV.val) (ev_is (t := .val (.list ((proc_0.2.2.1 ++ ([("out" : Str)] : (List Str))).map PyData.str))) (ev_catL (ds := proc_0.2.2.1.map PyData.str) (es := ([("out" : Str)] : (List Str)).map PyData.str) (ev_listV (ds := proc_0.2.2.1.map PyData.str) z_list rfl (ev_ixT (ev_name T rfl Lk.here rfl) ev_int rfl) IsQ.t) (ev_lstV (ad_cons (ev_glo G_OUT rfl) ad_nil) rfl) IsL.val IsL.val (by simpa only [List.length_map] using hz1)) (by rw [← List.map_append])) (ev_ixT (ev_as (t := .val (.tuple [(.list (r_1.1.map PyData.str)), (.list (r_1.2.map PyData.str))])) (cs2 := []) (ev_callM (κ := []) C_body_names hr (by first | decide | omega) rfl (av_cons (ev_ixT (ev_name T rfl Lk.here rfl) ev_int rfl) av_nil) Sel.nil (RenA.val RenA.nil) (Sp_body_names.mk (body_0 := proc_0.2.2.2.2.2.2) (by wtm_at "g.pre") (by wtm_at "g.pre")) SetA.nil (List.prefix_refl _) rfl (by decide) rfl) (by subst er_1; rfl) (by subst er_1; rfl)) ev_int rfl) IsL.val IsL.val (by simpa only [List.length_map] using hz3) AppC.nil) rfl (by simp only [List.map_append])) (Put.there Put.here) ?_ rfl)
  show SX _ _ _ _ _ _
  have hz4 : (proc_0.2.2.2.2.1).length + (proc_0.2.2.2.2.2.1).length ≤ 1000000 := by wtm_at "g.sd"
  refine' sx_cons ?lp6
  refine' s1_forK (proc_0.2.2.2.2.1 ++ proc_0.2.2.2.2.2.1) (fun x => SV.val (Clm.D x)) _ _ R0 (((proc_0.2.2.1 ++ ([("out" : Str)] : (List Str))) ++ r_1.1)) (fun l_1 (s_4 : ((List Str))) => (s_4.length + 3 * l_1.length ≤ 280)) h PassesOwn.never rfl (iv_mapC (iv_tup (ds := (proc_0.2.2.2.2.1 ++ proc_0.2.2.2.2.2.1).map Clm.D) (ev_is (t := .val (.tuple ((proc_0.2.2.2.2.1 ++ proc_0.2.2.2.2.2.1).map Clm.D))) (ev_catT (ds := proc_0.2.2.2.2.1.map Clm.D) (es := proc_0.2.2.2.2.2.1.map Clm.D) (ev_ixT (ev_name T rfl Lk.here rfl) ev_int rfl) (ev_ixT (ev_name T rfl Lk.here rfl) ev_int rfl) (by simpa only [List.length_map] using hz4)) (by rw [← List.map_append])))) ?j06 (fun s_4 : ((List Str)) => [some (.val (.tuple [(.str proc_0.1), (.str proc_0.2.1), (.tuple (proc_0.2.2.1.map PyData.str)), (.tuple (proc_0.2.2.2.1.map PyData.str)), (.tuple (proc_0.2.2.2.2.1.map Clm.D)), (.tuple (proc_0.2.2.2.2.2.1.map Clm.D)), (.tuple (proc_0.2.2.2.2.2.2.map Fst.D))])), some (.cell 0), none]) (fun s_4 : ((List Str)) => [(.lst ((s_4.map PyData.str).map SV.val))]) (Le.same (Le.same (Le.lose Le.nil))) rfl (fun _ => trivial) ?tu6 ?dn6
  case j06 => wtm_at "g.inv"
  case tu6 =>
    clear h
    rintro x_3 l_1 c_2 n_1 hm5 hJ1 h
    have hm5p := hm5
    have hm5 := mem_mid hm5
    try dsimp only at h hJ1
    refine gx_name TL rfl (Put.there (Put.there Put.here)) ?_ rfl
    show SX _ _ _ [some (.val (.tuple [(.str proc_0.1), (.str proc_0.2.1), (.tuple (proc_0.2.2.1.map PyData.str)), (.tuple (proc_0.2.2.2.1.map PyData.str)), (.tuple (proc_0.2.2.2.2.1.map Clm.D)), (.tuple (proc_0.2.2.2.2.2.1.map Clm.D)), (.tuple (proc_0.2.2.2.2.2.2.map Fst.D))])), some (.cell 0), some (.val (Clm.D x_3))] [(.lst ((c_2.map PyData.str).map SV.val))] _
    replace h := letF_elim h
    obtain ⟨r_5, er_5, h⟩ := h
    have p7 := cn_len x_3
    refine sx_cons (s1_expr (ev_extV (f := PyData.str) (l := c_2) (m := r_5.1) (ev_name T rfl (Lk.there Lk.here) rfl) (ev_ixT (ev_as (t := .val (.tuple [(.list (r_5.1.map PyData.str)), (.list (r_5.2.map PyData.str))])) (cs2 := [(.lst ((c_2.map PyData.str).map SV.val))]) (ev_callM (κ := []) C_claim_names hr (by first | decide | omega) rfl (av_cons (ev_name T rfl (Lk.there (Lk.there Lk.here)) rfl) av_nil) Sel.nil (RenA.val RenA.nil) (Sp_claim_names.mk (claim_0 := x_3) ) SetA.nil (List.prefix_refl _) rfl (by decide) rfl) (by subst er_5; rfl) (by subst er_5; rfl)) ev_int rfl) rfl rfl IsL.val PutC.here (by wtm_at "g.sd")) ?_)
    show SX _ _ _ _ _ _
    refine sx_nil ?_
    exact ⟨((c_2 ++ r_5.1)), h, (by wtm_at "g.inv"), (At.same (Le.same (Le.same (Le.lose Le.nil))))⟩
  case dn6 =>
    clear h
    rintro c_2 hJ1 h slx hlx
    try dsimp only at h hJ1
    refine sx_weak hlx ?_
    show SX _ _ _ [some (.val (.tuple [(.str proc_0.1), (.str proc_0.2.1), (.tuple (proc_0.2.2.1.map PyData.str)), (.tuple (proc_0.2.2.2.1.map PyData.str)), (.tuple (proc_0.2.2.2.2.1.map Clm.D)), (.tuple (proc_0.2.2.2.2.2.1.map Clm.D)), (.tuple (proc_0.2.2.2.2.2.2.map Fst.D))])), some (.cell 0), none] [(.lst ((c_2.map PyData.str).map SV.val))] _
    refine sx_cons (s1_ret (ev_sortedSetT (zs := c_2) z_sorted z_set (ev_name T rfl (Lk.there Lk.here) rfl) (IsL.cell rfl) (by wtm_at "g.sd")) ?_)
    show RetOk _ _ _ _ _
    subst h
    exact ret_val rfl rfl rfl (by wtm_at "d.lt")
end
theorem str_len (a b : Str) : (a ++ b).length = a.length + b.length := Array.size_append
theorem dot_len : ("." : Str).length = 1 := by decide +kernel
theorem numbers_is (p : Str × Str × (List Str) × (List Str) × (List Clm) × (List Clm) × (List Fst)) : m_numbers_of p = sortT (((p.2.2.1 ++ [("out" : Str)]) ++ (m_body_names p.2.2.2.2.2.2).1) ++ (p.2.2.2.2.1 ++ p.2.2.2.2.2.1).flatMap fun c => (m_claim_names c).1) := by
  unfold m_numbers_of
  refine (forL_of (g := fun (q : List Str) c => q ++ (m_claim_names c).1) (fun x s n => rfl) _ _ _).trans ?_
  rw [foldl_one]
theorem no_len (p : Str × Str × (List Str) × (List Str) × (List Clm) × (List Clm) × (List Fst)) (h : PrcOk p) : (m_numbers_of p).length ≤ 280 := by
  rw [numbers_is]
  have h1 := bn_len h.o h.b
  have h2 := flat_len (l := p.2.2.2.2.1 ++ p.2.2.2.2.2.1) (f := fun c => (m_claim_names c).1) (k := 3) fun c _ => (cn_len c).1
  refine Nat.le_trans (sortT_len _) ?_
  have h3 := h.a
  have h4 := h.n
  have h5 := h.g
  rw [List.length_append] at h2
  rw [List.length_append, List.length_append, List.length_append, List.length_singleton]
  omega
local macro_rules | `(tactic| wtm_at "g.str") => `(tactic| first | omega | (simp only [str_len, dot_len]; omega) | fail)
def m_put_behind (ways_0 : (List (List Row))) (rows_0 : (List Row)) : (List (List Row)) := (ways_0.map fun (y_1 : (List Row)) => (y_1 ++ rows_0))
section
variable {P : Program} {w : World} {K : PySem.W.Frag} {mg : Str → Option Value} {base : Heap}
inductive Sp_put_behind : Spec
  | mk {ways_0 : (List (List Row))} {rows_0 : (List Row)} (hwn : ways_0.length ≤ 20) (hw : ∀ w ∈ ways_0, w.length ≤ 1000) (hr : rows_0.length ≤ 1000) : Sp_put_behind [.val (.list (ways_0.map e_lst_Row)), .val (.list (rows_0.map Row.D))] [] (.val (.list ((m_put_behind ways_0 rows_0).map e_lst_Row))) []
theorem cal_put_behind (D : DefAt K mg "put_behind" s_put_behind P_put_behind) : Cal P w K mg base 1 "put_behind" 2 Sp_put_behind := by
  refine cal_def D sc_put_behind tb_put_behind (fun f cdv A outer s0 H E hr T TL svs cs sv cs1 hsp hl => ?_)
  cases hsp with
  | @mk ways_0 rows_0 hwn hw hr =>
  obtain ⟨R0, h⟩ : ∃ R0, (m_put_behind ways_0 rows_0) = R0 := ⟨_, rfl⟩
  rw [h]
  unfold m_put_behind at h
  show SX _ _ _ [some (.val (.list (ways_0.map e_lst_Row))), some (.val (.list (rows_0.map Row.D))), none] [] _
  refine sx_cons (s1_ret (ev_LC rfl T.nd (blkOk_by (N := N_put_behind) (sc := defScope s_put_behind) (by decide +kernel)) (lc_as (es := (ways_0.map fun (y_1 : (List Row)) => (y_1 ++ rows_0)).map e_lst_Row) (lc_K (own := [("way", 2)]) ways_0 (fun x => SV.val (e_lst_Row x)) (by exact (iv_mapC (iv_listV (ds := ways_0.map e_lst_Row) (ev_name T rfl Lk.here rfl)))) (fun y_1 => (.list ((y_1 ++ rows_0).map Row.D))) (fun y_1 => [some (.val (.list (ways_0.map e_lst_Row))), some (.val (.list (rows_0.map Row.D))), some (.val (.list (y_1.map Row.D)))]) (fun _ => []) (by wtm_at "g.sd") (by first | exact trivial | rfl) (fun y_1 hm2 st H0 C0 cl fp => gw_name T.nd rfl (Put.there (Put.there Put.here)) (by decide) ⟨rfl, rfl⟩) (fun y_1 hm2 => ⟨fun st H0 C0 cl fp => (by
      have hm2r := hw y_1 hm2
      have hz1 : (y_1).length + (rows_0).length ≤ 1000000 := by wtm_at "g.sd"
      exact (ev_is (t := .val (.list ((y_1 ++ rows_0).map Row.D))) (ev_catL (ds := y_1.map Row.D) (es := rows_0.map Row.D) (ev_nameV T.nd rfl (Lk.there (Lk.there Lk.here))) (ev_nameV T.nd rfl (Lk.there Lk.here)) IsL.val IsL.val (by simpa only [List.length_map] using hz1)) (by rw [← List.map_append]))), AtC.same⟩)) (by rw [List.map_map]; rfl) rfl)) ?_)
  show RetOk _ _ _ _ _
  subst h
  exact ret_val rfl rfl rfl (by wtm_at "d.lt")
end
def m_first_way (proc_0 : (Str × Str × (List Str) × (List Str) × (List Clm) × (List Clm) × (List Fst))) : (List Row) := letF (m_numbers_of proc_0) fun r_1 => letF ((r_1.filter fun (y_2 : Str) => (!memB y_2 proc_0.2.2.1)).map fun (y_2 : Str) => (Row.set y_2 (Trm.is ("" : Str)) 0)) fun way_3 => (way_3 ++ (proc_0.2.2.2.2.1.map fun (y_4 : Clm) => (Row.know y_4)))
section
variable {P : Program} {w : World} {K : PySem.W.Frag} {mg : Str → Option Value} {base : Heap}
inductive Sp_first_way : Spec
  | mk {proc_0 : (Str × Str × (List Str) × (List Str) × (List Clm) × (List Clm) × (List Fst))} (hp : PrcOk proc_0) (hok : ∀ x ∈ proc_0.2.2.1, PyData.strOk x = true) : Sp_first_way [.val (.tuple [(.str proc_0.1), (.str proc_0.2.1), (.tuple (proc_0.2.2.1.map PyData.str)), (.tuple (proc_0.2.2.2.1.map PyData.str)), (.tuple (proc_0.2.2.2.2.1.map Clm.D)), (.tuple (proc_0.2.2.2.2.2.1.map Clm.D)), (.tuple (proc_0.2.2.2.2.2.2.map Fst.D))])] [] (.val (.list ((m_first_way proc_0).map Row.D))) []
theorem cal_first_way (D : DefAt K mg "first_way" s_first_way P_first_way) (C_numbers_of : Cal P w K mg base 6 "numbers_of" 1 Sp_numbers_of) : Cal P w K mg base 7 "first_way" 1 Sp_first_way := by
  refine cal_def D sc_first_way tb_first_way (fun f cdv A outer s0 H E hr T TL svs cs sv cs1 hsp hl => ?_)
  cases hsp with
  | @mk proc_0 hp hok =>
  obtain ⟨R0, h⟩ : ∃ R0, (m_first_way proc_0) = R0 := ⟨_, rfl⟩
  rw [h]
  unfold m_first_way at h
  have hpa := hp.a
  have hpr := hp.r
  have hpn := hp.n
  have hpg := hp.g
  have hpb := hp.b
  have hpo := hp.o
  show SX _ _ _ [some (.val (.tuple [(.str proc_0.1), (.str proc_0.2.1), (.tuple (proc_0.2.2.1.map PyData.str)), (.tuple (proc_0.2.2.2.1.map PyData.str)), (.tuple (proc_0.2.2.2.2.1.map Clm.D)), (.tuple (proc_0.2.2.2.2.2.1.map Clm.D)), (.tuple (proc_0.2.2.2.2.2.2.map Fst.D))])), none, none, none] [] _
  replace h := letF_elim h
  obtain ⟨r_1, er_1, h⟩ := h
  replace h := letF_elim h
  obtain ⟨way_3, eway_3, h⟩ := h
  have p1 := no_len proc_0 (by wtm_at "g.pre")
  have fl4 := List.length_filter_le (fun (y_2 : Str) => (!memB y_2 proc_0.2.2.1)) r_1
  refine sx_cons (s1_setLc TL rfl rfl (blkOk_by (N := N_first_way) (sc := defScope s_first_way) (by decide +kernel)) (lc_as (es := way_3.map Row.D) (lc_as (es := ((r_1.filter fun (y_2 : Str) => (!memB y_2 proc_0.2.2.1)).map fun (y_2 : Str) => (Row.set y_2 (Trm.is ("" : Str)) 0)).map Row.D) (lc_F (own := [("x", 2)]) r_1 (fun x => SV.val (PyData.str x)) (by exact (iv_mapC (iv_listV (ds := r_1.map PyData.str) (ev_as (t := .val (.list (r_1.map PyData.str))) (cs2 := []) (ev_callM (κ := []) C_numbers_of hr (by first | decide | omega) rfl (av_cons (ev_name T rfl Lk.here rfl) av_nil) Sel.nil (RenA.val RenA.nil) (Sp_numbers_of.mk (proc_0 := proc_0) (by wtm_at "g.pre")) SetA.nil (List.prefix_refl _) rfl (by decide) rfl) (by subst er_1; rfl) (by subst er_1; rfl))))) (fun y_2 => (!memB y_2 proc_0.2.2.1)) (fun y_2 => (Row.D (Row.set y_2 (Trm.is ("" : Str)) 0))) (fun y_2 => [some (.val (.tuple [(.str proc_0.1), (.str proc_0.2.1), (.tuple (proc_0.2.2.1.map PyData.str)), (.tuple (proc_0.2.2.2.1.map PyData.str)), (.tuple (proc_0.2.2.2.2.1.map Clm.D)), (.tuple (proc_0.2.2.2.2.2.1.map Clm.D)), (.tuple (proc_0.2.2.2.2.2.2.map Fst.D))])), none, some (.val (.str y_2)), none]) (fun _ => []) (by wtm_at "g.sd") (by first | exact trivial | rfl) (fun y_2 hm2 st H0 C0 cl fp => gw_name T.nd rfl (Put.there (Put.there Put.here)) (by decide) ⟨rfl, rfl⟩) (fun y_2 hm2 st H0 C0 cl fp => (by

      exact (tv_ninTS (y := y_2) (l := proc_0.2.2.1) (ev_nameV T.nd rfl (Lk.there (Lk.there Lk.here))) (ev_ixT (ev_nameV T.nd rfl Lk.here) ev_int rfl)))) (fun y_2 hm2 hq3 => ⟨fun st H0 C0 cl fp => (by
      have hq3x := hq3
      try simp only [Bool.and_eq_true, Bool.or_eq_true, Bool.and_eq_false_iff, Bool.or_eq_false_iff, decide_eq_true_eq, decide_eq_false_iff_not, Bool.not_eq_true', Bool.not_eq_false', Bool.not_eq_eq_eq_not, Bool.not_true, Bool.not_false] at hq3x
      exact (ev_tup (ad_cons ev_str (ad_cons (ev_nameV T.nd rfl (Lk.there (Lk.there Lk.here))) (ad_cons (ev_tup (ad_cons ev_str (ad_cons ev_str ad_nil)) rfl) (ad_cons ev_int ad_nil)))) rfl)), AtC.same⟩)) (by rw [List.map_map]; rfl) rfl) (by subst eway_3; rfl) rfl) (Put.there Put.here) ?_ rfl)
  show SX _ _ _ _ _ _
  have hz6 : (way_3).length + ((proc_0.2.2.2.2.1.map fun (y_4 : Clm) => (Row.know y_4))).length ≤ 1000000 := by wtm_at "g.sd"
  refine sx_cons (s1_ret (ev_is (t := .val (.list ((way_3 ++ (proc_0.2.2.2.2.1.map fun (y_4 : Clm) => (Row.know y_4))).map Row.D))) (ev_catL (ds := way_3.map Row.D) (es := (proc_0.2.2.2.2.1.map fun (y_4 : Clm) => (Row.know y_4)).map Row.D) (ev_name T rfl (Lk.there Lk.here) rfl) (ev_LC rfl T.nd (blkOk_by (N := N_first_way) (sc := defScope s_first_way) (by decide +kernel)) (lc_as (es := (proc_0.2.2.2.2.1.map fun (y_4 : Clm) => (Row.know y_4)).map Row.D) (lc_K (own := [("need", 3)]) proc_0.2.2.2.2.1 (fun x => SV.val (Clm.D x)) (by exact (iv_mapC (iv_tup (ds := proc_0.2.2.2.2.1.map Clm.D) (ev_ixT (ev_name T rfl Lk.here rfl) ev_int rfl)))) (fun y_4 => (Row.D (Row.know y_4))) (fun y_4 => [some (.val (.tuple [(.str proc_0.1), (.str proc_0.2.1), (.tuple (proc_0.2.2.1.map PyData.str)), (.tuple (proc_0.2.2.2.1.map PyData.str)), (.tuple (proc_0.2.2.2.2.1.map Clm.D)), (.tuple (proc_0.2.2.2.2.2.1.map Clm.D)), (.tuple (proc_0.2.2.2.2.2.2.map Fst.D))])), some (.val (.list (way_3.map Row.D))), none, some (.val (Clm.D y_4))]) (fun _ => []) (by wtm_at "g.sd") (by first | exact trivial | rfl) (fun y_4 hm5 st H0 C0 cl fp => gw_name T.nd rfl (Put.there (Put.there (Put.there Put.here))) (by decide) ⟨rfl, rfl⟩) (fun y_4 hm5 => ⟨fun st H0 C0 cl fp => (by

      exact (ev_tup (ad_cons ev_str (ad_cons (ev_nameV T.nd rfl (Lk.there (Lk.there (Lk.there Lk.here)))) ad_nil)) rfl)), AtC.same⟩)) (by rw [List.map_map]; rfl) rfl)) IsL.val IsL.val (by simpa only [List.length_map] using hz6)) (by rw [← List.map_append])) ?_)
  show RetOk _ _ _ _ _
  subst h
  exact ret_val rfl rfl rfl (by wtm_at "d.lt")
end
abbrev PrcT := Str × Str × (List Str) × (List Str) × (List Clm) × (List Clm) × (List Fst)
abbrev DutyT := Str × Str × (List Int) × Int × (List Row) × Clm
def dq (d : DutyT) : D5 := ([.str d.1, .str d.2.1, .tuple (d.2.2.1.map PyData.int)], .int d.2.2.2.1, d.2.2.2.2.1.map Row.D, d.2.2.2.2.2.D)
def growD (cs : Cs) (m : Nat) (xs : List SV) (ds : List DutyT) : Cs := grow cs m xs (ds.map dq)
theorem growD_snoc (cs : Cs) (m : Nat) (xs : List SV) (ds : List DutyT) (d : DutyT) : grow cs m xs (ds.map dq ++ [dq d]) = growD cs m xs (ds ++ [d]) := by
  unfold growD
  rw [List.map_append]
  rfl
theorem AppC.of3 (cs : Cs) (a b c : CC) : AppC ((cs ++ [a]) ++ [b]) c (cs.length + 2) (((cs ++ [a]) ++ [b]) ++ [c]) := by
  have := AppC.of ((cs ++ [a]) ++ [b]) c
  rw [List.length_append, List.length_append] at this
  exact this
theorem snocAt (cs : Cs) (a : CC) : (cs ++ [a])[cs.length]? = some a := by
  rw [List.getElem?_append_right (Nat.le_refl _), Nat.sub_self]
  rfl
def m_note_t (met_0 : (List (Str × Str × (List Int) × Int × (List Row) × Clm))) (head_0 : (Str × Str × (List Int))) (claims_0 : (List Clm)) (ways_0 : (List (List Row))) : (List (Str × Str × (List Int) × Int × (List Row) × Clm)) := forL (fun (x_2 : (List Row)) (s_3 : ((List (Str × Str × (List Int) × Int × (List Row) × Clm)))) n_1 => forL (fun (x_5 : (Nat × Clm)) (s_6 : ((List (Str × Str × (List Int) × Int × (List Row) × Clm)))) n_2 => match x_5 with | (x_5i, x_5v) => n_2 ((s_6 ++ [(head_0.1, head_0.2.1, head_0.2.2, (x_5i : Int), x_2, x_5v)]))) (fun s_6 : ((List (Str × Str × (List Int) × Int × (List Row) × Clm))) => n_1 (s_6)) (enumL claims_0) (s_3)) (fun s_3 : ((List (Str × Str × (List Int) × Int × (List Row) × Clm))) => (s_3)) ways_0 (met_0)
section
variable {P : Program} {w : World} {K : PySem.W.Frag} {mg : Str → Option Value} {base : Heap}
inductive Sp_note_t : Spec
  | mk {cs0 : Cs} {m0 : Nat} {xs0 : List SV} {met_0 : (List (Str × Str × (List Int) × Int × (List Row) × Clm))} {head_0 : (Str × Str × (List Int))} {claims_0 : (List Clm)} {ways_0 : (List (List Row))} (h0 : cs0[m0]? = some (.lst xs0)) (hx0 : xs0.length ≤ 1000) (hm : met_0.length ≤ 1000) (hc : claims_0.length ≤ 10) (hw : ways_0.length = 1) : Sp_note_t [.cell m0, .val (.tuple [(.str head_0.1), (.str head_0.2.1), (.tuple (head_0.2.2.map PyData.int))]), .val (.tuple (claims_0.map Clm.D)), .val (.list (ways_0.map e_lst_Row))] (growD cs0 m0 xs0 met_0) (.val .none) (growD cs0 m0 xs0 (m_note_t met_0 head_0 claims_0 ways_0))
theorem cal_note_t (D : DefAt K mg "note" s_note P_note) (z_enumerate : mg "enumerate" = none) (z_list : mg "list" = none) : Cal P w K mg base 1 "note" 4 Sp_note_t := by
  refine cal_def D sc_note tb_note (fun f cdv A outer s0 H E hr T TL svs cs sv cs1 hsp hl => ?_)
  cases hsp with
  | @mk cs0 m0 xs0 met_0 head_0 claims_0 ways_0 h0 hx0 hm hc hw =>
  obtain ⟨R0, h⟩ : ∃ R0, (m_note_t met_0 head_0 claims_0 ways_0) = R0 := ⟨_, rfl⟩
  rw [h]
  unfold m_note_t at h
  have hel := enumL_len claims_0
  show SX _ _ _ [some (.cell m0), some (.val (.tuple [(.str head_0.1), (.str head_0.2.1), (.tuple (head_0.2.2.map PyData.int))])), some (.val (.tuple (claims_0.map Clm.D))), some (.val (.list (ways_0.map e_lst_Row))), none, none, none] (growD cs0 m0 xs0 met_0) _
  refine' sx_cons ?lp2
  refine' s1_forK ways_0 (fun x => SV.val (e_lst_Row x)) _ _ R0 (met_0) (fun l_1 (s_3 : ((List (Str × Str × (List Int) × Int × (List Row) × Clm)))) => (s_3.length + 10 * l_1.length ≤ 1010)) h PassesOwn.never rfl (iv_mapC (iv_listV (ds := ways_0.map e_lst_Row) (ev_name T rfl (Lk.there (Lk.there (Lk.there Lk.here))) rfl))) ?j02 (fun s_3 : ((List (Str × Str × (List Int) × Int × (List Row) × Clm))) => [some (.cell m0), some (.val (.tuple [(.str head_0.1), (.str head_0.2.1), (.tuple (head_0.2.2.map PyData.int))])), some (.val (.tuple (claims_0.map Clm.D))), some (.val (.list (ways_0.map e_lst_Row))), none, none, none]) (fun s_3 : ((List (Str × Str × (List Int) × Int × (List Row) × Clm))) => (growD cs0 m0 xs0 s_3)) (Le.same (Le.same (Le.same (Le.same (Le.lose (Le.lose (Le.lose Le.nil))))))) rfl (fun _ => trivial) ?tu2 ?dn2
  case j02 => wtm_at "g.inv"
  case tu2 =>
    clear h
    rintro x_2 l_1 c_1 n_1 hm1 hJ1 h
    have hm1p := hm1
    have hm1 := mem_mid hm1
    try dsimp only at h hJ1
    refine gx_name TL rfl (Put.there (Put.there (Put.there (Put.there Put.here)))) ?_ rfl
    show SX _ _ _ [some (.cell m0), some (.val (.tuple [(.str head_0.1), (.str head_0.2.1), (.tuple (head_0.2.2.map PyData.int))])), some (.val (.tuple (claims_0.map Clm.D))), some (.val (.list (ways_0.map e_lst_Row))), some (.val (.list (x_2.map Row.D))), none, none] (growD cs0 m0 xs0 c_1) _
    refine' sx_cons ?lp4
    refine' s1_forK (enumL claims_0) (enP Clm.D) _ _ R0 (c_1) (fun l_2 (s_6 : ((List (Str × Str × (List Int) × Int × (List Row) × Clm)))) => (s_6.length + 1 * l_2.length ≤ (c_1).length + 1 * (enumL claims_0).length) ∧ (s_6.length + l_2.length + 10 * l_1.length ≤ 1010)) h PassesOwn.never rfl (iv_enumT (f := Clm.D) (l := claims_0) z_enumerate rfl (ev_name T rfl (Lk.there (Lk.there Lk.here)) rfl)) ?j04 (fun s_6 : ((List (Str × Str × (List Int) × Int × (List Row) × Clm))) => [some (.cell m0), some (.val (.tuple [(.str head_0.1), (.str head_0.2.1), (.tuple (head_0.2.2.map PyData.int))])), some (.val (.tuple (claims_0.map Clm.D))), some (.val (.list (ways_0.map e_lst_Row))), some (.val (.list (x_2.map Row.D))), none, none]) (fun s_6 : ((List (Str × Str × (List Int) × Int × (List Row) × Clm))) => (growD cs0 m0 xs0 s_6)) (Le.same (Le.same (Le.same (Le.same (Le.same (Le.lose (Le.lose Le.nil))))))) rfl (fun _ => trivial) ?tu4 ?dn4
    case j04 => wtm_at "g.inv"
    case tu4 =>
      clear h
      rintro ⟨x_5i, x_5v⟩ l_2 c_4 n_2 hm3 hJ2 h
      have hm3p := hm3
      have hm3 := mem_mid hm3
      have hm3r := enumL_lt hm3
      try dsimp only at h hJ2
      obtain ⟨hJ2_0, hJ2_1⟩ := hJ2
      refine gx_tup rfl (gxs_cons (gx_name TL rfl (Put.there (Put.there (Put.there (Put.there (Put.there Put.here))))) (gxs_cons (gx_name TL rfl (Put.there (Put.there (Put.there (Put.there (Put.there (Put.there Put.here)))))) (gxs_nil ?_) rfl)) rfl)) rfl
      show SX _ _ _ [some (.cell m0), some (.val (.tuple [(.str head_0.1), (.str head_0.2.1), (.tuple (head_0.2.2.map PyData.int))])), some (.val (.tuple (claims_0.map Clm.D))), some (.val (.list (ways_0.map e_lst_Row))), some (.val (.list (x_2.map Row.D))), some (.val (.int (x_5i : Int))), some (.val (Clm.D x_5v))] (growD cs0 m0 xs0 c_4) _
      refine sx_cons (s1_expr (ev_as (t := .val .none) (cs2 := growD cs0 m0 xs0 (c_4 ++ [(head_0.1, head_0.2.1, head_0.2.2, (x_5i : Int), x_2, x_5v)])) (ev_append (ev_name T rfl Lk.here rfl) (ev_catTC (ev_name T rfl (Lk.there Lk.here) rfl) (ev_tupC (av_cons (ev_name T rfl (Lk.there (Lk.there (Lk.there (Lk.there (Lk.there Lk.here))))) rfl) (av_cons (ev_listC z_list rfl (ev_name T rfl (Lk.there (Lk.there (Lk.there (Lk.there Lk.here)))) rfl) (IsQ.l IsL.val) (AppC.of _ _)) (av_cons (ev_name T rfl (Lk.there (Lk.there (Lk.there (Lk.there (Lk.there (Lk.there Lk.here)))))) rfl) av_nil))) (AppC.of _ _) rfl) (snocAt _ _) (by simp) (by simp) (Nat.le_of_ble_eq_true rfl) (AppC.of3 _ _ _ _)) (grow_at h0 _) (grow_at2 h0 _ _ _ _) (grow_snoc h0 (c_4.map dq) (dq (head_0.1, head_0.2.1, head_0.2.2, (x_5i : Int), x_2, x_5v))) (by rw [List.length_append, refs_len, List.length_map]; omega)) rfl (growD_snoc _ _ _ _ _)) ?_)
      show SX _ _ _ _ _ _
      refine sx_nil ?_
      exact ⟨((c_4 ++ [(head_0.1, head_0.2.1, head_0.2.2, (x_5i : Int), x_2, x_5v)])), h, (by wtm_at "g.inv"), (At.same (Le.same (Le.same (Le.same (Le.same (Le.same (Le.lose (Le.lose Le.nil))))))))⟩
    case dn4 =>
      clear h
      rintro c_4 hJ2 h slx hlx
      try dsimp only at h hJ2
      refine sx_weak hlx ?_
      obtain ⟨hJ2_0, hJ2_1⟩ := hJ2
      show SX _ _ _ [some (.cell m0), some (.val (.tuple [(.str head_0.1), (.str head_0.2.1), (.tuple (head_0.2.2.map PyData.int))])), some (.val (.tuple (claims_0.map Clm.D))), some (.val (.list (ways_0.map e_lst_Row))), some (.val (.list (x_2.map Row.D))), none, none] (growD cs0 m0 xs0 c_4) _
      refine sx_nil ?_
      exact ⟨(c_4), h, (by wtm_at "g.inv"), (At.same (Le.same (Le.same (Le.same (Le.same (Le.lose (Le.lose (Le.lose Le.nil))))))))⟩
  case dn2 =>
    clear h
    rintro c_1 hJ1 h slx hlx
    try dsimp only at h hJ1
    refine sx_weak hlx ?_
    show SX _ _ _ [some (.cell m0), some (.val (.tuple [(.str head_0.1), (.str head_0.2.1), (.tuple (head_0.2.2.map PyData.int))])), some (.val (.tuple (claims_0.map Clm.D))), some (.val (.list (ways_0.map e_lst_Row))), none, none, none] (growD cs0 m0 xs0 c_1) _
    refine sx_nil ?_
    show RetOk _ _ _ _ _
    subst h
    exact .all
end
def m_note_l (met_0 : (List (Str × Str × (List Int) × Int × (List Row) × Clm))) (head_0 : (Str × Str × (List Int))) (claims_0 : (List Clm)) (ways_0 : (List (List Row))) : (List (Str × Str × (List Int) × Int × (List Row) × Clm)) := forL (fun (x_2 : (List Row)) (s_3 : ((List (Str × Str × (List Int) × Int × (List Row) × Clm)))) n_1 => forL (fun (x_5 : (Nat × Clm)) (s_6 : ((List (Str × Str × (List Int) × Int × (List Row) × Clm)))) n_2 => match x_5 with | (x_5i, x_5v) => n_2 ((s_6 ++ [(head_0.1, head_0.2.1, head_0.2.2, (x_5i : Int), x_2, x_5v)]))) (fun s_6 : ((List (Str × Str × (List Int) × Int × (List Row) × Clm))) => n_1 (s_6)) (enumL claims_0) (s_3)) (fun s_3 : ((List (Str × Str × (List Int) × Int × (List Row) × Clm))) => (s_3)) ways_0 (met_0)
section
variable {P : Program} {w : World} {K : PySem.W.Frag} {mg : Str → Option Value} {base : Heap}
inductive Sp_note_l : Spec
  | mk {cs0 : Cs} {m0 : Nat} {xs0 : List SV} {met_0 : (List (Str × Str × (List Int) × Int × (List Row) × Clm))} {head_0 : (Str × Str × (List Int))} {claims_0 : (List Clm)} {ways_0 : (List (List Row))} (h0 : cs0[m0]? = some (.lst xs0)) (hx0 : xs0.length ≤ 1000) (hm : met_0.length ≤ 1000) (hc : claims_0.length ≤ 10) (hw : ways_0.length = 1) : Sp_note_l [.cell m0, .val (.tuple [(.str head_0.1), (.str head_0.2.1), (.tuple (head_0.2.2.map PyData.int))]), .val (.list (claims_0.map Clm.D)), .val (.list (ways_0.map e_lst_Row))] (growD cs0 m0 xs0 met_0) (.val .none) (growD cs0 m0 xs0 (m_note_l met_0 head_0 claims_0 ways_0))
theorem cal_note_l (D : DefAt K mg "note" s_note P_note) (z_enumerate : mg "enumerate" = none) (z_list : mg "list" = none) : Cal P w K mg base 1 "note" 4 Sp_note_l := by
  refine cal_def D sc_note tb_note (fun f cdv A outer s0 H E hr T TL svs cs sv cs1 hsp hl => ?_)
  cases hsp with
  | @mk cs0 m0 xs0 met_0 head_0 claims_0 ways_0 h0 hx0 hm hc hw =>
  obtain ⟨R0, h⟩ : ∃ R0, (m_note_l met_0 head_0 claims_0 ways_0) = R0 := ⟨_, rfl⟩
  rw [h]
  unfold m_note_l at h
  have hel := enumL_len claims_0
  show SX _ _ _ [some (.cell m0), some (.val (.tuple [(.str head_0.1), (.str head_0.2.1), (.tuple (head_0.2.2.map PyData.int))])), some (.val (.list (claims_0.map Clm.D))), some (.val (.list (ways_0.map e_lst_Row))), none, none, none] (growD cs0 m0 xs0 met_0) _
  refine' sx_cons ?lp2
  refine' s1_forK ways_0 (fun x => SV.val (e_lst_Row x)) _ _ R0 (met_0) (fun l_1 (s_3 : ((List (Str × Str × (List Int) × Int × (List Row) × Clm)))) => (s_3.length + 10 * l_1.length ≤ 1010)) h PassesOwn.never rfl (iv_mapC (iv_listV (ds := ways_0.map e_lst_Row) (ev_name T rfl (Lk.there (Lk.there (Lk.there Lk.here))) rfl))) ?j02 (fun s_3 : ((List (Str × Str × (List Int) × Int × (List Row) × Clm))) => [some (.cell m0), some (.val (.tuple [(.str head_0.1), (.str head_0.2.1), (.tuple (head_0.2.2.map PyData.int))])), some (.val (.list (claims_0.map Clm.D))), some (.val (.list (ways_0.map e_lst_Row))), none, none, none]) (fun s_3 : ((List (Str × Str × (List Int) × Int × (List Row) × Clm))) => (growD cs0 m0 xs0 s_3)) (Le.same (Le.same (Le.same (Le.same (Le.lose (Le.lose (Le.lose Le.nil))))))) rfl (fun _ => trivial) ?tu2 ?dn2
  case j02 => wtm_at "g.inv"
  case tu2 =>
    clear h
    rintro x_2 l_1 c_1 n_1 hm1 hJ1 h
    have hm1p := hm1
    have hm1 := mem_mid hm1
    try dsimp only at h hJ1
    refine gx_name TL rfl (Put.there (Put.there (Put.there (Put.there Put.here)))) ?_ rfl
    show SX _ _ _ [some (.cell m0), some (.val (.tuple [(.str head_0.1), (.str head_0.2.1), (.tuple (head_0.2.2.map PyData.int))])), some (.val (.list (claims_0.map Clm.D))), some (.val (.list (ways_0.map e_lst_Row))), some (.val (.list (x_2.map Row.D))), none, none] (growD cs0 m0 xs0 c_1) _
    refine' sx_cons ?lp4
    refine' s1_forK (enumL claims_0) (enP Clm.D) _ _ R0 (c_1) (fun l_2 (s_6 : ((List (Str × Str × (List Int) × Int × (List Row) × Clm)))) => (s_6.length + 1 * l_2.length ≤ (c_1).length + 1 * (enumL claims_0).length) ∧ (s_6.length + l_2.length + 10 * l_1.length ≤ 1010)) h PassesOwn.never rfl (iv_enumV (f := Clm.D) (l := claims_0) z_enumerate rfl (ev_name T rfl (Lk.there (Lk.there Lk.here)) rfl)) ?j04 (fun s_6 : ((List (Str × Str × (List Int) × Int × (List Row) × Clm))) => [some (.cell m0), some (.val (.tuple [(.str head_0.1), (.str head_0.2.1), (.tuple (head_0.2.2.map PyData.int))])), some (.val (.list (claims_0.map Clm.D))), some (.val (.list (ways_0.map e_lst_Row))), some (.val (.list (x_2.map Row.D))), none, none]) (fun s_6 : ((List (Str × Str × (List Int) × Int × (List Row) × Clm))) => (growD cs0 m0 xs0 s_6)) (Le.same (Le.same (Le.same (Le.same (Le.same (Le.lose (Le.lose Le.nil))))))) rfl (fun _ => trivial) ?tu4 ?dn4
    case j04 => wtm_at "g.inv"
    case tu4 =>
      clear h
      rintro ⟨x_5i, x_5v⟩ l_2 c_4 n_2 hm3 hJ2 h
      have hm3p := hm3
      have hm3 := mem_mid hm3
      have hm3r := enumL_lt hm3
      try dsimp only at h hJ2
      obtain ⟨hJ2_0, hJ2_1⟩ := hJ2
      refine gx_tup rfl (gxs_cons (gx_name TL rfl (Put.there (Put.there (Put.there (Put.there (Put.there Put.here))))) (gxs_cons (gx_name TL rfl (Put.there (Put.there (Put.there (Put.there (Put.there (Put.there Put.here)))))) (gxs_nil ?_) rfl)) rfl)) rfl
      show SX _ _ _ [some (.cell m0), some (.val (.tuple [(.str head_0.1), (.str head_0.2.1), (.tuple (head_0.2.2.map PyData.int))])), some (.val (.list (claims_0.map Clm.D))), some (.val (.list (ways_0.map e_lst_Row))), some (.val (.list (x_2.map Row.D))), some (.val (.int (x_5i : Int))), some (.val (Clm.D x_5v))] (growD cs0 m0 xs0 c_4) _
      refine sx_cons (s1_expr (ev_as (t := .val .none) (cs2 := growD cs0 m0 xs0 (c_4 ++ [(head_0.1, head_0.2.1, head_0.2.2, (x_5i : Int), x_2, x_5v)])) (ev_append (ev_name T rfl Lk.here rfl) (ev_catTC (ev_name T rfl (Lk.there Lk.here) rfl) (ev_tupC (av_cons (ev_name T rfl (Lk.there (Lk.there (Lk.there (Lk.there (Lk.there Lk.here))))) rfl) (av_cons (ev_listC z_list rfl (ev_name T rfl (Lk.there (Lk.there (Lk.there (Lk.there Lk.here)))) rfl) (IsQ.l IsL.val) (AppC.of _ _)) (av_cons (ev_name T rfl (Lk.there (Lk.there (Lk.there (Lk.there (Lk.there (Lk.there Lk.here)))))) rfl) av_nil))) (AppC.of _ _) rfl) (snocAt _ _) (by simp) (by simp) (Nat.le_of_ble_eq_true rfl) (AppC.of3 _ _ _ _)) (grow_at h0 _) (grow_at2 h0 _ _ _ _) (grow_snoc h0 (c_4.map dq) (dq (head_0.1, head_0.2.1, head_0.2.2, (x_5i : Int), x_2, x_5v))) (by rw [List.length_append, refs_len, List.length_map]; omega)) rfl (growD_snoc _ _ _ _ _)) ?_)
      show SX _ _ _ _ _ _
      refine sx_nil ?_
      exact ⟨((c_4 ++ [(head_0.1, head_0.2.1, head_0.2.2, (x_5i : Int), x_2, x_5v)])), h, (by wtm_at "g.inv"), (At.same (Le.same (Le.same (Le.same (Le.same (Le.same (Le.lose (Le.lose Le.nil))))))))⟩
    case dn4 =>
      clear h
      rintro c_4 hJ2 h slx hlx
      try dsimp only at h hJ2
      refine sx_weak hlx ?_
      obtain ⟨hJ2_0, hJ2_1⟩ := hJ2
      show SX _ _ _ [some (.cell m0), some (.val (.tuple [(.str head_0.1), (.str head_0.2.1), (.tuple (head_0.2.2.map PyData.int))])), some (.val (.list (claims_0.map Clm.D))), some (.val (.list (ways_0.map e_lst_Row))), some (.val (.list (x_2.map Row.D))), none, none] (growD cs0 m0 xs0 c_4) _
      refine sx_nil ?_
      exact ⟨(c_4), h, (by wtm_at "g.inv"), (At.same (Le.same (Le.same (Le.same (Le.same (Le.lose (Le.lose (Le.lose Le.nil))))))))⟩
  case dn2 =>
    clear h
    rintro c_1 hJ1 h slx hlx
    try dsimp only at h hJ1
    refine sx_weak hlx ?_
    show SX _ _ _ [some (.cell m0), some (.val (.tuple [(.str head_0.1), (.str head_0.2.1), (.tuple (head_0.2.2.map PyData.int))])), some (.val (.list (claims_0.map Clm.D))), some (.val (.list (ways_0.map e_lst_Row))), none, none, none] (growD cs0 m0 xs0 c_1) _
    refine sx_nil ?_
    show RetOk _ _ _ _ _
    subst h
    exact .all
end
def dutyF (h : Str × Str × List Int) (w : List Row) (q : Nat × Clm) : DutyT := (h.1, h.2.1, h.2.2, (q.1 : Int), w, q.2)
theorem note_t_is (met : List DutyT) (h : Str × Str × List Int) (cs : List Clm) (w : List Row) : m_note_t met h cs [w] = met ++ (enumL cs).map (dutyF h w) := by
  show forL _ _ (enumL cs) met = _
  refine (forL_of (g := fun (s : List DutyT) q => s ++ [dutyF h w q]) (fun x s n => rfl) _ _ _).trans ?_
  rw [foldl_one, List.map_eq_flatMap]
  rfl
theorem note_l_is (met : List DutyT) (h : Str × Str × List Int) (cs : List Clm) (w : List Row) : m_note_l met h cs [w] = met ++ (enumL cs).map (dutyF h w) := note_t_is met h cs w
theorem one_way {α : Type} {ws : List α} (h : ws.length = 1) : ∃ w, ws = [w] := by
  match ws, h with
  | [w], _ => exact ⟨w, rfl⟩
/-- one way, of so many rows at most -/
def WaysJ (ws : List (List Row)) (n : Nat) : Prop := ws.length = 1 ∧ ∀ w ∈ ws, w.length ≤ n
theorem WaysJ.mono {ws : List (List Row)} {n m : Nat} (h : WaysJ ws n) (hl : n ≤ m) : WaysJ ws m := ⟨h.1, fun w hw => Nat.le_trans (h.2 w hw) hl⟩
theorem WaysJ.behind {ws : List (List Row)} {n k : Nat} (h : WaysJ ws n) {rows : List Row} (hr : rows.length ≤ k) : WaysJ (m_put_behind ws rows) (n + k) := by
  obtain ⟨w, rfl⟩ := one_way h.1
  have h2 := h.2 w List.mem_cons_self
  refine ⟨rfl, fun v hv => ?_⟩
  have hv : v ∈ [w ++ rows] := hv
  rw [List.mem_singleton] at hv
  rw [hv, List.length_append]
  omega

def m_walk_set_s (program_0 : (List (Str × Str × (List Str) × (List Str) × (List Clm) × (List Clm) × (List Fst)))) (f_0 : Str) (x : Str) (t : Trm) (c : Int) (path_0 : (List Int)) (ways_0 : (List (List Row))) (met_0 : (List (Str × Str × (List Int) × Int × (List Row) × Clm))) : (List (List Row)) := letF (m_put_behind ways_0 ([(Row.set x t c)] : (List Row))) fun r_1 => r_1
section
variable {P : Program} {w : World} {K : PySem.W.Frag} {mg : Str → Option Value} {base : Heap}
inductive Sp_walk_set_s : Spec
  | mk {cs0 : Cs} {m0 : Nat} {xs0 : List SV} {program_0 : (List (Str × Str × (List Str) × (List Str) × (List Clm) × (List Clm) × (List Fst)))} {f_0 : Str} {x : Str} {t : Trm} {c : Int} {path_0 : (List Int)} {ways_0 : (List (List Row))} {met_0 : (List (Str × Str × (List Int) × Int × (List Row) × Clm))} (h0 : cs0[m0]? = some (.lst xs0)) (hx0 : xs0.length ≤ 1000) (hwj : WaysJ ways_0 900) (hm : met_0.length ≤ 900) : Sp_walk_set_s [.val (.tuple (program_0.map e_tup_str_str_tupl_str_tupl_str_tupl_Clm_tupl_Clm_tupl_Fst)), .val (.str f_0), .val (.tuple [(.str ("set" : Str)), (.str x), (Trm.D t), (.int c)]), .val (.tuple (path_0.map PyData.int)), .val (.list (ways_0.map e_lst_Row)), .cell m0] (growD cs0 m0 xs0 met_0) (.val (.list ((m_walk_set_s program_0 f_0 x t c path_0 ways_0 met_0).map e_lst_Row))) (growD cs0 m0 xs0 met_0)
theorem cal_walk_set_s (D : DefAt K mg "walk_statement" s_walk_statement P_walk_statement) (C_put_behind : Cal P w K mg base 1 "put_behind" 2 Sp_put_behind) : Cal P w K mg base 2 "walk_statement" 6 Sp_walk_set_s := by
  refine cal_def D sc_walk_statement tb_walk_statement (fun f cdv A outer s0 H E hr T TL svs cs sv cs1 hsp hl => ?_)
  cases hsp with
  | @mk cs0 m0 xs0 program_0 f_0 x t c path_0 ways_0 met_0 h0 hx0 hwj hm =>
  obtain ⟨R0, h⟩ : ∃ R0, (m_walk_set_s program_0 f_0 x t c path_0 ways_0 met_0) = R0 := ⟨_, rfl⟩
  rw [h]
  unfold m_walk_set_s at h
  have hw1 := hwj.1
  have hw2 := hwj.2
  have hw3 : ∀ w ∈ ways_0, w.length ≤ 1000 := fun w hw => by have := hw2 w hw; omega
  show SX _ _ _ [some (.val (.tuple (program_0.map e_tup_str_str_tupl_str_tupl_str_tupl_Clm_tupl_Clm_tupl_Fst))), some (.val (.str f_0)), some (.val (.tuple [(.str ("set" : Str)), (.str x), (Trm.D t), (.int c)])), some (.val (.tuple (path_0.map PyData.int))), some (.val (.list (ways_0.map e_lst_Row))), some (.cell m0), none] (growD cs0 m0 xs0 met_0) _
  refine sx_cons (s1_set TL rfl (ev_ixT (ev_name T rfl (Lk.there (Lk.there Lk.here)) rfl) ev_int rfl) (Put.there (Put.there (Put.there (Put.there (Put.there (Put.there Put.here)))))) ?_ rfl)
  show SX _ _ _ _ _ _
  refine sx_cons (s1_if (tv_eqS (ev_name T rfl (Lk.there (Lk.there (Lk.there (Lk.there (Lk.there (Lk.there Lk.here)))))) rfl) ev_str) (fun z => absurd z (by decide)) (fun _ => ?_))
  refine sx_nil ?_
  show SX _ _ _ _ _ _
  refine sx_cons (s1_if (tv_eqS (ev_name T rfl (Lk.there (Lk.there (Lk.there (Lk.there (Lk.there (Lk.there Lk.here)))))) rfl) ev_str) (fun z => absurd z (by decide)) (fun _ => ?_))
  refine sx_nil ?_
  show SX _ _ _ _ _ _
  refine sx_cons (s1_if (tv_eqS (ev_name T rfl (Lk.there (Lk.there (Lk.there (Lk.there (Lk.there (Lk.there Lk.here)))))) rfl) ev_str) (fun z => absurd z (by decide)) (fun _ => ?_))
  refine sx_nil ?_
  show SX _ _ _ _ _ _
  refine sx_cons (s1_if (tv_eqS (ev_name T rfl (Lk.there (Lk.there (Lk.there (Lk.there (Lk.there (Lk.there Lk.here)))))) rfl) ev_str) (fun z => absurd z (by decide)) (fun _ => ?_))
  refine sx_nil ?_
  show SX _ _ _ _ _ _
  replace h := letF_elim h
  obtain ⟨r_1, er_1, h⟩ := h
  refine sx_cons (s1_ret (ev_as (t := .val (.list (r_1.map e_lst_Row))) (cs2 := (growD cs0 m0 xs0 met_0)) (ev_callM (κ := []) C_put_behind hr (by first | decide | omega) rfl (av_cons (ev_name T rfl (Lk.there (Lk.there (Lk.there (Lk.there Lk.here)))) rfl) (av_cons (ev_lstV (ad_cons (ev_name T rfl (Lk.there (Lk.there Lk.here)) rfl) ad_nil) rfl) av_nil)) Sel.nil (RenA.val (RenA.val RenA.nil)) (Sp_put_behind.mk (ways_0 := ways_0) (rows_0 := ([(Row.set x t c)] : (List Row))) (by wtm_at "g.pre") (by wtm_at "g.pre") (by wtm_at "g.pre")) SetA.nil (List.prefix_refl _) rfl (by decide) rfl) (by subst er_1; rfl) (by subst er_1; rfl)) ?_)
  show RetOk _ _ _ _ _
  subst h
  exact .all
end
def m_walk_put_s (program_0 : (List (Str × Str × (List Str) × (List Str) × (List Clm) × (List Clm) × (List Fst)))) (f_0 : Str) (r : Str) (p : (Str × Int)) (t : Trm) (c : Int) (path_0 : (List Int)) (ways_0 : (List (List Row))) (met_0 : (List (Str × Str × (List Int) × Int × (List Row) × Clm))) : (List (List Row)) := letF (m_put_behind ways_0 ([(Row.put r p t c)] : (List Row))) fun r_1 => r_1
section
variable {P : Program} {w : World} {K : PySem.W.Frag} {mg : Str → Option Value} {base : Heap}
inductive Sp_walk_put_s : Spec
  | mk {cs0 : Cs} {m0 : Nat} {xs0 : List SV} {program_0 : (List (Str × Str × (List Str) × (List Str) × (List Clm) × (List Clm) × (List Fst)))} {f_0 : Str} {r : Str} {p : (Str × Int)} {t : Trm} {c : Int} {path_0 : (List Int)} {ways_0 : (List (List Row))} {met_0 : (List (Str × Str × (List Int) × Int × (List Row) × Clm))} (h0 : cs0[m0]? = some (.lst xs0)) (hx0 : xs0.length ≤ 1000) (hwj : WaysJ ways_0 900) (hm : met_0.length ≤ 900) : Sp_walk_put_s [.val (.tuple (program_0.map e_tup_str_str_tupl_str_tupl_str_tupl_Clm_tupl_Clm_tupl_Fst)), .val (.str f_0), .val (.tuple [(.str ("put" : Str)), (.str r), (.tuple [(.str p.1), (.int p.2)]), (Trm.D t), (.int c)]), .val (.tuple (path_0.map PyData.int)), .val (.list (ways_0.map e_lst_Row)), .cell m0] (growD cs0 m0 xs0 met_0) (.val (.list ((m_walk_put_s program_0 f_0 r p t c path_0 ways_0 met_0).map e_lst_Row))) (growD cs0 m0 xs0 met_0)
theorem cal_walk_put_s (D : DefAt K mg "walk_statement" s_walk_statement P_walk_statement) (C_put_behind : Cal P w K mg base 1 "put_behind" 2 Sp_put_behind) : Cal P w K mg base 2 "walk_statement" 6 Sp_walk_put_s := by
  refine cal_def D sc_walk_statement tb_walk_statement (fun f cdv A outer s0 H E hr T TL svs cs sv cs1 hsp hl => ?_)
  cases hsp with
  | @mk cs0 m0 xs0 program_0 f_0 r p t c path_0 ways_0 met_0 h0 hx0 hwj hm =>
  obtain ⟨R0, h⟩ : ∃ R0, (m_walk_put_s program_0 f_0 r p t c path_0 ways_0 met_0) = R0 := ⟨_, rfl⟩
  rw [h]
  unfold m_walk_put_s at h
  have hw1 := hwj.1
  have hw2 := hwj.2
  have hw3 : ∀ w ∈ ways_0, w.length ≤ 1000 := fun w hw => by have := hw2 w hw; omega
  show SX _ _ _ [some (.val (.tuple (program_0.map e_tup_str_str_tupl_str_tupl_str_tupl_Clm_tupl_Clm_tupl_Fst))), some (.val (.str f_0)), some (.val (.tuple [(.str ("put" : Str)), (.str r), (.tuple [(.str p.1), (.int p.2)]), (Trm.D t), (.int c)])), some (.val (.tuple (path_0.map PyData.int))), some (.val (.list (ways_0.map e_lst_Row))), some (.cell m0), none] (growD cs0 m0 xs0 met_0) _
  refine sx_cons (s1_set TL rfl (ev_ixT (ev_name T rfl (Lk.there (Lk.there Lk.here)) rfl) ev_int rfl) (Put.there (Put.there (Put.there (Put.there (Put.there (Put.there Put.here)))))) ?_ rfl)
  show SX _ _ _ _ _ _
  refine sx_cons (s1_if (tv_eqS (ev_name T rfl (Lk.there (Lk.there (Lk.there (Lk.there (Lk.there (Lk.there Lk.here)))))) rfl) ev_str) (fun z => absurd z (by decide)) (fun _ => ?_))
  refine sx_nil ?_
  show SX _ _ _ _ _ _
  refine sx_cons (s1_if (tv_eqS (ev_name T rfl (Lk.there (Lk.there (Lk.there (Lk.there (Lk.there (Lk.there Lk.here)))))) rfl) ev_str) (fun z => absurd z (by decide)) (fun _ => ?_))
  refine sx_nil ?_
  show SX _ _ _ _ _ _
  refine sx_cons (s1_if (tv_eqS (ev_name T rfl (Lk.there (Lk.there (Lk.there (Lk.there (Lk.there (Lk.there Lk.here)))))) rfl) ev_str) (fun z => absurd z (by decide)) (fun _ => ?_))
  refine sx_nil ?_
  show SX _ _ _ _ _ _
  refine sx_cons (s1_if (tv_eqS (ev_name T rfl (Lk.there (Lk.there (Lk.there (Lk.there (Lk.there (Lk.there Lk.here)))))) rfl) ev_str) (fun z => absurd z (by decide)) (fun _ => ?_))
  refine sx_nil ?_
  show SX _ _ _ _ _ _
  replace h := letF_elim h
  obtain ⟨r_1, er_1, h⟩ := h
  refine sx_cons (s1_ret (ev_as (t := .val (.list (r_1.map e_lst_Row))) (cs2 := (growD cs0 m0 xs0 met_0)) (ev_callM (κ := []) C_put_behind hr (by first | decide | omega) rfl (av_cons (ev_name T rfl (Lk.there (Lk.there (Lk.there (Lk.there Lk.here)))) rfl) (av_cons (ev_lstV (ad_cons (ev_name T rfl (Lk.there (Lk.there Lk.here)) rfl) ad_nil) rfl) av_nil)) Sel.nil (RenA.val (RenA.val RenA.nil)) (Sp_put_behind.mk (ways_0 := ways_0) (rows_0 := ([(Row.put r p t c)] : (List Row))) (by wtm_at "g.pre") (by wtm_at "g.pre") (by wtm_at "g.pre")) SetA.nil (List.prefix_refl _) rfl (by decide) rfl) (by subst er_1; rfl) (by subst er_1; rfl)) ?_)
  show RetOk _ _ _ _ _
  subst h
  exact .all
end
def m_walk_any_s (program_0 : (List (Str × Str × (List Str) × (List Str) × (List Clm) × (List Clm) × (List Fst)))) (f_0 : Str) (x : Str) (path_0 : (List Int)) (ways_0 : (List (List Row))) (met_0 : (List (Str × Str × (List Int) × Int × (List Row) × Clm))) : (List (List Row)) := letF (m_put_behind ways_0 ([(Row.any x)] : (List Row))) fun r_1 => r_1
section
variable {P : Program} {w : World} {K : PySem.W.Frag} {mg : Str → Option Value} {base : Heap}
inductive Sp_walk_any_s : Spec
  | mk {cs0 : Cs} {m0 : Nat} {xs0 : List SV} {program_0 : (List (Str × Str × (List Str) × (List Str) × (List Clm) × (List Clm) × (List Fst)))} {f_0 : Str} {x : Str} {path_0 : (List Int)} {ways_0 : (List (List Row))} {met_0 : (List (Str × Str × (List Int) × Int × (List Row) × Clm))} (h0 : cs0[m0]? = some (.lst xs0)) (hx0 : xs0.length ≤ 1000) (hwj : WaysJ ways_0 900) (hm : met_0.length ≤ 900) : Sp_walk_any_s [.val (.tuple (program_0.map e_tup_str_str_tupl_str_tupl_str_tupl_Clm_tupl_Clm_tupl_Fst)), .val (.str f_0), .val (.tuple [(.str ("any" : Str)), (.str x)]), .val (.tuple (path_0.map PyData.int)), .val (.list (ways_0.map e_lst_Row)), .cell m0] (growD cs0 m0 xs0 met_0) (.val (.list ((m_walk_any_s program_0 f_0 x path_0 ways_0 met_0).map e_lst_Row))) (growD cs0 m0 xs0 met_0)
theorem cal_walk_any_s (D : DefAt K mg "walk_statement" s_walk_statement P_walk_statement) (C_put_behind : Cal P w K mg base 1 "put_behind" 2 Sp_put_behind) : Cal P w K mg base 2 "walk_statement" 6 Sp_walk_any_s := by
  refine cal_def D sc_walk_statement tb_walk_statement (fun f cdv A outer s0 H E hr T TL svs cs sv cs1 hsp hl => ?_)
  cases hsp with
  | @mk cs0 m0 xs0 program_0 f_0 x path_0 ways_0 met_0 h0 hx0 hwj hm =>
  obtain ⟨R0, h⟩ : ∃ R0, (m_walk_any_s program_0 f_0 x path_0 ways_0 met_0) = R0 := ⟨_, rfl⟩
  rw [h]
  unfold m_walk_any_s at h
  have hw1 := hwj.1
  have hw2 := hwj.2
  have hw3 : ∀ w ∈ ways_0, w.length ≤ 1000 := fun w hw => by have := hw2 w hw; omega
  show SX _ _ _ [some (.val (.tuple (program_0.map e_tup_str_str_tupl_str_tupl_str_tupl_Clm_tupl_Clm_tupl_Fst))), some (.val (.str f_0)), some (.val (.tuple [(.str ("any" : Str)), (.str x)])), some (.val (.tuple (path_0.map PyData.int))), some (.val (.list (ways_0.map e_lst_Row))), some (.cell m0), none] (growD cs0 m0 xs0 met_0) _
  refine sx_cons (s1_set TL rfl (ev_ixT (ev_name T rfl (Lk.there (Lk.there Lk.here)) rfl) ev_int rfl) (Put.there (Put.there (Put.there (Put.there (Put.there (Put.there Put.here)))))) ?_ rfl)
  show SX _ _ _ _ _ _
  refine sx_cons (s1_if (tv_eqS (ev_name T rfl (Lk.there (Lk.there (Lk.there (Lk.there (Lk.there (Lk.there Lk.here)))))) rfl) ev_str) (fun z => absurd z (by decide)) (fun _ => ?_))
  refine sx_nil ?_
  show SX _ _ _ _ _ _
  refine sx_cons (s1_if (tv_eqS (ev_name T rfl (Lk.there (Lk.there (Lk.there (Lk.there (Lk.there (Lk.there Lk.here)))))) rfl) ev_str) (fun z => absurd z (by decide)) (fun _ => ?_))
  refine sx_nil ?_
  show SX _ _ _ _ _ _
  refine sx_cons (s1_if (tv_eqS (ev_name T rfl (Lk.there (Lk.there (Lk.there (Lk.there (Lk.there (Lk.there Lk.here)))))) rfl) ev_str) (fun z => absurd z (by decide)) (fun _ => ?_))
  refine sx_nil ?_
  show SX _ _ _ _ _ _
  refine sx_cons (s1_if (tv_eqS (ev_name T rfl (Lk.there (Lk.there (Lk.there (Lk.there (Lk.there (Lk.there Lk.here)))))) rfl) ev_str) (fun z => absurd z (by decide)) (fun _ => ?_))
  refine sx_nil ?_
  show SX _ _ _ _ _ _
  replace h := letF_elim h
  obtain ⟨r_1, er_1, h⟩ := h
  refine sx_cons (s1_ret (ev_as (t := .val (.list (r_1.map e_lst_Row))) (cs2 := (growD cs0 m0 xs0 met_0)) (ev_callM (κ := []) C_put_behind hr (by first | decide | omega) rfl (av_cons (ev_name T rfl (Lk.there (Lk.there (Lk.there (Lk.there Lk.here)))) rfl) (av_cons (ev_lstV (ad_cons (ev_name T rfl (Lk.there (Lk.there Lk.here)) rfl) ad_nil) rfl) av_nil)) Sel.nil (RenA.val (RenA.val RenA.nil)) (Sp_put_behind.mk (ways_0 := ways_0) (rows_0 := ([(Row.any x)] : (List Row))) (by wtm_at "g.pre") (by wtm_at "g.pre") (by wtm_at "g.pre")) SetA.nil (List.prefix_refl _) rfl (by decide) rfl) (by subst er_1; rfl) (by subst er_1; rfl)) ?_)
  show RetOk _ _ _ _ _
  subst h
  exact .all
end
def m_walk_claim_s (program_0 : (List (Str × Str × (List Str) × (List Str) × (List Clm) × (List Clm) × (List Fst)))) (f_0 : Str) (c : Clm) (path_0 : (List Int)) (ways_0 : (List (List Row))) (met_0 : (List (Str × Str × (List Int) × Int × (List Row) × Clm))) : (List (List Row)) × (List (Str × Str × (List Int) × Int × (List Row) × Clm)) := letF (m_note_l met_0 (f_0, ("claim" : Str), path_0) ([c] : (List Clm)) ways_0) fun c_1 => (ways_0, c_1)
section
variable {P : Program} {w : World} {K : PySem.W.Frag} {mg : Str → Option Value} {base : Heap}
inductive Sp_walk_claim_s : Spec
  | mk {cs0 : Cs} {m0 : Nat} {xs0 : List SV} {program_0 : (List (Str × Str × (List Str) × (List Str) × (List Clm) × (List Clm) × (List Fst)))} {f_0 : Str} {c : Clm} {path_0 : (List Int)} {ways_0 : (List (List Row))} {met_0 : (List (Str × Str × (List Int) × Int × (List Row) × Clm))} (h0 : cs0[m0]? = some (.lst xs0)) (hx0 : xs0.length ≤ 1000) (hwj : WaysJ ways_0 900) (hm : met_0.length ≤ 900) : Sp_walk_claim_s [.val (.tuple (program_0.map e_tup_str_str_tupl_str_tupl_str_tupl_Clm_tupl_Clm_tupl_Fst)), .val (.str f_0), .val (.tuple [(.str ("claim" : Str)), (Clm.D c)]), .val (.tuple (path_0.map PyData.int)), .val (.list (ways_0.map e_lst_Row)), .cell m0] (growD cs0 m0 xs0 met_0) (.val (.list ((m_walk_claim_s program_0 f_0 c path_0 ways_0 met_0).1.map e_lst_Row))) (growD cs0 m0 xs0 (m_walk_claim_s program_0 f_0 c path_0 ways_0 met_0).2)
theorem cal_walk_claim_s (D : DefAt K mg "walk_statement" s_walk_statement P_walk_statement) (C_note_l : Cal P w K mg base 1 "note" 4 Sp_note_l) : Cal P w K mg base 2 "walk_statement" 6 Sp_walk_claim_s := by
  refine cal_def D sc_walk_statement tb_walk_statement (fun f cdv A outer s0 H E hr T TL svs cs sv cs1 hsp hl => ?_)
  cases hsp with
  | @mk cs0 m0 xs0 program_0 f_0 c path_0 ways_0 met_0 h0 hx0 hwj hm =>
  obtain ⟨R0, h⟩ : ∃ R0, (m_walk_claim_s program_0 f_0 c path_0 ways_0 met_0) = R0 := ⟨_, rfl⟩
  rw [h]
  unfold m_walk_claim_s at h
  have hw1 := hwj.1
  have hw2 := hwj.2
  have hw3 : ∀ w ∈ ways_0, w.length ≤ 1000 := fun w hw => by have := hw2 w hw; omega
  show SX _ _ _ [some (.val (.tuple (program_0.map e_tup_str_str_tupl_str_tupl_str_tupl_Clm_tupl_Clm_tupl_Fst))), some (.val (.str f_0)), some (.val (.tuple [(.str ("claim" : Str)), (Clm.D c)])), some (.val (.tuple (path_0.map PyData.int))), some (.val (.list (ways_0.map e_lst_Row))), some (.cell m0), none] (growD cs0 m0 xs0 met_0) _
  refine sx_cons (s1_set TL rfl (ev_ixT (ev_name T rfl (Lk.there (Lk.there Lk.here)) rfl) ev_int rfl) (Put.there (Put.there (Put.there (Put.there (Put.there (Put.there Put.here)))))) ?_ rfl)
  show SX _ _ _ _ _ _
  refine sx_cons (s1_if (tv_eqS (ev_name T rfl (Lk.there (Lk.there (Lk.there (Lk.there (Lk.there (Lk.there Lk.here)))))) rfl) ev_str) (fun _ => ?_) (fun z => absurd z (by decide)))
  replace h := letF_elim h
  obtain ⟨c_1, ec_1, h⟩ := h
  refine sx_cons (s1_expr (ev_as (t := .val .none) (cs2 := (growD cs0 m0 xs0 c_1)) (ev_callI C_note_l hr (by first | decide | omega) rfl (av_cons (ev_name T rfl (Lk.there (Lk.there (Lk.there (Lk.there (Lk.there Lk.here))))) rfl) (av_cons (ev_tup (ad_cons (ev_name T rfl (Lk.there Lk.here) rfl) (ad_cons ev_str (ad_cons (ev_name T rfl (Lk.there (Lk.there (Lk.there Lk.here))) rfl) ad_nil))) rfl) (av_cons (ev_lstV (ad_cons (ev_ixT (ev_name T rfl (Lk.there (Lk.there Lk.here)) rfl) ev_int rfl) ad_nil) rfl) (av_cons (ev_name T rfl (Lk.there (Lk.there (Lk.there (Lk.there Lk.here)))) rfl) av_nil)))) (Sp_note_l.mk (cs0 := cs0) (m0 := m0) (xs0 := xs0) (met_0 := met_0) (head_0 := (f_0, ("claim" : Str), path_0)) (claims_0 := ([c] : (List Clm))) (ways_0 := ways_0) h0 hx0 (by wtm_at "g.pre") (by wtm_at "g.pre") (by wtm_at "g.pre")) rfl) (by subst ec_1; rfl) (by subst ec_1; rfl)) ?_)
  show SX _ _ _ _ _ _
  refine sx_cons (s1_ret (ev_name T rfl (Lk.there (Lk.there (Lk.there (Lk.there Lk.here)))) rfl) ?_)
  show RetOk _ _ _ _ _
  subst h
  exact .all
end
theorem claim_ok {P : List PrcT} {f : Str} {c : Clm} {path : List Int} {ws : List (List Row)} {met : List DutyT} {n : Nat} (hw : WaysJ ws n) : WaysJ (m_walk_claim_s P f c path ws met).1 n ∧ (m_walk_claim_s P f c path ws met).2.length ≤ met.length + 5 := by
  obtain ⟨w, rfl⟩ := one_way hw.1
  refine ⟨hw, ?_⟩
  show (m_note_l met (f, "claim", path) [c] [w]).length ≤ _
  rw [note_l_is, List.length_append, List.length_map, enumL_len, List.length_singleton]
  omega
structure WJ (ws : List (List Row)) (met : List DutyT) (l : Nat) : Prop where
  ww : WaysJ ws (880 - 10 * l)
  ll : l ≤ 40
  mm : met.length + 5 * l ≤ 600
theorem WJ.start {ws : List (List Row)} {met : List DutyT} {l : Nat} (h : WaysJ ws 400) (hl : l ≤ 40) (hm : met.length ≤ 300) : WJ ws met l := ⟨h.mono (by omega), hl, by omega⟩
section
variable {P : List PrcT} {f : Str} {path : List Int} {ws : List (List Row)} {met : List DutyT} {α : Type} {y : α} {l : List α}
theorem WJ.row {rows : List Row} (h : WJ ws met (y :: l).length) (hr : rows.length ≤ 10) : WJ (m_put_behind ws rows) met l.length := by
  have h1 := h.ll
  have h2 := h.mm
  rw [List.length_cons] at h1 h2
  exact ⟨(h.ww.behind hr).mono (by rw [List.length_cons]; omega), by omega, by omega⟩
theorem WJ.set {x : Str} {t : Trm} {c : Int} (h : WJ ws met (y :: l).length) : WJ (m_walk_set_s P f x t c path ws met) met l.length := h.row (rows := [Row.set x t c]) (Nat.le_of_ble_eq_true rfl)
theorem WJ.put {r : Str} {p : Str × Int} {t : Trm} {c : Int} (h : WJ ws met (y :: l).length) : WJ (m_walk_put_s P f r p t c path ws met) met l.length := h.row (rows := [Row.put r p t c]) (Nat.le_of_ble_eq_true rfl)
theorem WJ.any {x : Str} (h : WJ ws met (y :: l).length) : WJ (m_walk_any_s P f x path ws met) met l.length := h.row (rows := [Row.any x]) (Nat.le_of_ble_eq_true rfl)
theorem WJ.claim {c : Clm} (h : WJ ws met (y :: l).length) : WJ (m_walk_claim_s P f c path ws met).1 (m_walk_claim_s P f c path ws met).2 l.length := by
  have h1 := h.ll
  have h2 := h.mm
  obtain ⟨a, b⟩ := claim_ok (P := P) (f := f) (c := c) (path := path) (met := met) h.ww
  rw [List.length_cons] at h1 h2
  exact ⟨a.mono (by rw [List.length_cons]; omega), by omega, by omega⟩
end
theorem forL_inv {α σ ρ : Type} {body : α → σ → (σ → ρ) → ρ} {k : σ → ρ} {Q : ρ → Prop} (J : List α → σ → Prop) (hk : ∀ s, J [] s → Q (k s)) : ∀ (es : List α) (s : σ), (∀ x ∈ es, ∀ xs s n, J (x :: xs) s → (∀ s', J xs s' → Q (n s')) → Q (body x s n)) → J es s → Q (forL body k es s)
  | [], s, _, h => hk s h
  | x :: xs, s, hb, h => hb x List.mem_cons_self xs s _ h fun s' h' => forL_inv J hk xs s' (fun y hy => hb y (List.mem_cons_of_mem _ hy)) h'
local macro_rules | `(tactic| wtm_at "g.pre") => `(tactic| first | assumption | omega | (subst_vars; assumption) | (show _ ∧ _; exact ⟨by omega, by omega⟩) | fail)
local macro_rules | `(tactic| wtm_at "g.sure") => `(tactic| first | (rw [decide_eq_true_eq]; omega) | omega | fail)
local macro_rules | `(tactic| wtm_at "g.inv") => `(tactic| ((try dsimp only); first | exact WJ.start (by assumption) (by omega) (by assumption) | (subst_vars; first | exact WJ.set (by assumption) | exact WJ.put (by assumption) | exact WJ.any (by assumption) | exact WJ.claim (by assumption) | fail)))
def m_walk (program_0 : (List (Str × Str × (List Str) × (List Str) × (List Clm) × (List Clm) × (List Fst)))) (f_0 : Str) (body_0 : (List Fst)) (before_0 : (List Int)) (ways_0 : (List (List Row))) (met_0 : (List (Str × Str × (List Int) × Int × (List Row) × Clm))) : (List (List Row)) × (List (Str × Str × (List Int) × Int × (List Row) × Clm)) := forL (fun (x_3 : (Nat × Fst)) (s_4 : ((List (List Row)) × (List (Str × Str × (List Int) × Int × (List Row) × Clm)))) n_1 => match x_3 with | (x_3i, x_3v) => (match x_3v with | .set zx_3 zt_4 zc_5 => letF (m_walk_set_s program_0 f_0 zx_3 zt_4 zc_5 (before_0 ++ ([(x_3i : Int)] : (List Int))) s_4.1 s_4.2) fun r_5 => n_1 (r_5, s_4.2) | .put zr_7 zp_8 zt_9 zc_10 => letF (m_walk_put_s program_0 f_0 zr_7 zp_8 zt_9 zc_10 (before_0 ++ ([(x_3i : Int)] : (List Int))) s_4.1 s_4.2) fun r_6 => n_1 (r_6, s_4.2) | .any zx_12 => letF (m_walk_any_s program_0 f_0 zx_12 (before_0 ++ ([(x_3i : Int)] : (List Int))) s_4.1 s_4.2) fun r_7 => n_1 (r_7, s_4.2) | .claim zc_14 => letF (m_walk_claim_s program_0 f_0 zc_14 (before_0 ++ ([(x_3i : Int)] : (List Int))) s_4.1 s_4.2).1 fun r_8 => letF (m_walk_claim_s program_0 f_0 zc_14 (before_0 ++ ([(x_3i : Int)] : (List Int))) s_4.1 s_4.2).2 fun c_9 => n_1 (r_8, c_9))) (fun s_4 : ((List (List Row)) × (List (Str × Str × (List Int) × Int × (List Row) × Clm))) => (s_4.1, s_4.2)) (enumL body_0) (ways_0, met_0)
section
variable {P : Program} {w : World} {K : PySem.W.Frag} {mg : Str → Option Value} {base : Heap}
inductive Sp_walk : Spec
  | mk {cs0 : Cs} {m0 : Nat} {xs0 : List SV} {program_0 : (List (Str × Str × (List Str) × (List Str) × (List Clm) × (List Clm) × (List Fst)))} {f_0 : Str} {body_0 : (List Fst)} {before_0 : (List Int)} {ways_0 : (List (List Row))} {met_0 : (List (Str × Str × (List Int) × Int × (List Row) × Clm))} (h0 : cs0[m0]? = some (.lst xs0)) (hx0 : xs0.length ≤ 1000) (hwj : WaysJ ways_0 400) (hm : met_0.length ≤ 300) (hb : body_0.length ≤ 40) (hbf : before_0.length ≤ 10) : Sp_walk [.val (.tuple (program_0.map e_tup_str_str_tupl_str_tupl_str_tupl_Clm_tupl_Clm_tupl_Fst)), .val (.str f_0), .val (.tuple (body_0.map Fst.D)), .val (.tuple (before_0.map PyData.int)), .val (.list (ways_0.map e_lst_Row)), .cell m0] (growD cs0 m0 xs0 met_0) (.val (.list ((m_walk program_0 f_0 body_0 before_0 ways_0 met_0).1.map e_lst_Row))) (growD cs0 m0 xs0 (m_walk program_0 f_0 body_0 before_0 ways_0 met_0).2)
theorem cal_walk (D : DefAt K mg "walk" s_walk P_walk) (C_walk_set_s : Cal P w K mg base 2 "walk_statement" 6 Sp_walk_set_s) (C_walk_put_s : Cal P w K mg base 2 "walk_statement" 6 Sp_walk_put_s) (C_walk_any_s : Cal P w K mg base 2 "walk_statement" 6 Sp_walk_any_s) (C_walk_claim_s : Cal P w K mg base 2 "walk_statement" 6 Sp_walk_claim_s) (z_enumerate : mg "enumerate" = none) (z_len : mg "len" = none) (G_MOST_WAYS : Glo K mg "MOST_WAYS" (.int 16)) : Cal P w K mg base 3 "walk" 6 Sp_walk := by
  refine cal_def D sc_walk tb_walk (fun f cdv A outer s0 H E hr T TL svs cs sv cs1 hsp hl => ?_)
  cases hsp with
  | @mk cs0 m0 xs0 program_0 f_0 body_0 before_0 ways_0 met_0 h0 hx0 hwj hm hb hbf =>
  obtain ⟨R0, h⟩ : ∃ R0, (m_walk program_0 f_0 body_0 before_0 ways_0 met_0) = R0 := ⟨_, rfl⟩
  rw [h]
  unfold m_walk at h
  have hel := enumL_len body_0
  show SX _ _ _ [some (.val (.tuple (program_0.map e_tup_str_str_tupl_str_tupl_str_tupl_Clm_tupl_Clm_tupl_Fst))), some (.val (.str f_0)), some (.val (.tuple (body_0.map Fst.D))), some (.val (.tuple (before_0.map PyData.int))), some (.val (.list (ways_0.map e_lst_Row))), some (.cell m0), none, none] (growD cs0 m0 xs0 met_0) _
  refine' sx_cons ?lp2
  refine' s1_forK (enumL body_0) (enP Fst.D) _ _ R0 (ways_0, met_0) (fun l_1 (s_4 : ((List (List Row)) × (List (Str × Str × (List Int) × Int × (List Row) × Clm)))) => (WJ s_4.1 s_4.2 l_1.length)) h PassesOwn.never rfl (iv_enumT (f := Fst.D) (l := body_0) z_enumerate rfl (ev_name T rfl (Lk.there (Lk.there Lk.here)) rfl)) ?j02 (fun s_4 : ((List (List Row)) × (List (Str × Str × (List Int) × Int × (List Row) × Clm))) => [some (.val (.tuple (program_0.map e_tup_str_str_tupl_str_tupl_str_tupl_Clm_tupl_Clm_tupl_Fst))), some (.val (.str f_0)), some (.val (.tuple (body_0.map Fst.D))), some (.val (.tuple (before_0.map PyData.int))), some (.val (.list (s_4.1.map e_lst_Row))), some (.cell m0), none, none]) (fun s_4 : ((List (List Row)) × (List (Str × Str × (List Int) × Int × (List Row) × Clm))) => (growD cs0 m0 xs0 s_4.2)) (Le.same (Le.same (Le.same (Le.same (Le.same (Le.same (Le.lose (Le.lose Le.nil)))))))) rfl (fun _ => trivial) ?tu2 ?dn2
  case j02 => wtm_at "g.inv"
  case tu2 =>
    clear h
    rintro ⟨x_3i, x_3v⟩ l_1 ⟨ways_1, c_2⟩ n_1 hm1 hJ1 h
    have hm1p := hm1
    have hm1 := mem_mid hm1
    have hm1r := enumL_lt hm1
    try dsimp only at h hJ1
    have hwx := hJ1.ww.mono (m := 900) (by omega)
    have hwx1 := hwx.1
    have hml := hJ1.mm
    refine gx_tup rfl (gxs_cons (gx_name TL rfl (Put.there (Put.there (Put.there (Put.there (Put.there (Put.there Put.here)))))) (gxs_cons (gx_name TL rfl (Put.there (Put.there (Put.there (Put.there (Put.there (Put.there (Put.there Put.here))))))) (gxs_nil ?_) rfl)) rfl)) rfl
    show SX _ _ _ [some (.val (.tuple (program_0.map e_tup_str_str_tupl_str_tupl_str_tupl_Clm_tupl_Clm_tupl_Fst))), some (.val (.str f_0)), some (.val (.tuple (body_0.map Fst.D))), some (.val (.tuple (before_0.map PyData.int))), some (.val (.list (ways_1.map e_lst_Row))), some (.cell m0), some (.val (.int (x_3i : Int))), some (.val (Fst.D x_3v))] (growD cs0 m0 xs0 c_2) _
    cases x_3v with
    | set zx_3 zt_4 zc_5 =>
      try dsimp only at h
      show SX _ _ _ [some (.val (.tuple (program_0.map e_tup_str_str_tupl_str_tupl_str_tupl_Clm_tupl_Clm_tupl_Fst))), some (.val (.str f_0)), some (.val (.tuple (body_0.map Fst.D))), some (.val (.tuple (before_0.map PyData.int))), some (.val (.list (ways_1.map e_lst_Row))), some (.cell m0), some (.val (.int (x_3i : Int))), some (.val (.tuple [(.str ("set" : Str)), (.str zx_3), (Trm.D zt_4), (.int zc_5)]))] (growD cs0 m0 xs0 c_2) _
      replace h := letF_elim h
      obtain ⟨r_5, er_5, h⟩ := h
      have hz6 : (before_0).length + (([(x_3i : Int)] : (List Int))).length ≤ 1000000 := by wtm_at "g.sd"
      have hwr_r_5 : WaysJ r_5 920 := by (subst er_5; first | exact (hwx.behind (k := 20) (Nat.le_of_ble_eq_true rfl)) | exact (claim_ok hwx).1.mono (by omega))
      have hwl_r_5 := hwr_r_5.1
      refine sx_cons (s1_set TL rfl (ev_as (t := .val (.list (r_5.map e_lst_Row))) (cs2 := (growD cs0 m0 xs0 c_2)) (ev_callI C_walk_set_s hr (by first | decide | omega) rfl (av_cons (ev_name T rfl Lk.here rfl) (av_cons (ev_name T rfl (Lk.there Lk.here) rfl) (av_cons (ev_name T rfl (Lk.there (Lk.there (Lk.there (Lk.there (Lk.there (Lk.there (Lk.there Lk.here))))))) rfl) (av_cons (ev_is (t := .val (.tuple ((before_0 ++ ([(x_3i : Int)] : (List Int))).map PyData.int))) (ev_catT (ds := before_0.map PyData.int) (es := ([(x_3i : Int)] : (List Int)).map PyData.int) (ev_name T rfl (Lk.there (Lk.there (Lk.there Lk.here))) rfl) (ev_tup (ad_cons (ev_name T rfl (Lk.there (Lk.there (Lk.there (Lk.there (Lk.there (Lk.there Lk.here)))))) rfl) ad_nil) rfl) (by simpa only [List.length_map] using hz6)) (by rw [← List.map_append])) (av_cons (ev_name T rfl (Lk.there (Lk.there (Lk.there (Lk.there Lk.here)))) rfl) (av_cons (ev_name T rfl (Lk.there (Lk.there (Lk.there (Lk.there (Lk.there Lk.here))))) rfl) av_nil)))))) (Sp_walk_set_s.mk (cs0 := cs0) (m0 := m0) (xs0 := xs0) (program_0 := program_0) (f_0 := f_0) (x := zx_3) (t := zt_4) (c := zc_5) (path_0 := (before_0 ++ ([(x_3i : Int)] : (List Int)))) (ways_0 := ways_1) (met_0 := c_2) h0 hx0 (by wtm_at "g.pre") (by wtm_at "g.pre")) rfl) (by subst er_5; rfl) (by subst er_5; rfl)) (Put.there (Put.there (Put.there (Put.there Put.here)))) ?_ rfl)
      show SX _ _ _ _ _ _
      refine sx_cons (s1_if (tv_gt (ev_is (t := .val (.int (r_5.length : Int))) (ev_len z_len rfl (ev_name T rfl (Lk.there (Lk.there (Lk.there (Lk.there Lk.here)))) rfl) (rc_lenLv)) (by simp only [List.length_map])) (ev_glo G_MOST_WAYS rfl)) (fun z => absurd z (by wtm_at "g.sure")) (fun _ => ?_))
      refine sx_nil ?_
      show SX _ _ _ _ _ _
      refine sx_nil ?_
      exact ⟨(r_5, c_2), h, (by wtm_at "g.inv"), (At.same (Le.same (Le.same (Le.same (Le.same (Le.same (Le.same (Le.lose (Le.lose Le.nil)))))))))⟩
    | put zr_7 zp_8 zt_9 zc_10 =>
      try dsimp only at h
      show SX _ _ _ [some (.val (.tuple (program_0.map e_tup_str_str_tupl_str_tupl_str_tupl_Clm_tupl_Clm_tupl_Fst))), some (.val (.str f_0)), some (.val (.tuple (body_0.map Fst.D))), some (.val (.tuple (before_0.map PyData.int))), some (.val (.list (ways_1.map e_lst_Row))), some (.cell m0), some (.val (.int (x_3i : Int))), some (.val (.tuple [(.str ("put" : Str)), (.str zr_7), (.tuple [(.str zp_8.1), (.int zp_8.2)]), (Trm.D zt_9), (.int zc_10)]))] (growD cs0 m0 xs0 c_2) _
      replace h := letF_elim h
      obtain ⟨r_6, er_6, h⟩ := h
      have hz11 : (before_0).length + (([(x_3i : Int)] : (List Int))).length ≤ 1000000 := by wtm_at "g.sd"
      have hwr_r_6 : WaysJ r_6 920 := by (subst er_6; first | exact (hwx.behind (k := 20) (Nat.le_of_ble_eq_true rfl)) | exact (claim_ok hwx).1.mono (by omega))
      have hwl_r_6 := hwr_r_6.1
      refine sx_cons (s1_set TL rfl (ev_as (t := .val (.list (r_6.map e_lst_Row))) (cs2 := (growD cs0 m0 xs0 c_2)) (ev_callI C_walk_put_s hr (by first | decide | omega) rfl (av_cons (ev_name T rfl Lk.here rfl) (av_cons (ev_name T rfl (Lk.there Lk.here) rfl) (av_cons (ev_name T rfl (Lk.there (Lk.there (Lk.there (Lk.there (Lk.there (Lk.there (Lk.there Lk.here))))))) rfl) (av_cons (ev_is (t := .val (.tuple ((before_0 ++ ([(x_3i : Int)] : (List Int))).map PyData.int))) (ev_catT (ds := before_0.map PyData.int) (es := ([(x_3i : Int)] : (List Int)).map PyData.int) (ev_name T rfl (Lk.there (Lk.there (Lk.there Lk.here))) rfl) (ev_tup (ad_cons (ev_name T rfl (Lk.there (Lk.there (Lk.there (Lk.there (Lk.there (Lk.there Lk.here)))))) rfl) ad_nil) rfl) (by simpa only [List.length_map] using hz11)) (by rw [← List.map_append])) (av_cons (ev_name T rfl (Lk.there (Lk.there (Lk.there (Lk.there Lk.here)))) rfl) (av_cons (ev_name T rfl (Lk.there (Lk.there (Lk.there (Lk.there (Lk.there Lk.here))))) rfl) av_nil)))))) (Sp_walk_put_s.mk (cs0 := cs0) (m0 := m0) (xs0 := xs0) (program_0 := program_0) (f_0 := f_0) (r := zr_7) (p := zp_8) (t := zt_9) (c := zc_10) (path_0 := (before_0 ++ ([(x_3i : Int)] : (List Int)))) (ways_0 := ways_1) (met_0 := c_2) h0 hx0 (by wtm_at "g.pre") (by wtm_at "g.pre")) rfl) (by subst er_6; rfl) (by subst er_6; rfl)) (Put.there (Put.there (Put.there (Put.there Put.here)))) ?_ rfl)
      show SX _ _ _ _ _ _
      refine sx_cons (s1_if (tv_gt (ev_is (t := .val (.int (r_6.length : Int))) (ev_len z_len rfl (ev_name T rfl (Lk.there (Lk.there (Lk.there (Lk.there Lk.here)))) rfl) (rc_lenLv)) (by simp only [List.length_map])) (ev_glo G_MOST_WAYS rfl)) (fun z => absurd z (by wtm_at "g.sure")) (fun _ => ?_))
      refine sx_nil ?_
      show SX _ _ _ _ _ _
      refine sx_nil ?_
      exact ⟨(r_6, c_2), h, (by wtm_at "g.inv"), (At.same (Le.same (Le.same (Le.same (Le.same (Le.same (Le.same (Le.lose (Le.lose Le.nil)))))))))⟩
    | any zx_12 =>
      try dsimp only at h
      show SX _ _ _ [some (.val (.tuple (program_0.map e_tup_str_str_tupl_str_tupl_str_tupl_Clm_tupl_Clm_tupl_Fst))), some (.val (.str f_0)), some (.val (.tuple (body_0.map Fst.D))), some (.val (.tuple (before_0.map PyData.int))), some (.val (.list (ways_1.map e_lst_Row))), some (.cell m0), some (.val (.int (x_3i : Int))), some (.val (.tuple [(.str ("any" : Str)), (.str zx_12)]))] (growD cs0 m0 xs0 c_2) _
      replace h := letF_elim h
      obtain ⟨r_7, er_7, h⟩ := h
      have hz13 : (before_0).length + (([(x_3i : Int)] : (List Int))).length ≤ 1000000 := by wtm_at "g.sd"
      have hwr_r_7 : WaysJ r_7 920 := by (subst er_7; first | exact (hwx.behind (k := 20) (Nat.le_of_ble_eq_true rfl)) | exact (claim_ok hwx).1.mono (by omega))
      have hwl_r_7 := hwr_r_7.1
      refine sx_cons (s1_set TL rfl (ev_as (t := .val (.list (r_7.map e_lst_Row))) (cs2 := (growD cs0 m0 xs0 c_2)) (ev_callI C_walk_any_s hr (by first | decide | omega) rfl (av_cons (ev_name T rfl Lk.here rfl) (av_cons (ev_name T rfl (Lk.there Lk.here) rfl) (av_cons (ev_name T rfl (Lk.there (Lk.there (Lk.there (Lk.there (Lk.there (Lk.there (Lk.there Lk.here))))))) rfl) (av_cons (ev_is (t := .val (.tuple ((before_0 ++ ([(x_3i : Int)] : (List Int))).map PyData.int))) (ev_catT (ds := before_0.map PyData.int) (es := ([(x_3i : Int)] : (List Int)).map PyData.int) (ev_name T rfl (Lk.there (Lk.there (Lk.there Lk.here))) rfl) (ev_tup (ad_cons (ev_name T rfl (Lk.there (Lk.there (Lk.there (Lk.there (Lk.there (Lk.there Lk.here)))))) rfl) ad_nil) rfl) (by simpa only [List.length_map] using hz13)) (by rw [← List.map_append])) (av_cons (ev_name T rfl (Lk.there (Lk.there (Lk.there (Lk.there Lk.here)))) rfl) (av_cons (ev_name T rfl (Lk.there (Lk.there (Lk.there (Lk.there (Lk.there Lk.here))))) rfl) av_nil)))))) (Sp_walk_any_s.mk (cs0 := cs0) (m0 := m0) (xs0 := xs0) (program_0 := program_0) (f_0 := f_0) (x := zx_12) (path_0 := (before_0 ++ ([(x_3i : Int)] : (List Int)))) (ways_0 := ways_1) (met_0 := c_2) h0 hx0 (by wtm_at "g.pre") (by wtm_at "g.pre")) rfl) (by subst er_7; rfl) (by subst er_7; rfl)) (Put.there (Put.there (Put.there (Put.there Put.here)))) ?_ rfl)
      show SX _ _ _ _ _ _
      refine sx_cons (s1_if (tv_gt (ev_is (t := .val (.int (r_7.length : Int))) (ev_len z_len rfl (ev_name T rfl (Lk.there (Lk.there (Lk.there (Lk.there Lk.here)))) rfl) (rc_lenLv)) (by simp only [List.length_map])) (ev_glo G_MOST_WAYS rfl)) (fun z => absurd z (by wtm_at "g.sure")) (fun _ => ?_))
      refine sx_nil ?_
      show SX _ _ _ _ _ _
      refine sx_nil ?_
      exact ⟨(r_7, c_2), h, (by wtm_at "g.inv"), (At.same (Le.same (Le.same (Le.same (Le.same (Le.same (Le.same (Le.lose (Le.lose Le.nil)))))))))⟩
    | claim zc_14 =>
      try dsimp only at h
      show SX _ _ _ [some (.val (.tuple (program_0.map e_tup_str_str_tupl_str_tupl_str_tupl_Clm_tupl_Clm_tupl_Fst))), some (.val (.str f_0)), some (.val (.tuple (body_0.map Fst.D))), some (.val (.tuple (before_0.map PyData.int))), some (.val (.list (ways_1.map e_lst_Row))), some (.cell m0), some (.val (.int (x_3i : Int))), some (.val (.tuple [(.str ("claim" : Str)), (Clm.D zc_14)]))] (growD cs0 m0 xs0 c_2) _
      replace h := letF_elim h
      obtain ⟨r_8, er_8, h⟩ := h
      replace h := letF_elim h
      obtain ⟨c_9, ec_9, h⟩ := h
      have hz15 : (before_0).length + (([(x_3i : Int)] : (List Int))).length ≤ 1000000 := by wtm_at "g.sd"
      have hwr_r_8 : WaysJ r_8 920 := by (subst er_8; first | exact (hwx.behind (k := 20) (Nat.le_of_ble_eq_true rfl)) | exact (claim_ok hwx).1.mono (by omega))
      have hwl_r_8 := hwr_r_8.1
      refine sx_cons (s1_set TL rfl (ev_as (t := .val (.list (r_8.map e_lst_Row))) (cs2 := (growD cs0 m0 xs0 c_9)) (ev_callI C_walk_claim_s hr (by first | decide | omega) rfl (av_cons (ev_name T rfl Lk.here rfl) (av_cons (ev_name T rfl (Lk.there Lk.here) rfl) (av_cons (ev_name T rfl (Lk.there (Lk.there (Lk.there (Lk.there (Lk.there (Lk.there (Lk.there Lk.here))))))) rfl) (av_cons (ev_is (t := .val (.tuple ((before_0 ++ ([(x_3i : Int)] : (List Int))).map PyData.int))) (ev_catT (ds := before_0.map PyData.int) (es := ([(x_3i : Int)] : (List Int)).map PyData.int) (ev_name T rfl (Lk.there (Lk.there (Lk.there Lk.here))) rfl) (ev_tup (ad_cons (ev_name T rfl (Lk.there (Lk.there (Lk.there (Lk.there (Lk.there (Lk.there Lk.here)))))) rfl) ad_nil) rfl) (by simpa only [List.length_map] using hz15)) (by rw [← List.map_append])) (av_cons (ev_name T rfl (Lk.there (Lk.there (Lk.there (Lk.there Lk.here)))) rfl) (av_cons (ev_name T rfl (Lk.there (Lk.there (Lk.there (Lk.there (Lk.there Lk.here))))) rfl) av_nil)))))) (Sp_walk_claim_s.mk (cs0 := cs0) (m0 := m0) (xs0 := xs0) (program_0 := program_0) (f_0 := f_0) (c := zc_14) (path_0 := (before_0 ++ ([(x_3i : Int)] : (List Int)))) (ways_0 := ways_1) (met_0 := c_2) h0 hx0 (by wtm_at "g.pre") (by wtm_at "g.pre")) rfl) (by subst er_8; subst ec_9; rfl) (by subst er_8; subst ec_9; rfl)) (Put.there (Put.there (Put.there (Put.there Put.here)))) ?_ rfl)
      show SX _ _ _ _ _ _
      refine sx_cons (s1_if (tv_gt (ev_is (t := .val (.int (r_8.length : Int))) (ev_len z_len rfl (ev_name T rfl (Lk.there (Lk.there (Lk.there (Lk.there Lk.here)))) rfl) (rc_lenLv)) (by simp only [List.length_map])) (ev_glo G_MOST_WAYS rfl)) (fun z => absurd z (by wtm_at "g.sure")) (fun _ => ?_))
      refine sx_nil ?_
      show SX _ _ _ _ _ _
      refine sx_nil ?_
      exact ⟨(r_8, c_9), h, (by wtm_at "g.inv"), (At.same (Le.same (Le.same (Le.same (Le.same (Le.same (Le.same (Le.lose (Le.lose Le.nil)))))))))⟩
  case dn2 =>
    clear h
    rintro ⟨ways_1, c_2⟩ hJ1 h slx hlx
    try dsimp only at h hJ1
    refine sx_weak hlx ?_
    show SX _ _ _ [some (.val (.tuple (program_0.map e_tup_str_str_tupl_str_tupl_str_tupl_Clm_tupl_Clm_tupl_Fst))), some (.val (.str f_0)), some (.val (.tuple (body_0.map Fst.D))), some (.val (.tuple (before_0.map PyData.int))), some (.val (.list (ways_1.map e_lst_Row))), some (.cell m0), none, none] (growD cs0 m0 xs0 c_2) _
    refine sx_cons (s1_ret (ev_name T rfl (Lk.there (Lk.there (Lk.there (Lk.there Lk.here)))) rfl) ?_)
    show RetOk _ _ _ _ _
    subst h
    exact .all
end
theorem walk_ok {P : List PrcT} {f : Str} {body : List Fst} {path : List Int} {ws : List (List Row)} {met : List DutyT} (h : WaysJ ws 400) (hm : met.length ≤ 300) (hb : body.length ≤ 40) : WaysJ (m_walk P f body path ws met).1 880 ∧ (m_walk P f body path ws met).2.length ≤ 600 := by
  refine forL_inv (Q := fun (r : List (List Row) × List DutyT) => WaysJ r.1 880 ∧ r.2.length  ≤ 600) (fun (l : List (Nat × Fst)) (s : List (List Row) × List DutyT) => WJ s.1 s.2 l.length) (fun s hs => ⟨hs.ww, by have := hs.mm; simpa using this⟩) _ _ (fun x hx xs s n hJ hn => ?_) (WJ.start h (by rw [enumL_len]; exact hb) hm)
  obtain ⟨i, z⟩ := x
  cases z with
  | set x t c => exact hn _ (WJ.set (P := P) (f := f) (path := path ++ [(i : Int)]) hJ)
  | put r p t c => exact hn _ (WJ.put (P := P) (f := f) (path := path ++ [(i : Int)]) hJ)
  | any x => exact hn _ (WJ.any (P := P) (f := f) (path := path ++ [(i : Int)]) hJ)
  | claim c => exact hn _ (WJ.claim (P := P) (f := f) (path := path ++ [(i : Int)]) hJ)
theorem fw_len {p : PrcT} (h : PrcOk p) : (m_first_way p).length ≤ 290 := by
  have h1 := no_len p h
  have h2 := List.length_filter_le (fun y => (!memB y p.2.2.1)) (m_numbers_of p)
  have h3 := h.n
  show (((m_numbers_of p).filter fun y => (!memB y p.2.2.1)).map _ ++ _).length ≤ 290
  rw [List.length_append, List.length_map, List.length_map]
  omega
local macro_rules | `(tactic| wtm_at "g.pre") => `(tactic| first | assumption | omega | (subst_vars; assumption) | exact Nat.zero_le _ | fail)
local macro_rules | `(tactic| wtm_at "g.inv") => `(tactic| ((try dsimp only); first | omega | (simp only [List.length_append, List.length_cons, List.length_nil] at *; omega) | (subst_vars; simp only [List.length_append, List.length_cons, List.length_nil] at *; omega) | fail))
def m_duties_of (program_0 : (List (Str × Str × (List Str) × (List Str) × (List Clm) × (List Clm) × (List Fst)))) (proc_0 : (Str × Str × (List Str) × (List Str) × (List Clm) × (List Clm) × (List Fst))) : (List (Str × Str × (List Int) × Int × (List Row) × Clm)) := letF (m_first_way proc_0) fun r_1 => letF (m_walk program_0 proc_0.2.1 proc_0.2.2.2.2.2.2 ([] : (List Int)) ([r_1] : (List (List Row))) ([] : (List (Str × Str × (List Int) × Int × (List Row) × Clm)))).1 fun r_2 => letF (m_walk program_0 proc_0.2.1 proc_0.2.2.2.2.2.2 ([] : (List Int)) ([r_1] : (List (List Row))) ([] : (List (Str × Str × (List Int) × Int × (List Row) × Clm)))).2 fun c_3 => letF (m_note_t c_3 (proc_0.2.1, ("give" : Str), ([] : (List Int))) proc_0.2.2.2.2.2.1 r_2) fun c_4 => c_4
section
variable {P : Program} {w : World} {K : PySem.W.Frag} {mg : Str → Option Value} {base : Heap}
inductive Sp_duties_of : Spec
  | mk {cs cs0 : Cs} {m0 : Nat} {program_0 : (List (Str × Str × (List Str) × (List Str) × (List Clm) × (List Clm) × (List Fst)))} {proc_0 : (Str × Str × (List Str) × (List Str) × (List Clm) × (List Clm) × (List Fst))} (ec : cs0 = cs ++ [.lst []]) (em : m0 = cs.length) (hp : PrcOk proc_0) (hok : ∀ x ∈ proc_0.2.2.1, PyData.strOk x = true) : Sp_duties_of [.val (.tuple (program_0.map e_tup_str_str_tupl_str_tupl_str_tupl_Clm_tupl_Clm_tupl_Fst)), .val (.tuple [(.str proc_0.1), (.str proc_0.2.1), (.tuple (proc_0.2.2.1.map PyData.str)), (.tuple (proc_0.2.2.2.1.map PyData.str)), (.tuple (proc_0.2.2.2.2.1.map Clm.D)), (.tuple (proc_0.2.2.2.2.2.1.map Clm.D)), (.tuple (proc_0.2.2.2.2.2.2.map Fst.D))])] cs (.cell m0) (growD cs0 m0 [] (m_duties_of program_0 proc_0))
theorem cal_duties_of (D : DefAt K mg "duties_of" s_duties_of P_duties_of) (C_first_way : Cal P w K mg base 7 "first_way" 1 Sp_first_way) (C_walk : Cal P w K mg base 3 "walk" 6 Sp_walk) (C_note_t : Cal P w K mg base 1 "note" 4 Sp_note_t) : Cal P w K mg base 8 "duties_of" 2 Sp_duties_of := by
  refine cal_def D sc_duties_of tb_duties_of (fun f cdv A outer s0 H E hr T TL svs cs sv cs1 hsp hl => ?_)
  cases hsp with
  | @mk cs cs0 m0 program_0 proc_0 ec em hp hok =>
  have h0 : cs0[m0]? = some (.lst []) := by rw [ec, em]; exact snocAt _ _
  have hx0 : ([] : List SV).length ≤ 1000 := Nat.zero_le _
  have ac : AppC cs (.lst []) m0 (growD cs0 m0 [] ([] : List DutyT)) := by
    rw [show growD cs0 m0 [] ([] : List DutyT) = cs0 from grow_nil h0, ec, em]
    exact AppC.of _ _
  obtain ⟨R0, h⟩ : ∃ R0, (m_duties_of program_0 proc_0) = R0 := ⟨_, rfl⟩
  rw [h]
  unfold m_duties_of at h
  have hpa := hp.a
  have hpr := hp.r
  have hpn := hp.n
  have hpg := hp.g
  have hpb := hp.b
  have hpo := hp.o
  show SX _ _ _ [some (.val (.tuple (program_0.map e_tup_str_str_tupl_str_tupl_str_tupl_Clm_tupl_Clm_tupl_Fst))), some (.val (.tuple [(.str proc_0.1), (.str proc_0.2.1), (.tuple (proc_0.2.2.1.map PyData.str)), (.tuple (proc_0.2.2.2.1.map PyData.str)), (.tuple (proc_0.2.2.2.2.1.map Clm.D)), (.tuple (proc_0.2.2.2.2.2.1.map Clm.D)), (.tuple (proc_0.2.2.2.2.2.2.map Fst.D))])), none, none] cs _
  refine sx_cons (s1_set TL rfl (ev_lstC (ss := []) av_nil ac rfl) (Put.there (Put.there Put.here)) ?_ rfl)
  show SX _ _ _ _ _ _
  replace h := letF_elim h
  obtain ⟨r_1, er_1, h⟩ := h
  replace h := letF_elim h
  obtain ⟨r_2, er_2, h⟩ := h
  replace h := letF_elim h
  obtain ⟨c_3, ec_3, h⟩ := h
  have hfw := fw_len hp
  rw [er_1] at hfw
  have hwj : WaysJ [r_1] 400 := ⟨rfl, fun w hw => by rw [List.mem_singleton] at hw; rw [hw]; omega⟩
  have hwk := walk_ok (P := program_0) (f := proc_0.2.1) (path := []) (met := []) hwj (by decide) hpb
  rw [er_2, ec_3] at hwk
  have hwk1 := hwk.1.1
  have hwk2 := hwk.2
  refine sx_cons (s1_set TL rfl (ev_as (t := .val (.list (r_2.map e_lst_Row))) (cs2 := (growD cs0 m0 [] c_3)) (ev_callI C_walk hr (by first | decide | omega) rfl (av_cons (ev_name T rfl Lk.here rfl) (av_cons (ev_ixT (ev_name T rfl (Lk.there Lk.here) rfl) ev_int rfl) (av_cons (ev_ixT (ev_name T rfl (Lk.there Lk.here) rfl) ev_int rfl) (av_cons (ev_tup ad_nil rfl) (av_cons (ev_lstV (ad_cons (ev_as (t := .val (.list (r_1.map Row.D))) (cs2 := (growD cs0 m0 [] ([] : (List (Str × Str × (List Int) × Int × (List Row) × Clm))))) (ev_callM (κ := []) C_first_way hr (by first | decide | omega) rfl (av_cons (ev_name T rfl (Lk.there Lk.here) rfl) av_nil) Sel.nil (RenA.val RenA.nil) (Sp_first_way.mk (proc_0 := proc_0) (by wtm_at "g.pre") (by wtm_at "g.pre")) SetA.nil (List.prefix_refl _) rfl (by decide) rfl) (by subst er_1; rfl) (by subst er_1; rfl)) ad_nil) rfl) (av_cons (ev_name T rfl (Lk.there (Lk.there Lk.here)) rfl) av_nil)))))) (Sp_walk.mk (cs0 := cs0) (m0 := m0) (xs0 := []) (program_0 := program_0) (f_0 := proc_0.2.1) (body_0 := proc_0.2.2.2.2.2.2) (before_0 := ([] : (List Int))) (ways_0 := ([r_1] : (List (List Row)))) (met_0 := ([] : (List (Str × Str × (List Int) × Int × (List Row) × Clm)))) h0 hx0 (by wtm_at "g.pre") (by wtm_at "g.pre") (by wtm_at "g.pre") (by wtm_at "g.pre")) rfl) (by subst er_2; subst ec_3; rfl) (by subst er_2; subst ec_3; rfl)) (Put.there (Put.there (Put.there Put.here))) ?_ rfl)
  show SX _ _ _ _ _ _
  replace h := letF_elim h
  obtain ⟨c_4, ec_4, h⟩ := h
  refine sx_cons (s1_expr (ev_as (t := .val .none) (cs2 := (growD cs0 m0 [] c_4)) (ev_callI C_note_t hr (by first | decide | omega) rfl (av_cons (ev_name T rfl (Lk.there (Lk.there Lk.here)) rfl) (av_cons (ev_tup (ad_cons (ev_ixT (ev_name T rfl (Lk.there Lk.here) rfl) ev_int rfl) (ad_cons ev_str (ad_cons (ev_tup ad_nil rfl) ad_nil))) rfl) (av_cons (ev_ixT (ev_name T rfl (Lk.there Lk.here) rfl) ev_int rfl) (av_cons (ev_name T rfl (Lk.there (Lk.there (Lk.there Lk.here))) rfl) av_nil)))) (Sp_note_t.mk (cs0 := cs0) (m0 := m0) (xs0 := []) (met_0 := c_3) (head_0 := (proc_0.2.1, ("give" : Str), ([] : (List Int)))) (claims_0 := proc_0.2.2.2.2.2.1) (ways_0 := r_2) h0 hx0 (by wtm_at "g.pre") (by wtm_at "g.pre") (by wtm_at "g.pre")) rfl) (by subst ec_4; rfl) (by subst ec_4; rfl)) ?_)
  show SX _ _ _ _ _ _
  refine sx_cons (s1_ret (ev_name T rfl (Lk.there (Lk.there Lk.here)) rfl) ?_)
  show RetOk _ _ _ _ _
  subst h
  exact .all
end
theorem do_len {P : List PrcT} {p : PrcT} (h : PrcOk p) : (m_duties_of P p).length ≤ 610 := by
  have h1 := fw_len h
  have hw : WaysJ [m_first_way p] 400 := ⟨rfl, fun w hw => by rw [List.mem_singleton] at hw; rw [hw]; omega⟩
  obtain ⟨a, c⟩ := walk_ok (P := P) (f := p.2.1) (path := []) (met := []) hw (by decide) h.b
  have hg := h.g
  show (m_note_t (m_walk P p.2.1 p.2.2.2.2.2.2 [] [m_first_way p] []).2 (p.2.1, "give", []) p.2.2.2.2.2.1 (m_walk P p.2.1 p.2.2.2.2.2.2 [] [m_first_way p] []).1).length ≤ 610
  obtain ⟨w, hw2⟩ := one_way a.1
  rw [hw2, note_t_is, List.length_append, List.length_map, enumL_len]
  omega
/-- the cells behind duties: the list told, the one that duties_of told, three of each duty -/
def dutC (cs : Cs) (ds : List DutyT) : Cs := (growD ((cs ++ [.lst []]) ++ [.lst []]) (cs.length + 1) [] ds).set cs.length (.lst (refs (cs.length + 2) (ds.map dq)))
abbrev prcD (p : PrcT) : PyData := e_tup_str_str_tupl_str_tupl_str_tupl_Clm_tupl_Clm_tupl_Fst p
section
variable {P : Program} {w : World} {K : PySem.W.Frag} {mg : Str → Option Value} {base : Heap}
inductive Sp_duties1 : Spec
  | mk {cs : Cs} {p : PrcT} (hp : PrcOk p) (hok : ∀ x ∈ p.2.2.1, PyData.strOk x = true) : Sp_duties1 [.val (.tuple [prcD p])] cs (.cell cs.length) (dutC cs (m_duties_of [p] p))
inductive Sp_duties0 : Spec
  | mk {cs : Cs} : Sp_duties0 [.val (.tuple [])] cs (.cell cs.length) (cs ++ [.lst []])
theorem cal_duties0 (D : DefAt K mg "duties" s_duties P_duties) : Cal P w K mg base 9 "duties" 1 Sp_duties0 := by
  refine cal_def D sc_duties tb_duties (fun f cdv A outer s0 H E hr T TL svs cs sv cs1 hsp hl => ?_)
  cases hsp
  show SX _ _ _ [some (.val (.tuple [])), none, none] cs _
  refine sx_cons (s1_set TL rfl (ev_lstC (ss := []) av_nil (AppC.of _ _) rfl) (Put.there Put.here) ?_ rfl)
  show SX _ _ _ [some (.val (.tuple [])), some (.cell cs.length), none] (cs ++ [.lst []]) _
  refine sx_cons (s1_forF PassesOwn.never rfl (iv_tup (ds := []) (ev_name T rfl Lk.here rfl)) (fun _ => [some (.val (.tuple [])), some (.cell cs.length), none]) (fun _ => cs ++ [.lst []]) (Le.refl _) rfl (fun _ _ => trivial) ?_ ?_)
  · intro i s hs
    exact absurd hs (by simp)
  · intro slx hlx
    refine sx_weak hlx ?_
    show SX _ _ _ [some (.val (.tuple [])), some (.cell cs.length), none] (cs ++ [.lst []]) _
    exact sx_cons (s1_ret (ev_name T rfl (Lk.there Lk.here) rfl) .all)
theorem cal_duties1 (D : DefAt K mg "duties" s_duties P_duties) (C_duties_of : Cal P w K mg base 8 "duties_of" 2 Sp_duties_of) : Cal P w K mg base 9 "duties" 1 Sp_duties1 := by
  refine cal_def D sc_duties tb_duties (fun f cdv A outer s0 H E hr T TL svs cs sv cs1 hsp hl => ?_)
  cases hsp with
  | @mk cs p hp hok =>
  have hdl := do_len (P := [p]) hp
  obtain ⟨ds, eds⟩ : ∃ ds, m_duties_of [p] p = ds := ⟨_, rfl⟩
  rw [eds] at hdl ⊢
  have h0 : ((cs ++ [CC.lst []]) ++ [CC.lst []])[cs.length + 1]? = some (.lst []) := by
    have := snocAt (cs ++ [CC.lst []]) (.lst [])
    rwa [List.length_append] at this
  have hl2 : ((cs ++ [CC.lst []]) ++ [CC.lst []]).length = cs.length + 2 := by rw [List.length_append, List.length_append]; rfl
  have ha : (growD ((cs ++ [CC.lst []]) ++ [CC.lst []]) (cs.length + 1) [] ds)[cs.length + 1]? = some (.lst ([] ++ refs (cs.length + 2) (ds.map dq))) := by
    have := grow_at h0 (ds.map dq)
    rwa [hl2] at this
  have hb : (growD ((cs ++ [CC.lst []]) ++ [CC.lst []]) (cs.length + 1) [] ds)[cs.length]? = some (.lst []) := by
    unfold growD grow
    rw [List.getElem?_append_left (by rw [List.length_set]; omega), List.getElem?_set_ne (by omega), List.append_assoc, List.getElem?_append_right (Nat.le_refl _), Nat.sub_self]
    rfl
  show SX _ _ _ [some (.val (.tuple [prcD p])), none, none] cs _
  refine sx_cons (s1_set TL rfl (ev_lstC (ss := []) av_nil (AppC.of _ _) rfl) (Put.there Put.here) ?_ rfl)
  show SX _ _ _ [some (.val (.tuple [prcD p])), some (.cell cs.length), none] (cs ++ [.lst []]) _
  refine sx_cons (s1_forF PassesOwn.never rfl (iv_tup (ds := [prcD p]) (ev_name T rfl Lk.here rfl)) (fun _ => [some (.val (.tuple [prcD p])), some (.cell cs.length), none]) (fun i => if i = 0 then cs ++ [.lst []] else dutC cs ds) (Le.same (Le.same (Le.lose Le.nil))) rfl (fun _ _ => trivial) ?_ ?_)
  · intro i s hs
    match i, hs with
    | 0, hs =>
      cases hs
      refine gx_name TL rfl (Put.there (Put.there Put.here)) ?_ rfl
      show SX _ _ _ [some (.val (.tuple [prcD p])), some (.cell cs.length), some (.val (prcD p))] (cs ++ [.lst []]) _
      refine sx_cons (s1_expr (ev_as (t := .val .none) (cs2 := dutC cs ds) (ev_extC (xs := []) (ev_name T rfl (Lk.there Lk.here) rfl) (ev_as (t := .cell (cs.length + 1)) (cs2 := growD ((cs ++ [CC.lst []]) ++ [CC.lst []]) (cs.length + 1) [] ds) (ev_callI C_duties_of hr (by first | decide | omega) rfl (av_cons (ev_name T rfl Lk.here rfl) (av_cons (ev_name T rfl (Lk.there (Lk.there Lk.here)) rfl) av_nil)) (Sp_duties_of.mk (m0 := cs.length + 1) (program_0 := [p]) (proc_0 := p) rfl (by rw [List.length_append]; rfl) hp hok) rfl) rfl (by rw [eds])) (snocAt _ _) hb (IsL.cell ha) (PutC.of (by unfold growD; rw [grow_len]; omega)) (by rw [List.nil_append, refs_len, List.length_map]; show 0 + _ ≤ _; omega)) rfl rfl) ?_)
      show SX _ _ _ _ _ _
      refine sx_nil ?_
      exact At.same (Le.same (Le.same (Le.lose Le.nil)))
    | i + 1, hs => exact absurd hs (by simp)
  · intro slx hlx
    refine sx_weak hlx ?_
    show SX _ _ _ [some (.val (.tuple [prcD p])), some (.cell cs.length), none] (dutC cs ds) _
    exact sx_cons (s1_ret (ev_name T rfl (Lk.there Lk.here) rfl) .all)
end
local macro_rules | `(tactic| wtm_at "g.pre") => `(tactic| first | assumption | omega | (subst_vars; assumption) | fail)
local macro_rules | `(tactic| wtm_at "g.ixs") => `(tactic| first | (refine ⟨by omega, Int.lt_of_lt_of_le (b := 26) (by omega) (by decide)⟩) | fail)
local macro_rules | `(tactic| wtm_at "d.mul") => `(tactic| first | exact small_mul (by omega) (by omega) | exact bd_mul_small (by assumption) (by omega) | exact bd_mul_small (Scr.bdAt _ _).bd (by omega) | fail)

def m_law_cell (script_0 : Scr) (k_0 : Int) : Int := if (decide (k_0 < (script_0.ns.length : Int))) then (Scr.at script_0 (k_0 : Int).toNat) else letF ((k_0 * 7919) + 5) fun number_1 => joinF (fun (q_3 : (Int)) => letF (((q_3 * q_3) % 2147483629) + 48271) fun number_5 => ((number_5 * number_5) % 2147483587)) fun j_1 => if (decide (0 < (script_0.ns.length : Int))) then letF ((((Scr.at script_0 (((k_0 * 7) % (script_0.ns.length : Int)) : Int).toNat) * 48271) + (k_0 * 7919)) % 2147483647) fun number_4 => j_1 (number_4) else j_1 (number_1)
section
variable {P : Program} {w : World} {K : PySem.W.Frag} {mg : Str → Option Value} {base : Heap}
inductive Sp_law_cell : Spec
  | mk {script_0 : Scr} {k_0 : Int} (hk : 0 ≤ k_0 ∧ k_0 < 200) : Sp_law_cell [.val (Scr.D script_0), .val (.int k_0)] [] (.val (.int (m_law_cell script_0 k_0))) []
theorem cal_law_cell (D : DefAt K mg "_law_cell" s__law_cell P__law_cell) (z_len : mg "len" = none) : Cal P w K mg base 1 "_law_cell" 2 Sp_law_cell := by
  refine cal_def D sc__law_cell tb__law_cell (fun f cdv A outer s0 H E hr T TL svs cs sv cs1 hsp hl => ?_)
  cases hsp with
  | @mk script_0 k_0 hk =>
  obtain ⟨R0, h⟩ : ∃ R0, (m_law_cell script_0 k_0) = R0 := ⟨_, rfl⟩
  rw [h]
  unfold m_law_cell at h
  have hSl := script_0.len
  show SX _ _ _ [some (.val (Scr.D script_0)), some (.val (.int k_0)), none] [] _
  refine' sx_cons (s1_if (tv_lt (ev_name T rfl (Lk.there Lk.here) rfl) (ev_is (t := .val (.int (script_0.ns.length : Int))) (ev_len z_len rfl (ev_name T rfl Lk.here rfl) (rc_lenLv)) (by simp only [List.length_map]))) ?y2 ?n2)
  case y2 =>
    intro hb1
    have hb1x := hb1
    try simp only [Bool.and_eq_true, Bool.or_eq_true, Bool.and_eq_false_iff, Bool.or_eq_false_iff, decide_eq_true_eq, decide_eq_false_iff_not, Bool.not_eq_true', Bool.not_eq_false', Bool.not_eq_eq_eq_not, Bool.not_true, Bool.not_false] at hb1x
    rw [if_pos hb1] at h
    have sa3 := Scr.atI script_0 (i := k_0) (by wtm_at "g.sd") (by wtm_at "g.sd")
    have sb3 := (Scr.bdAt script_0 (k_0 : Int).toNat).bd
    refine sx_cons (s1_ret (ev_ixLv (ev_name T rfl Lk.here rfl) (ev_name T rfl (Lk.there Lk.here) rfl) sa3) ?_)
    show RetOk _ _ _ _ _
    subst h
    exact ret_val rfl rfl rfl (by wtm_at "d.lt")
  case n2 =>
    intro hb1
    have hb1x := hb1
    try simp only [Bool.and_eq_true, Bool.or_eq_true, Bool.and_eq_false_iff, Bool.or_eq_false_iff, decide_eq_true_eq, decide_eq_false_iff_not, Bool.not_eq_true', Bool.not_eq_false', Bool.not_eq_eq_eq_not, Bool.not_true, Bool.not_false] at hb1x
    rw [if_neg (by rw [hb1]; decide)] at h
    refine sx_nil ?_
    show SX _ _ _ _ _ _
    replace h := letF_elim h
    obtain ⟨number_1, enumber_1, h⟩ := h
    refine sx_cons (s1_set TL rfl (ev_is (t := .val (.int number_1)) (ev_add (ev_mul (ev_name T rfl (Lk.there Lk.here) rfl) ev_int (by wtm_at "d.mul")) ev_int) (by subst enumber_1; rfl)) (Put.there (Put.there Put.here)) ?_ rfl)
    show SX _ _ _ _ _ _
    replace h := joinF_elim h
    obtain ⟨j_1, hj_1, h⟩ := h
    refine' sx_cutA (fun sl1 cs1 => ∃ q_3 : (Int), j_1 q_3 = R0 ∧ (0 ≤ q_3 ∧ q_3 < 4294967296) ∧ sl1 = [some (.val (Scr.D script_0)), some (.val (.int k_0)), some (.val (.int q_3))] ∧ cs1 = []) ?st5 ?rest5
    case st5 =>
      refine' s1_if (tv_gt (ev_is (t := .val (.int (script_0.ns.length : Int))) (ev_len z_len rfl (ev_name T rfl Lk.here rfl) (rc_lenLv)) (by simp only [List.length_map])) ev_int) ?y5 ?n5
      case y5 =>
        intro hb4
        have hb4x := hb4
        try simp only [Bool.and_eq_true, Bool.or_eq_true, Bool.and_eq_false_iff, Bool.or_eq_false_iff, decide_eq_true_eq, decide_eq_false_iff_not, Bool.not_eq_true', Bool.not_eq_false', Bool.not_eq_eq_eq_not, Bool.not_true, Bool.not_false] at hb4x
        rw [if_pos hb4] at h
        replace h := letF_elim h
        obtain ⟨number_4, enumber_4, h⟩ := h
        have md6 := emod_bd ((k_0 * 7)) (m := (script_0.ns.length : Int)) (by wtm_at "g.sd")
        have sa7 := Scr.atI script_0 (i := ((k_0 * 7) % (script_0.ns.length : Int))) (by wtm_at "g.sd") (by wtm_at "g.sd")
        have sb7 := (Scr.bdAt script_0 (((k_0 * 7) % (script_0.ns.length : Int)) : Int).toNat).bd
        refine sx_cons (s1_set TL rfl (ev_is (t := .val (.int number_4)) (ev_mod (ev_add (ev_mul (ev_ixLv (ev_name T rfl Lk.here rfl) (ev_mod (ev_mul (ev_name T rfl (Lk.there Lk.here) rfl) ev_int (by wtm_at "d.mul")) (ev_is (t := .val (.int (script_0.ns.length : Int))) (ev_len z_len rfl (ev_name T rfl Lk.here rfl) (rc_lenLv)) (by simp only [List.length_map])) (by wtm_at "d.side")) sa7) ev_int (by wtm_at "d.mul")) (ev_mul (ev_name T rfl (Lk.there Lk.here) rfl) ev_int (by wtm_at "d.mul"))) ev_int (by wtm_at "d.side")) (by subst enumber_4; rfl)) (Put.there (Put.there Put.here)) ?_ rfl)
        show SX _ _ _ _ _ _
        refine sx_nil ?_
        exact ⟨_, _, ⟨(number_4), h, (by wtm_at "g.inv"), rfl, rfl⟩, (At.same (Le.same (Le.same (Le.same Le.nil))))⟩
      case n5 =>
        intro hb4
        have hb4x := hb4
        try simp only [Bool.and_eq_true, Bool.or_eq_true, Bool.and_eq_false_iff, Bool.or_eq_false_iff, decide_eq_true_eq, decide_eq_false_iff_not, Bool.not_eq_true', Bool.not_eq_false', Bool.not_eq_eq_eq_not, Bool.not_true, Bool.not_false] at hb4x
        rw [if_neg (by rw [hb4]; decide)] at h
        refine sx_nil ?_
        exact ⟨_, _, ⟨(number_1), h, (by wtm_at "g.inv"), rfl, rfl⟩, (At.same (Le.same (Le.same (Le.same Le.nil))))⟩
    clear h
    rintro _ _ ⟨number_2, h, hi1, rfl, rfl⟩
    replace h := hj_1 _ h
    try dsimp only at h hi1
    show SX _ _ _ [some (.val (Scr.D script_0)), some (.val (.int k_0)), some (.val (.int number_2))] [] _
    replace h := letF_elim h
    obtain ⟨number_5, enumber_5, h⟩ := h
    refine sx_cons (s1_set TL rfl (ev_is (t := .val (.int number_5)) (ev_add (ev_mod (ev_mul (ev_name T rfl (Lk.there (Lk.there Lk.here)) rfl) (ev_name T rfl (Lk.there (Lk.there Lk.here)) rfl) (by wtm_at "d.mul")) ev_int (by wtm_at "d.side")) ev_int) (by subst enumber_5; rfl)) (Put.there (Put.there Put.here)) ?_ rfl)
    show SX _ _ _ _ _ _
    refine sx_cons (s1_ret (ev_mod (ev_mul (ev_name T rfl (Lk.there (Lk.there Lk.here)) rfl) (ev_name T rfl (Lk.there (Lk.there Lk.here)) rfl) (by wtm_at "d.mul")) ev_int (by wtm_at "d.side")) ?_)
    show RetOk _ _ _ _ _
    subst h
    exact ret_val rfl rfl rfl (by wtm_at "d.lt")
end
theorem cell_bd (S : Scr) (k : Int) : Bd (m_law_cell S k) := by
  unfold m_law_cell
  simp only [letF, joinF]
  split
  · exact (Scr.bdAt _ _).bd
  · split
    · exact bd_lt (by omega)
    · exact bd_lt (by omega)
theorem chS_len (z : Str) (i : Int) : (chS z i).length = 1 := rfl
theorem rep_len1 (z : Str) (i n : Int) (h : 1 ≤ n ∧ n ≤ 7) : (strRep (chS z i) n).length ≤ 7 := by
  rw [strRep_len, chS_len]
  omega
theorem okS_chS {z : Str} (h : PyData.strOk z = true) (i : Int) : PyData.strOk (chS z i) = true := by
  unfold chS
  cases e : L2.atI z.cps.toList i with
  | none => simp [PyData.strOk]
  | some c =>
    have hm : c ∈ z.cps.toList := by
      unfold L2.atI at e
      cases e2 : L2.ixN z.cps.toList.length i with
      | none => rw [e2] at e; cases e
      | some j =>
        rw [e2] at e
        exact List.mem_of_getElem? e
    have h2 := (Array.all_eq_true_iff_forall_mem.mp h) c (Array.mem_toList_iff.mp hm)
    show Array.all #[c] _ = true
    simpa using h2
theorem okS_app {a b : Str} (ha : PyData.strOk a = true) (hb : PyData.strOk b = true) : PyData.strOk (a ++ b) = true := by
  show (a.cps ++ b.cps).all _ = true
  rw [Array.all_append]
  exact Bool.and_eq_true_iff.mpr ⟨ha, hb⟩
theorem abc_ok : PyData.strOk ("abcdefghijklmnopqrstuvwxyz" : Str) = true := by decide +kernel
theorem okS_take {z : Str} (h : PyData.strOk z = true) (k : Int) : PyData.strOk (takeT z k) = true := by
  unfold PyData.strOk at h ⊢
  rw [← Array.all_toList] at h ⊢
  rw [List.all_eq_true] at h ⊢
  exact fun x hx => h x (List.mem_of_mem_take hx)
theorem okS_drop {z : Str} (h : PyData.strOk z = true) (k : Int) : PyData.strOk (dropT z k) = true := by
  unfold PyData.strOk at h ⊢
  rw [← Array.all_toList] at h ⊢
  rw [List.all_eq_true] at h ⊢
  exact fun x hx => h x (List.mem_of_mem_drop hx)
theorem okS_rep {z : Str} (h : PyData.strOk z = true) (n : Int) : PyData.strOk (strRep z n) = true := by
  have e : ∀ (k : Nat) (acc : Array Nat), acc.all (· < 0x110000) = true → ((List.replicate k z.cps).foldl (· ++ ·) acc).all (· < 0x110000) = true := by
    intro k
    induction k with
    | zero => exact fun acc ha => ha
    | succ k ih =>
      intro acc ha
      rw [List.replicate_succ, List.foldl_cons]
      exact ih _ (by rw [Array.all_append, ha]; exact h)
  exact e _ _ (by simp)
theorem x_len : ("x" : Str).length = 1 := by decide +kernel
theorem w5 {z : Str} (hz : z.length ≤ 7) (hok : PyData.strOk z = true) (i j k : Int) : PyData.strOk ((takeT z i ++ chS ("abcdefghijklmnopqrstuvwxyz" : Str) j) ++ dropT z k) = true ∧ ((takeT z i ++ chS ("abcdefghijklmnopqrstuvwxyz" : Str) j) ++ dropT z k).length ≤ 15 := by
  have h1 := takeT_len z i
  have h2 := dropT_len z k
  refine ⟨okS_app (okS_app (okS_take hok _) (okS_chS abc_ok _)) (okS_drop hok _), ?_⟩
  rw [str_len, str_len, chS_len]
  omega
local macro_rules | `(tactic| wtm_at "g.pre") => `(tactic| first | assumption | omega | (subst_vars; assumption) | fail)
local macro_rules | `(tactic| wtm_at "g.str") => `(tactic| first | omega | (simp [str_len, chS_len]; done) | (simp only [str_len, chS_len]; omega) | fail)
local macro_rules | `(tactic| wtm_at "g.str") => `(tactic| first | (refine Nat.le_trans (Nat.add_le_add ?_ (Nat.le_of_eq x_len)) (by decide : 15 + 1 ≤ 1000000); assumption) | fail)
local macro_rules | `(tactic| wtm_at "g.ixs") => `(tactic| first | (refine ⟨by omega, Int.lt_of_lt_of_le (b := 26) (by omega) (by decide)⟩) | fail)
local macro_rules | `(tactic| wtm_at "d.mul") => `(tactic| first | exact small_mul (by omega) (by omega) | exact bd_mul_small (by assumption) (by omega) | exact bd_mul_small (Scr.bdAt _ _).bd (by omega) | fail)
local macro_rules | `(tactic| wtm_at "g.shp") => `(tactic| first | exact dk_shaped (n := 1) (by assumption) (by decide) | fail)
def m_law_word (cell_here_0 : Int) : Str := letF (1 + (cell_here_0 % 7)) fun size_1 => letF ((cell_here_0 / 7) % 1000000007) fun left_2 => letF (strRep (chS ("abcdefghijklmnopqrstuvwxyz" : Str) (left_2 % 26)) size_1) fun word_here_3 => letF ((left_2 / 26) % size_1) fun at_4 => letF (((takeT word_here_3 at_4) ++ (chS ("abcdefghijklmnopqrstuvwxyz" : Str) ((left_2 / 182) % 26))) ++ (dropT word_here_3 (at_4 + 1))) fun word_here_5 => if (memB word_here_5 ([("is" : Str), ("at" : Str), ("if" : Str), ("to" : Str)] : (List Str))) then (word_here_5 ++ ("x" : Str)) else word_here_5
section
variable {P : Program} {w : World} {K : PySem.W.Frag} {mg : Str → Option Value} {base : Heap}
inductive Sp_law_word : Spec
  | mk {cell_here_0 : Int} (hc : Bd cell_here_0) : Sp_law_word [.val (.int cell_here_0)] [] (.val (.str (m_law_word cell_here_0))) []
theorem cal_law_word (D : DefAt K mg "_law_word" s__law_word P__law_word) : Cal P w K mg base 1 "_law_word" 1 Sp_law_word := by
  refine cal_def D sc__law_word tb__law_word (fun f cdv A outer s0 H E hr T TL svs cs sv cs1 hsp hl => ?_)
  cases hsp with
  | @mk cell_here_0 hc =>
  obtain ⟨R0, h⟩ : ∃ R0, (m_law_word cell_here_0) = R0 := ⟨_, rfl⟩
  rw [h]
  unfold m_law_word at h
  show SX _ _ _ [some (.val (.int cell_here_0)), none, none, none, none, none] [] _
  refine sx_cons (s1_set TL rfl ev_str (Put.there Put.here) ?_ rfl)
  show SX _ _ _ _ _ _
  replace h := letF_elim h
  obtain ⟨size_1, esize_1, h⟩ := h
  refine sx_cons (s1_set TL rfl (ev_is (t := .val (.int size_1)) (ev_add ev_int (ev_mod (ev_name T rfl Lk.here rfl) ev_int (by wtm_at "d.side"))) (by subst esize_1; rfl)) (Put.there (Put.there Put.here)) ?_ rfl)
  show SX _ _ _ _ _ _
  replace h := letF_elim h
  obtain ⟨left_2, eleft_2, h⟩ := h
  refine sx_cons (s1_set TL rfl (ev_is (t := .val (.int left_2)) (ev_mod (ev_div (ev_name T rfl Lk.here rfl) ev_int (by wtm_at "d.div")) ev_int (by wtm_at "d.side")) (by subst eleft_2; rfl)) (Put.there (Put.there (Put.there Put.here))) ?_ rfl)
  show SX _ _ _ _ _ _
  replace h := letF_elim h
  obtain ⟨word_here_3, eword_here_3, h⟩ := h
  have hwl3 : word_here_3.length ≤ 7 := by rw [← eword_here_3]; exact rep_len1 _ _ _ (by omega)
  have hwo3 : PyData.strOk word_here_3 = true := by rw [← eword_here_3]; exact okS_rep (okS_chS abc_ok _) _
  refine sx_cons (s1_set TL rfl (ev_is (t := .val (.str word_here_3)) (ev_mulS' (ev_ixS (ev_name T rfl (Lk.there Lk.here) rfl) (ev_mod (ev_name T rfl (Lk.there (Lk.there (Lk.there Lk.here))) rfl) ev_int (by wtm_at "d.side")) (by wtm_at "g.ixs") (by wtm_at "g.str")) (ev_name T rfl (Lk.there (Lk.there Lk.here)) rfl) (by wtm_at "g.sd") (by wtm_at "g.str")) (by subst eword_here_3; rfl)) (Put.there (Put.there (Put.there (Put.there Put.here)))) ?_ rfl)
  show SX _ _ _ _ _ _
  replace h := letF_elim h
  obtain ⟨at_4, eat_4, h⟩ := h
  have md1 := emod_bd ((left_2 / 26)) (m := size_1) (by wtm_at "g.sd")
  refine sx_cons (s1_set TL rfl (ev_is (t := .val (.int at_4)) (ev_mod (ev_div (ev_name T rfl (Lk.there (Lk.there (Lk.there Lk.here))) rfl) ev_int (by wtm_at "d.div")) (ev_name T rfl (Lk.there (Lk.there Lk.here)) rfl) (by wtm_at "d.side")) (by subst eat_4; rfl)) (Put.there (Put.there (Put.there (Put.there (Put.there Put.here))))) ?_ rfl)
  show SX _ _ _ _ _ _
  replace h := letF_elim h
  obtain ⟨word_here_5, eword_here_5, h⟩ := h
  have tl2 := takeT_len word_here_3 at_4
  have tl3 := dropT_len word_here_3 (at_4 + 1)
  have hw5 := w5 hwl3 hwo3 at_4 ((left_2 / 182) % 26) (at_4 + 1)
  rw [eword_here_5] at hw5
  have hw5a : dkD 1 (PyData.str word_here_5) = true := hw5.1
  have hw5b := hw5.2
  refine sx_cons (s1_set TL rfl (ev_is (t := .val (.str word_here_5)) (ev_addS (ev_addS (ev_slTS (ev_name T rfl (Lk.there (Lk.there (Lk.there (Lk.there Lk.here)))) rfl) (ev_name T rfl (Lk.there (Lk.there (Lk.there (Lk.there (Lk.there Lk.here))))) rfl) (by wtm_at "g.str") (by wtm_at "g.sd")) (ev_ixS (ev_name T rfl (Lk.there Lk.here) rfl) (ev_mod (ev_div (ev_name T rfl (Lk.there (Lk.there (Lk.there Lk.here))) rfl) ev_int (by wtm_at "d.div")) ev_int (by wtm_at "d.side")) (by wtm_at "g.ixs") (by wtm_at "g.str")) (by wtm_at "g.str")) (ev_slFS (ev_name T rfl (Lk.there (Lk.there (Lk.there (Lk.there Lk.here)))) rfl) (ev_add (ev_name T rfl (Lk.there (Lk.there (Lk.there (Lk.there (Lk.there Lk.here))))) rfl) ev_int) (by wtm_at "g.str") (by wtm_at "g.sd")) (by wtm_at "g.str")) (by subst eword_here_5; rfl)) (Put.there (Put.there (Put.there (Put.there Put.here)))) ?_ rfl)
  show SX _ _ _ _ _ _
  refine' sx_cons (s1_if (tv_is (l := (memB word_here_5 ([("is" : Str), ("at" : Str), ("if" : Str), ("to" : Str)] : (List Str)))) (tv_inM (f := PyData.str) (y := word_here_5) (l := ([("is" : Str), ("at" : Str), ("if" : Str), ("to" : Str)] : (List Str))) hr (ev_name T rfl (Lk.there (Lk.there (Lk.there (Lk.there Lk.here)))) rfl) (ev_lstV (ad_cons ev_str (ad_cons ev_str (ad_cons ev_str (ad_cons ev_str ad_nil)))) rfl) eqv_str (by wtm_at "g.shp") (by wtm_at "g.shp")) (by first | rfl | (unfold memB; congr))) ?y5 ?n5)
  case y5 =>
    intro hb4
    have hb4x := hb4
    try simp only [Bool.and_eq_true, Bool.or_eq_true, Bool.and_eq_false_iff, Bool.or_eq_false_iff, decide_eq_true_eq, decide_eq_false_iff_not, Bool.not_eq_true', Bool.not_eq_false', Bool.not_eq_eq_eq_not, Bool.not_true, Bool.not_false] at hb4x
    rw [if_pos hb4] at h
    refine sx_cons (s1_ret (ev_addS (ev_name T rfl (Lk.there (Lk.there (Lk.there (Lk.there Lk.here)))) rfl) ev_str (by wtm_at "g.str")) ?_)
    show RetOk _ _ _ _ _
    subst h
    exact ret_val rfl rfl rfl (by wtm_at "d.lt")
  case n5 =>
    intro hb4
    have hb4x := hb4
    try simp only [Bool.and_eq_true, Bool.or_eq_true, Bool.and_eq_false_iff, Bool.or_eq_false_iff, decide_eq_true_eq, decide_eq_false_iff_not, Bool.not_eq_true', Bool.not_eq_false', Bool.not_eq_eq_eq_not, Bool.not_true, Bool.not_false] at hb4x
    rw [if_neg (by rw [hb4]; decide)] at h
    refine sx_nil ?_
    show SX _ _ _ _ _ _
    refine sx_cons (s1_ret (ev_name T rfl (Lk.there (Lk.there (Lk.there (Lk.there Lk.here)))) rfl) ?_)
    show RetOk _ _ _ _ _
    subst h
    exact ret_val rfl rfl rfl (by wtm_at "d.lt")
end
theorem word_len (c : Int) : (m_law_word c).length ≤ 20 := by
  unfold m_law_word
  dsimp only [letF]
  have h1 := rep_len1 ("abcdefghijklmnopqrstuvwxyz" : Str) (c / 7 % 1000000007 % 26) (1 + c % 7) (by omega)
  generalize strRep (chS ("abcdefghijklmnopqrstuvwxyz" : Str) (c / 7 % 1000000007 % 26)) (1 + c % 7) = z at h1
  have h2 := takeT_len z (c / 7 % 1000000007 / 26 % (1 + c % 7))
  have h3 := dropT_len z (c / 7 % 1000000007 / 26 % (1 + c % 7) + 1)
  have h4 := chS_len ("abcdefghijklmnopqrstuvwxyz" : Str) (c / 7 % 1000000007 / 182 % 26)
  have hx : ("x" : Str).length = 1 := by decide +kernel
  split
  · rw [str_len, str_len, str_len]
    omega
  · rw [str_len, str_len]
    omega
/-! ### what a drawn word is -/
abbrev abcS : Str := "abcdefghijklmnopqrstuvwxyz"
def ltr (i : Int) : Nat := (L2.atI abcS.cps.toList i).getD 0
theorem app_cps (a b : Str) : (a ++ b).cps.toList = a.cps.toList ++ b.cps.toList := Array.toList_append
theorem cps_ext {a b : Str} (h : a.cps.toList = b.cps.toList) : a = b := by
  cases a; cases b
  exact congrArg Str.mk (Array.toList_inj.mp h)
theorem rep_cps (i n : Int) : (strRep (chS abcS i) n).cps.toList = List.replicate n.toNat (ltr i) := by
  have e : ∀ (k : Nat) (acc : Array Nat), ((List.replicate k (chS abcS i).cps).foldl (· ++ ·) acc).toList = acc.toList ++ List.replicate k (ltr i) := by
    intro k
    induction k with
    | zero => intro acc; simp
    | succ k ih =>
      intro acc
      rw [List.replicate_succ, List.foldl_cons, ih, Array.toList_append, List.replicate_succ, List.append_assoc]
      rfl
  have := e n.toNat #[]
  rw [List.nil_append] at this
  exact this
theorem ltr_abc : ∀ i : Nat, i < 26 → 97 ≤ ltr (i : Int) ∧ ltr (i : Int) ≤ 122 := by decide +kernel
theorem ltr_abcI {i : Int} (h0 : 0 ≤ i) (h1 : i < 26) : 97 ≤ ltr i ∧ ltr i ≤ 122 := by
  have := ltr_abc i.toNat (by omega)
  rwa [Int.toNat_of_nonneg h0] at this
theorem ltr_inj : ∀ i : Nat, i < 26 → ∀ j : Nat, j < 26 → ltr (i : Int) = ltr (j : Int) → i = j := by decide +kernel
theorem ltr_injI {i j : Int} (h0 : 0 ≤ i) (h1 : i < 26) (k0 : 0 ≤ j) (k1 : j < 26) (h : ltr i = ltr j) : i = j := by
  have := ltr_inj i.toNat (by omega) j.toNat (by omega) (by rw [Int.toNat_of_nonneg h0, Int.toNat_of_nonneg k0]; exact h)
  omega
abbrev twoS : List Str := [("is" : Str), ("at" : Str), ("if" : Str), ("to" : Str)]
def wsh (b l k n : Nat) : List Nat := (List.replicate n b).take k ++ [l] ++ (List.replicate n b).drop (k + 1)
theorem word_cases (c : Int) : ∃ (l k : Nat) (w0 : Str), k < (1 + c % 7).toNat ∧ (97 ≤ l ∧ l ≤ 122) ∧ w0.cps.toList = wsh (ltr (c / 7 % 1000000007 % 26)) l k (1 + c % 7).toNat ∧ ((w0 ∈ twoS ∧ m_law_word c = w0 ++ ("x" : Str)) ∨ (w0 ∉ twoS ∧ m_law_word c = w0)) := by
  have hs : 0 < 1 + c % 7 := by omega
  have k0 := Int.emod_nonneg (c / 7 % 1000000007 / 26) (b := 1 + c % 7) (by omega)
  have k1 := Int.emod_lt_of_pos (c / 7 % 1000000007 / 26) hs
  refine ⟨ltr (c / 7 % 1000000007 / 182 % 26), (c / 7 % 1000000007 / 26 % (1 + c % 7)).toNat, ((takeT (strRep (chS abcS (c / 7 % 1000000007 % 26)) (1 + c % 7)) (c / 7 % 1000000007 / 26 % (1 + c % 7))) ++ chS abcS (c / 7 % 1000000007 / 182 % 26)) ++ dropT (strRep (chS abcS (c / 7 % 1000000007 % 26)) (1 + c % 7)) (c / 7 % 1000000007 / 26 % (1 + c % 7) + 1), by omega, ltr_abcI (by omega) (by omega), ?_, ?_⟩
  · rw [app_cps, app_cps]
    show ((strRep (chS abcS _) _).cps.toList.take _) ++ [ltr _] ++ ((strRep (chS abcS _) _).cps.toList.drop _) = _
    rw [rep_cps]
    unfold wsh
    rw [Int.toNat_add k0 (by decide)]
    rfl
  · unfold m_law_word
    dsimp only [letF]
    split
    · rename_i h
      exact .inl ⟨memB_true.mp h, rfl⟩
    · rename_i h
      exact .inr ⟨fun hm => h (memB_true.mpr hm), rfl⟩
theorem wsh_mem {b l k n x : Nat} (h : x ∈ wsh b l k n) : x = b ∨ x = l := by
  unfold wsh at h
  rcases List.mem_append.mp h with h | h
  · rcases List.mem_append.mp h with h | h
    · exact .inl (List.eq_of_mem_replicate (List.mem_of_mem_take h))
    · exact .inr (List.mem_singleton.mp h)
  · exact .inl (List.eq_of_mem_replicate (List.mem_of_mem_drop h))
theorem wsh_len {b l k n : Nat} (h : k < n) : (wsh b l k n).length = n := by
  unfold wsh
  rw [List.length_append, List.length_append, List.length_take, List.length_drop, List.length_replicate]
  show min k n + 1 + (n - (k + 1)) = n
  omega
abbrev tagS : List Str := [("is" : Str), ("at" : Str), ("least" : Str), ("rise" : Str), ("each" : Str), (">=" : Str), ("<=" : Str), ("row" : Str), ("claim" : Str), ("set" : Str), ("put" : Str), ("call" : Str), ("any" : Str), ("out" : Str), ("" : Str)]
def WOk (w : Str) : Prop := PyData.strOk w = true ∧ w.length ≤ 7 ∧ w ∉ tagS
theorem two_x : ∀ w ∈ twoS, (PyData.strOk (w ++ ("x" : Str)) = true ∧ (w ++ ("x" : Str)).length ≤ 7 ∧ (w ++ ("x" : Str)) ∉ tagS) ∧ w.cps.toList.length = 2 := by decide +kernel
theorem tag_cps : ∀ w ∈ tagS, w = "" ∨ w ∈ twoS ∨ w.cps.toList.all (fun x => decide (x < 97)) = true ∨ ∃ a b c, a ∈ w.cps.toList ∧ b ∈ w.cps.toList ∧ c ∈ w.cps.toList ∧ a < b ∧ b < c := by
  intro w hw
  simp only [List.mem_cons, List.not_mem_nil, or_false] at hw
  rcases hw with h | h | h | h | h | h | h | h | h | h | h | h | h | h | h <;> subst h
  · exact .inr (.inl (by decide +kernel))
  · exact .inr (.inl (by decide +kernel))
  · exact .inr (.inr (.inr ⟨97, 101, 108, by decide +kernel⟩))
  · exact .inr (.inr (.inr ⟨101, 105, 114, by decide +kernel⟩))
  · exact .inr (.inr (.inr ⟨97, 99, 101, by decide +kernel⟩))
  · exact .inr (.inr (.inl (by decide +kernel)))
  · exact .inr (.inr (.inl (by decide +kernel)))
  · exact .inr (.inr (.inr ⟨111, 114, 119, by decide +kernel⟩))
  · exact .inr (.inr (.inr ⟨97, 99, 105, by decide +kernel⟩))
  · exact .inr (.inr (.inr ⟨101, 115, 116, by decide +kernel⟩))
  · exact .inr (.inr (.inr ⟨112, 116, 117, by decide +kernel⟩))
  · exact .inr (.inr (.inr ⟨97, 99, 108, by decide +kernel⟩))
  · exact .inr (.inr (.inr ⟨97, 110, 121, by decide +kernel⟩))
  · exact .inr (.inr (.inr ⟨111, 116, 117, by decide +kernel⟩))
  · exact .inl rfl
theorem word_ok (c : Int) : WOk (m_law_word c) := by
  obtain ⟨l, k, w0, hk, hl, hw, h | h⟩ := word_cases c
  · rw [h.2]
    exact (two_x w0 h.1).1
  · rw [h.2]
    have hb := ltr_abcI (i := c / 7 % 1000000007 % 26) (by omega) (by omega)
    have hm : ∀ x ∈ w0.cps.toList, 97 ≤ x ∧ x ≤ 122 := fun x hx => by
      rw [hw] at hx
      rcases wsh_mem hx with e | e <;> subst e
      · exact hb
      · exact hl
    have hlen : w0.cps.toList.length = (1 + c % 7).toNat := by rw [hw, wsh_len hk]
    refine ⟨?_, ?_, fun ht => ?_⟩
    · unfold PyData.strOk
      rw [← Array.all_toList, List.all_eq_true]
      exact fun x hx => decide_eq_true (by have := hm x hx; omega)
    · show w0.cps.size ≤ 7
      rw [← Array.length_toList, hlen]
      omega
    · rcases tag_cps w0 ht with e | e | e | ⟨a, b, d, ha, hb2, hd, h1, h2⟩
      · rw [e] at hlen
        have : (("" : Str).cps.toList.length) = 0 := by decide +kernel
        omega
      · exact h.1 e
      · cases hc : w0.cps.toList with
        | nil => rw [hc] at hlen; simp at hlen; omega
        | cons x xs =>
          rw [hc] at e hm
          have := hm x List.mem_cons_self
          rw [List.all_cons, Bool.and_eq_true] at e
          have := of_decide_eq_true e.1
          omega
      · rw [hw] at ha hb2 hd
        have := wsh_mem ha
        have := wsh_mem hb2
        have := wsh_mem hd
        omega
def maj (w : Str) : Nat := match w.cps.toList with | a :: b :: c :: _ => (if a = b then a else c) | _ => 0
theorem maj_word {c : Int} (h : c % 7 = 6) : maj (m_law_word c) = ltr (c / 7 % 1000000007 % 26) := by
  obtain ⟨l, k, w0, hk, hl, hw, h2 | h2⟩ := word_cases c
  · have := (two_x w0 h2.1).2
    rw [hw, wsh_len hk, h] at this
    exact absurd this (by decide)
  · rw [h2.2]
    unfold maj
    rw [hw, h]
    rw [h] at hk
    generalize ltr (c / 7 % 1000000007 % 26) = b
    have hk : k < 7 := hk
    rcases (by omega : k = 0 ∨ k = 1 ∨ k = 2 ∨ 3 ≤ k) with e | e | e | e
    · subst e
      show (if l = b then l else b) = b
      split
      · assumption
      · rfl
    · subst e
      show (if b = l then b else b) = b
      split <;> rfl
    · subst e
      show (if b = b then b else l) = b
      exact if_pos rfl
    · obtain ⟨j, rfl⟩ : ∃ j, k = j + 3 := ⟨k - 3, by omega⟩
      show (if b = b then b else b) = b
      exact if_pos rfl
theorem pig {α : Type} : ∀ (l : List α) (n : Nat) (f : Nat → α), (∀ i j, i < n → j < n → f i = f j → i = j) → (∀ i, i < n → f i ∈ l) → n ≤ l.length
  | [], n, f, _, hm => by
    rcases Nat.eq_zero_or_pos n with e | e
    · simp [e]
    · exact absurd (hm 0 e) (by simp)
  | a :: l, n, f, hi, hm => by
    by_cases hx : ∃ i, i < n ∧ f i = a
    · obtain ⟨i0, h0, e0⟩ := hx
      have := pig l (n - 1) (fun i => if i < i0 then f i else f (i + 1)) (fun i j h1 h2 e => by
        split at e <;> split at e
        · exact hi _ _ (by omega) (by omega) e
        · have := hi _ _ (by omega) (by omega) e; omega
        · have := hi _ _ (by omega) (by omega) e; omega
        · have := hi _ _ (by omega) (by omega) e; omega) (fun i h1 => by
        split
        · rcases List.mem_cons.mp (hm i (by omega)) with e | e
          · have := hi i i0 (by omega) h0 (e.trans e0.symm); omega
          · exact e
        · rcases List.mem_cons.mp (hm (i + 1) (by omega)) with e | e
          · have := hi (i + 1) i0 (by omega) h0 (e.trans e0.symm); omega
          · exact e)
      rw [List.length_cons]
      omega
    · have := pig l n f hi (fun i h1 => by
        rcases List.mem_cons.mp (hm i h1) with e | e
        · exact absurd ⟨i, h1, e⟩ hx
        · exact e)
      rw [List.length_cons]
      omega
theorem new_word (l : List Str) (c : Int) (h : l.length ≤ 12) : ∃ m : Nat, m < 200 ∧ m_law_word (c + m) ∉ l := by
  refine Classical.byContradiction fun hn => ?_
  have H : ∀ m : Nat, m < 200 → m_law_word (c + m) ∈ l := fun m hm => Classical.byContradiction fun h2 => hn ⟨m, hm, h2⟩
  obtain ⟨d, hd, hd2⟩ : ∃ d : Nat, d < 7 ∧ (c + d) % 7 = 6 := ⟨((6 - c) % 7).toNat, by omega, by omega⟩
  obtain ⟨j0, hj, hj2⟩ : ∃ j0 : Nat, j0 ≤ 13 ∧ ∀ i : Nat, i < 13 → ((c + d) / 7 + j0 + i) % 1000000007 = ((c + d) / 7 + j0) % 1000000007 + i := by
    rcases (by omega : (c + d) / 7 % 1000000007 + 12 < 1000000007 ∨ 1000000007 ≤ (c + d) / 7 % 1000000007 + 12) with e | e
    · exact ⟨0, by omega, fun i hi => by omega⟩
    · exact ⟨13, by omega, fun i hi => by omega⟩
  have hw : ∀ i : Nat, i < 13 → maj (m_law_word (c + ((d + 7 * (j0 + i) : Nat) : Int))) = ltr ((((c + d) / 7 + j0) % 1000000007 + i) % 26) := fun i hi => by
    have e1 : c + ((d + 7 * (j0 + i) : Nat) : Int) = (c + d) + 7 * ((j0 : Int) + i) := by push_cast; omega
    rw [e1, maj_word (by omega)]
    have e2 : ((c + d) + 7 * ((j0 : Int) + i)) / 7 = (c + d) / 7 + j0 + i := by omega
    rw [e2, hj2 i hi]
  have := pig l 13 (fun i => m_law_word (c + ((d + 7 * (j0 + i) : Nat) : Int))) (fun i j hi hj3 e => by
    have e2 := congrArg maj e
    rw [hw i hi, hw j hj3] at e2
    have := ltr_injI (by omega) (by omega) (by omega) (by omega) e2
    omega) (fun i hi => H _ (by omega))
  omega
def Wj (l : List Str) (c : Int) (left : Nat) : Prop := ∃ m : Nat, m < left ∧ m_law_word (c + m) ∉ l
theorem Wj.start {l : List Str} {c : Int} (h : l.length ≤ 12) : Wj l c 200 := new_word l c h
theorem Wj.turn {l : List Str} {c : Int} {n : Nat} (h : Wj l c (n + 1)) (hm : m_law_word c ∈ l) : 0 < n ∧ Wj l (c + 1) n := by
  obtain ⟨m, h1, h2⟩ := h
  rcases Nat.eq_zero_or_pos m with e | e
  · subst e
    exact absurd (by simpa using hm) h2
  · refine ⟨by omega, m - 1, by omega, ?_⟩
    have e2 : c + 1 + ((m - 1 : Nat) : Int) = c + m := by omega
    rw [e2]
    exact h2
theorem shp_words {l : List Str} (h : ∀ w ∈ l, WOk w) : SeqAt.shaped (.list (l.map PyData.str)) = true := by
  refine dk_shaped (n := 1) ?_ (by decide)
  show (l.map PyData.str).all (dkD 0) = true
  rw [List.all_eq_true]
  intro d hd
  obtain ⟨x, hx, rfl⟩ := List.mem_map.mp hd
  exact (h x hx).1
theorem WOk_snoc {l : List Str} (h : ∀ w ∈ l, WOk w) {w : Str} (hw : WOk w) : ∀ x ∈ l ++ [w], WOk x := fun x hx => by
  rcases List.mem_append.mp hx with e | e
  · exact h x e
  · rw [List.mem_singleton.mp e]; exact hw
theorem sbd_lt {n : Int} (h : n.natAbs < 18446744073709551616) : Sbd n := ⟨64, by omega, h⟩
theorem cell_sbd (S : Scr) (k : Int) : Sbd (m_law_cell S k) := by
  unfold m_law_cell
  simp only [letF, joinF]
  split
  · exact Scr.bdAt _ _
  · split
    · exact sbd_lt (by omega)
    · exact sbd_lt (by omega)
def BdW (c : Int) (left : Nat) : Prop := ∃ c0 : Int, Sbd c0 ∧ ∃ j : Nat, j + left ≤ 200 ∧ c = c0 + j
theorem BdW.bd {c : Int} {n : Nat} (h : BdW c n) : Bd c := by
  obtain ⟨c0, ⟨b, hb, h1⟩, j, hj, rfl⟩ := h
  refine ⟨b + 8, by omega, ?_⟩
  have : 2 ^ (b + 8) = 2 ^ b * 256 := Nat.pow_add 2 b 8
  have hp : 0 < 2 ^ b := Nat.two_pow_pos b
  omega
theorem BdW.start {c : Int} (h : Sbd c) : BdW c 200 := ⟨c, h, 0, by omega, by omega⟩
theorem BdW.turn {c : Int} {n : Nat} (h : BdW c (n + 1)) : BdW (c + 1) n := by
  obtain ⟨c0, h0, j, hj, rfl⟩ := h
  exact ⟨c0, h0, j + 1, by omega, by omega⟩
set_option hygiene false in
local macro_rules | `(tactic| wtm_at "g.pre") => `(tactic| first | assumption | omega | (subst_vars; assumption) | (refine ⟨by omega, by omega⟩) | exact hw1.2.1.bd | (rw [← er_4]; exact cell_bd _ _) | fail)
set_option hygiene false in
local macro_rules | `(tactic| wtm_at "g.shp") => `(tactic| first | exact dk_shaped (n := 1) (word_ok _).1 (by decide) | exact shp_words hw1.2.2.2 | fail)
set_option hygiene false in
local macro_rules | `(tactic| wtm_at "g.wj") => `(tactic| first | (refine ⟨by decide, Wj.start ?_, ?_, ?_, ?_⟩; (simp only [List.length_cons] at hJ1_1; omega); (rw [← er_4]; exact BdW.start (cell_sbd _ _)); (simp only [List.length_cons] at hJ1_1; omega); exact hJ1_1.2) | (refine ⟨(Wj.turn hw1.1 (memB_true.mp hb6)).1, ?_, ?_, hw1.2.2⟩; (rw [← ecell_here_8]; exact (Wj.turn hw1.1 (memB_true.mp hb6)).2); (rw [← ecell_here_8]; exact hw1.2.1.turn)) | fail)
set_option hygiene false in
local macro_rules | `(tactic| wtm_at "g.inv") => `(tactic| first | (refine ⟨?_, ?_, ?_⟩; (simp only [List.length_append, List.length_cons, List.length_nil] at hJ1_0 ⊢; omega); (simp only [List.length_append, List.length_cons, List.length_nil]; have := hJ1_1.1; simp only [List.length_cons] at this; omega); (rw [← er_9]; exact WOk_snoc hJ1_1.2 (word_ok _))) | (refine ⟨?_, ?_, fun w hw => absurd hw List.not_mem_nil⟩ <;> (simp; done)) | (refine ⟨Nat.le_refl _, ?_, fun w hw => absurd hw List.not_mem_nil⟩; simp) | fail)
def m_law_words (script_0 : Scr) (start_0 : Int) (many_0 : Int) : (List Str) := forL (fun (x_2 : Nat) (s_3 : ((List Str))) n_1 => letF (m_law_cell script_0 (start_0 + (x_2 : Int))) fun r_4 => whileL (fun (s_7 : (Int)) w_1 => if (memB (m_law_word s_7) s_3) then letF (s_7 + 1) fun cell_here_8 => w_1 (cell_here_8) else letF (m_law_word s_7) fun r_9 => n_1 ((s_3 ++ [r_9]))) (200) (r_4) (letF (m_law_word r_4) fun r_9 => n_1 ((s_3 ++ [r_9])))) (fun s_3 : ((List Str)) => s_3) (List.range (many_0 : Int).toNat) (([] : (List Str)))
section
variable {P : Program} {w : World} {K : PySem.W.Frag} {mg : Str → Option Value} {base : Heap}
inductive Sp_law_words : Spec
  | mk {script_0 : Scr} {start_0 : Int} {many_0 : Int} (hs : 0 ≤ start_0 ∧ start_0 < 100) (hm : 0 ≤ many_0 ∧ many_0 ≤ 12) : Sp_law_words [.val (Scr.D script_0), .val (.int start_0), .val (.int many_0)] [] (.val (.list ((m_law_words script_0 start_0 many_0).map PyData.str))) []
theorem cal_law_words (D : DefAt K mg "_law_words" s__law_words P__law_words) (C_law_cell : Cal P w K mg base 1 "_law_cell" 2 Sp_law_cell) (C_law_word : Cal P w K mg base 1 "_law_word" 1 Sp_law_word) (z_range : mg "range" = none) : Cal P w K mg base 2 "_law_words" 3 Sp_law_words := by
  refine cal_def D sc__law_words tb__law_words (fun f cdv A outer s0 H E hr T TL svs cs sv cs1 hsp hl => ?_)
  cases hsp with
  | @mk script_0 start_0 many_0 hs hm =>
  obtain ⟨R0, h⟩ : ∃ R0, (m_law_words script_0 start_0 many_0) = R0 := ⟨_, rfl⟩
  rw [h]
  unfold m_law_words at h
  show SX _ _ _ [some (.val (Scr.D script_0)), some (.val (.int start_0)), some (.val (.int many_0)), none, none, none] [] _
  refine sx_cons (s1_set TL rfl (ev_lstC (ss := []) av_nil AppC.nil rfl) (Put.there (Put.there (Put.there Put.here))) ?_ rfl)
  show SX _ _ _ _ _ _
  refine' sx_cons ?lp2
  refine' s1_forK (List.range (many_0 : Int).toNat) (fun i : Nat => SV.val (.int (i : Int))) _ _ R0 (([] : (List Str))) (fun l_1 (s_3 : ((List Str))) => (s_3.length + 1 * l_1.length ≤ (([] : (List Str))).length + 1 * (List.range (many_0 : Int).toNat).length) ∧ (s_3.length + l_1.length = many_0.toNat ∧ (∀ w ∈ s_3, WOk w))) h PassesOwn.never rfl (iv_range1 z_range rfl (ev_name T rfl (Lk.there (Lk.there Lk.here)) rfl) (by wtm_at "g.sd") (by wtm_at "g.sd")) ?j02 (fun s_3 : ((List Str)) => [some (.val (Scr.D script_0)), some (.val (.int start_0)), some (.val (.int many_0)), some (.cell 0), none, none]) (fun s_3 : ((List Str)) => [(.lst ((s_3.map PyData.str).map SV.val))]) (Le.same (Le.same (Le.same (Le.same (Le.lose (Le.lose Le.nil)))))) rfl (fun _ => trivial) ?tu2 ?dn2
  case j02 => wtm_at "g.inv"
  case tu2 =>
    clear h
    rintro x_2 l_1 c_1 n_1 hm1 hJ1 h
    have hm1p := hm1
    have hm1 := mem_mid hm1
    have hm1r := List.mem_range.mp hm1
    try dsimp only at h hJ1
    obtain ⟨hJ1_0, hJ1_1⟩ := hJ1
    refine gx_name TL rfl (Put.there (Put.there (Put.there (Put.there Put.here)))) ?_ rfl
    show SX _ _ _ [some (.val (Scr.D script_0)), some (.val (.int start_0)), some (.val (.int many_0)), some (.cell 0), some (.val (.int (x_2 : Int))), none] [(.lst ((c_1.map PyData.str).map SV.val))] _
    replace h := letF_elim h
    obtain ⟨r_4, er_4, h⟩ := h
    have p3 := cell_bd script_0 (start_0 + (x_2 : Int))
    refine sx_cons (s1_set TL rfl (ev_as (t := .val (.int r_4)) (cs2 := [(.lst ((c_1.map PyData.str).map SV.val))]) (ev_callM (κ := []) C_law_cell hr (by first | decide | omega) rfl (av_cons (ev_name T rfl Lk.here rfl) (av_cons (ev_add (ev_name T rfl (Lk.there Lk.here) rfl) (ev_name T rfl (Lk.there (Lk.there (Lk.there (Lk.there Lk.here)))) rfl)) av_nil)) Sel.nil (RenA.val (RenA.val RenA.nil)) (Sp_law_cell.mk (script_0 := script_0) (k_0 := (start_0 + (x_2 : Int))) (by wtm_at "g.pre")) SetA.nil (List.prefix_refl _) rfl (by decide) rfl) (by subst er_4; rfl) (by subst er_4; rfl)) (Put.there (Put.there (Put.there (Put.there (Put.there Put.here))))) ?_ rfl)
    show SX _ _ _ _ _ _
    refine' sx_cons ?lp4
    refine' s1_whileK _ _ (200) R0 (r_4) (fun lf_1 (s_7 : (Int)) => 0 < lf_1 ∧ (Wj c_1 s_7 lf_1 ∧ BdW s_7 lf_1 ∧ c_1.length < many_0.toNat ∧ (∀ w ∈ c_1, WOk w))) h PassesOwn.never ?j04 (fun s_7 : (Int) => [some (.val (Scr.D script_0)), some (.val (.int start_0)), some (.val (.int many_0)), some (.cell 0), some (.val (.int (x_2 : Int))), some (.val (.int s_7))]) (fun s_7 : (Int) => [(.lst ((c_1.map PyData.str).map SV.val))]) (Le.same (Le.same (Le.same (Le.same (Le.same (Le.same Le.nil)))))) rfl ?ps4 ?tu4
    case j04 => wtm_at "g.wj"
    case ps4 => exact fun _ z => Nat.lt_irrefl 0 z.1
    case tu4 =>
      clear h
      rintro lf_1 cell_here_5 w_1 ⟨hw1_0, hw1⟩ h
      try dsimp only at h hw1
      have p5 := word_len cell_here_5
      refine' ⟨(memB (m_law_word cell_here_5) c_1), [(.lst ((c_1.map PyData.str).map SV.val))], (tv_is (l := (memB (m_law_word cell_here_5) c_1)) (tv_inMC (f := PyData.str) (y := (m_law_word cell_here_5)) (l := c_1) hr (ev_callM (κ := []) C_law_word hr (by first | decide | omega) rfl (av_cons (ev_name T rfl (Lk.there (Lk.there (Lk.there (Lk.there (Lk.there Lk.here))))) rfl) av_nil) Sel.nil (RenA.val RenA.nil) (Sp_law_word.mk (cell_here_0 := cell_here_5) (by wtm_at "g.pre")) SetA.nil (List.prefix_refl _) rfl (by decide) rfl) (ev_name T rfl (Lk.there (Lk.there (Lk.there Lk.here))) rfl) rfl eqv_str (by wtm_at "g.shp") (by wtm_at "g.shp")) (by first | rfl | (unfold memB; congr))), ?y4, ?n4⟩
      case y4 =>
        intro hb6
        have hb6x := hb6
        try simp only [Bool.and_eq_true, Bool.or_eq_true, Bool.and_eq_false_iff, Bool.or_eq_false_iff, decide_eq_true_eq, decide_eq_false_iff_not, Bool.not_eq_true', Bool.not_eq_false', Bool.not_eq_eq_eq_not, Bool.not_true, Bool.not_false] at hb6x
        rw [if_pos hb6] at h
        show SX _ _ _ [some (.val (Scr.D script_0)), some (.val (.int start_0)), some (.val (.int many_0)), some (.cell 0), some (.val (.int (x_2 : Int))), some (.val (.int cell_here_5))] [(.lst ((c_1.map PyData.str).map SV.val))] _
        replace h := letF_elim h
        obtain ⟨cell_here_8, ecell_here_8, h⟩ := h
        refine sx_cons (s1_set TL rfl (ev_is (t := .val (.int cell_here_8)) (ev_add (ev_name T rfl (Lk.there (Lk.there (Lk.there (Lk.there (Lk.there Lk.here))))) rfl) ev_int) (by subst ecell_here_8; rfl)) (Put.there (Put.there (Put.there (Put.there (Put.there Put.here))))) ?_ rfl)
        show SX _ _ _ _ _ _
        refine sx_nil ?_
        exact ⟨(cell_here_8), h, (by wtm_at "g.wj"), (At.same (Le.same (Le.same (Le.same (Le.same (Le.same (Le.same Le.nil)))))))⟩
      case n4 =>
        intro hb6 slx hlx
        have hb6x := hb6
        try simp only [Bool.and_eq_true, Bool.or_eq_true, Bool.and_eq_false_iff, Bool.or_eq_false_iff, decide_eq_true_eq, decide_eq_false_iff_not, Bool.not_eq_true', Bool.not_eq_false', Bool.not_eq_eq_eq_not, Bool.not_true, Bool.not_false] at hb6x
        rw [if_neg (by rw [hb6]; decide)] at h
        refine sx_weak hlx ?_
        show SX _ _ _ [some (.val (Scr.D script_0)), some (.val (.int start_0)), some (.val (.int many_0)), some (.cell 0), some (.val (.int (x_2 : Int))), some (.val (.int cell_here_5))] [(.lst ((c_1.map PyData.str).map SV.val))] _
        replace h := letF_elim h
        obtain ⟨r_9, er_9, h⟩ := h
        have p7 := word_len cell_here_5
        refine sx_cons (s1_expr (ev_appT (f := PyData.str) (l := c_1) (y := r_9) (ev_name T rfl (Lk.there (Lk.there (Lk.there Lk.here))) rfl) (ev_as (t := .val (.str r_9)) (cs2 := [(.lst ((c_1.map PyData.str).map SV.val))]) (ev_callM (κ := []) C_law_word hr (by first | decide | omega) rfl (av_cons (ev_name T rfl (Lk.there (Lk.there (Lk.there (Lk.there (Lk.there Lk.here))))) rfl) av_nil) Sel.nil (RenA.val RenA.nil) (Sp_law_word.mk (cell_here_0 := cell_here_5) (by wtm_at "g.pre")) SetA.nil (List.prefix_refl _) rfl (by decide) rfl) (by subst er_9; rfl) (by subst er_9; rfl)) rfl rfl PutC.here (by wtm_at "g.sd")) ?_)
        show SX _ _ _ _ _ _
        refine sx_nil ?_
        exact ⟨((c_1 ++ [r_9])), h, (by wtm_at "g.inv"), (At.same (Le.same (Le.same (Le.same (Le.same (Le.lose (Le.lose Le.nil)))))))⟩
  case dn2 =>
    clear h
    rintro c_1 hJ1 h slx hlx
    try dsimp only at h hJ1
    refine sx_weak hlx ?_
    obtain ⟨hJ1_0, hJ1_1⟩ := hJ1
    show SX _ _ _ [some (.val (Scr.D script_0)), some (.val (.int start_0)), some (.val (.int many_0)), some (.cell 0), none, none] [(.lst ((c_1.map PyData.str).map SV.val))] _
    refine sx_cons (s1_ret (ev_name T rfl (Lk.there (Lk.there (Lk.there Lk.here))) rfl) ?_)
    show RetOk _ _ _ _ _
    subst h
    exact ret_frz (c := []) (Nat.le_of_ble_eq_true rfl) rfl (by wtm_at "g.data") rfl rfl rfl (by wtm_at "d.lt")
end
theorem whileL_inv {σ ρ : Type} {body : σ → (σ → ρ) → ρ} {Q : ρ → Prop} (J : Nat → σ → Prop) (h0 : ∀ s, ¬ J 0 s) (hb : ∀ n s cont, J (n + 1) s → (∀ s', J n s' → Q (cont s')) → Q (body s cont)) : ∀ (n : Nat) (s : σ) (z : ρ), J n s → Q (whileL body n s z)
  | 0, s, z, h => absurd h (h0 s)
  | n + 1, s, z, h => hb n s _ h fun s' h' => whileL_inv J h0 hb n s' z h'
theorem words_ok (S : Scr) (a m : Int) (hm : m ≤ 12) : (m_law_words S a m).length = m.toNat ∧ (m_law_words S a m).Nodup ∧ ∀ w ∈ m_law_words S a m, WOk w := by
  unfold m_law_words
  refine forL_inv (Q := fun r : List Str => r.length = m.toNat ∧ r.Nodup ∧ ∀ w ∈ r, WOk w) (fun (rest : List Nat) (s : List Str) => s.length + rest.length = m.toNat ∧ s.Nodup ∧ ∀ w ∈ s, WOk w) (fun s hs => ⟨by have := hs.1; simpa using this, hs.2⟩) _ _ (fun x _ xs s n hs k => ?_) ⟨by simp, List.nodup_nil, fun w hw => absurd hw (by simp)⟩
  dsimp only [letF]
  rw [List.length_cons] at hs
  refine whileL_inv (Q := fun r : List Str => r.length = m.toNat ∧ r.Nodup ∧ ∀ w ∈ r, WOk w) (fun left (c : Int) => Wj s c left) (fun c ⟨m, h1, _⟩ => Nat.not_lt_zero m h1) (fun n c cont hc k2 => ?_) _ _ _ (Wj.start (by omega))
  split
  · rename_i hb
    exact k2 _ (Wj.turn hc (memB_true.mp hb)).2
  · rename_i hb
    have hb : m_law_word c ∉ s := fun h => hb (memB_true.mpr h)
    refine k _ ⟨by rw [List.length_append, List.length_singleton]; omega, ?_, WOk_snoc hs.2.2 (word_ok c)⟩
    rw [List.nodup_append]
    exact ⟨hs.2.1, by simp, fun x hx y hy e => hb (by rw [← List.mem_singleton.mp hy, ← e]; exact hx)⟩
set_option hygiene false in
local macro_rules | `(tactic| wtm_at "g.pre") => `(tactic| first | assumption | omega | (subst_vars; assumption) | (refine ⟨by omega, by omega⟩) | exact cell_bd _ _ | exact bd_div (by assumption) | (subst_vars; first | exact bd_div (bd_div hc) | exact bd_div3 (bd_div hc) | exact bd_div hc) | fail)
/-! ### what of nested tuples stands in a list of texts -/
abbrev TreL := List PyData
abbrev TreL.D (t : TreL) : PyData := .tuple t
def usedD : Nat → List PyData → List Str → List Str
  | 0, _, _ => []
  | d + 1, ds, nums => (ds.map fun x => match x with
    | .tuple ts => usedD d ts nums
    | .str x => if memB x nums then [x] else []
    | _ => []).flatten
def oneD (d : Nat) (nums : List Str) : PyData → List Str
  | .tuple ts => usedD d ts nums
  | .str x => if memB x nums then [x] else []
  | _ => []
theorem usedD_is (d : Nat) (ds : List PyData) (nums : List Str) : usedD (d + 1) ds nums = (ds.map (oneD d nums)).flatten := by
  rw [usedD]
  congr 2
def Dok : Nat → List PyData → Prop
  | 0, _ => False
  | d + 1, ds => ∀ x ∈ ds, match x with
    | .tuple ts => Dok d ts
    | .str x => PyData.strOk x = true
    | .int _ => True
    | _ => False
def nextS (d : Nat) (nums : List Str) (x : PyData) (s : List Str × Option (List Str)) : List Str × Option (List Str) := match x with
  | .tuple ts => (s.1, some (s.2.getD s.1 ++ usedD d ts nums))
  | .str x => if memB x nums then (match s.2 with
    | none => (s.1 ++ [x], none)
    | some y => (s.1, some (y ++ [x]))) else s
  | _ => s
theorem nextS_c (d : Nat) (nums : List Str) (x : PyData) (s : List Str × Option (List Str)) : (nextS d nums x s).2.getD (nextS d nums x s).1 = s.2.getD s.1 ++ oneD d nums x := by
  obtain ⟨a, o⟩ := s
  cases x with
  | tuple ts => rfl
  | str x =>
    show (if memB x nums then _ else _ : List Str × Option (List Str)).2.getD (if memB x nums then _ else _ : List Str × Option (List Str)).1 = _ ++ (if memB x nums then [x] else [])
    cases memB x nums with
    | false => exact (List.append_nil _).symm
    | true => cases o <;> rfl
  | _ => exact (List.append_nil _).symm
theorem usedX (d : Nat) (nums : List Str) (R : List Str) : ∀ (ds : List PyData) (s : List Str × Option (List Str)), forL (fun x s n => n (nextS d nums x s)) (fun s : List Str × Option (List Str) => s.2.getD s.1) ds s = s.2.getD s.1 ++ (ds.map (oneD d nums)).flatten
  | [], s => (List.append_nil _).symm
  | x :: ds, s => by
    show forL _ _ ds (nextS d nums x s) = _
    rw [usedX d nums R ds, nextS_c, List.map_cons, List.flatten_cons, List.append_assoc]
theorem shp_ok {l : List Str} (h : ∀ w ∈ l, PyData.strOk w = true) : SeqAt.shaped (.list (l.map PyData.str)) = true := by
  refine dk_shaped (n := 1) ?_ (by decide)
  show (l.map PyData.str).all (dkD 0) = true
  rw [List.all_eq_true]
  intro d hd
  obtain ⟨x, hx, rfl⟩ := List.mem_map.mp hd
  exact h x hx
abbrev usedF (t : TreL) (nums : List Str) : List Str := usedD 8 t nums
section
variable {P : Program} {w : World} {K : PySem.W.Frag} {mg : Str → Option Value} {base : Heap}
inductive Sp_law_used (d : Nat) : Spec
  | mk {thing_0 : TreL} {nums_0 : List Str} (h : Dok d thing_0 ∧ (usedD d thing_0 nums_0).length ≤ 1000 ∧ ∀ w ∈ nums_0, PyData.strOk w = true) : Sp_law_used d [.val (TreL.D thing_0), .val (.list (nums_0.map PyData.str))] [] (.val (.list ((usedD d thing_0 nums_0).map PyData.str))) []
theorem cal_law_used (D : DefAt K mg "_law_used" s__law_used P__law_used) (z_isinstance : mg "isinstance" = none) (z_tuple : mg "tuple" = none) : ∀ d : Nat, Cal P w K mg base (d + 1) "_law_used" 2 (Sp_law_used d)
  | 0 => cal_zero D fun a c s e h => by
    cases h with
    | mk h => exact h.1
  | d + 1 => by
    have C_law_used := cal_law_used D z_isinstance z_tuple d
    refine cal_def D sc__law_used tb__law_used (fun f cdv A outer s0 H E hr T TL svs cs sv cs1 hsp hl => ?_)
    cases hsp with
    | @mk thing_0 nums_0 hh =>
    obtain ⟨hok, hlen, hnum⟩ := hh
    obtain ⟨R0, hR⟩ : ∃ R0, usedD (d + 1) thing_0 nums_0 = R0 := ⟨_, rfl⟩
    rw [hR] at hlen ⊢
    have h : forL (fun x s n => n (nextS d nums_0 x s)) (fun s : List Str × Option (List Str) => s.2.getD s.1) thing_0 (([] : List Str), none) = R0 := by rw [usedX d nums_0 [], ← hR, usedD_is]; rfl
    show SX _ _ _ [some (.val (.tuple thing_0)), some (.val (.list (nums_0.map PyData.str))), none, none] [] _
    refine sx_cons (s1_set TL rfl (ev_lstC (ss := []) av_nil AppC.nil rfl) (Put.there (Put.there Put.here)) ?_ rfl)
    show SX _ _ _ _ _ _
    refine' sx_cons ?lp2
    refine' s1_forK thing_0 (fun x => SV.val x) _ _ R0 (([] : List Str), (none : Option (List Str))) (fun l s => s.2.getD s.1 ++ (l.map (oneD d nums_0)).flatten = R0) h PassesOwn.never rfl (iv_tup (ds := thing_0) (ev_name T rfl Lk.here rfl)) ?j02 (fun s => [some (.val (.tuple thing_0)), some (.val (.list (nums_0.map PyData.str))), some (.cell (match s.2 with | none => 0 | some _ => 1)), none]) (fun s => match s.2 with | none => [(.lst ((s.1.map PyData.str).map SV.val))] | some y => [(.lst ((s.1.map PyData.str).map SV.val)), (.lst ((y.map PyData.str).map SV.val))]) (Le.same (Le.same (Le.same (Le.lose Le.nil)))) rfl (fun _ => trivial) ?tu2 ?dn2
    case j02 =>
      show [] ++ _ = R0
      rw [← hR, usedD_is]
      rfl
    case tu2 =>
      clear h
      rintro x_2 l_1 ⟨a, o⟩ n_1 hm1 hJ1 h
      have hm1 := mem_mid hm1
      have hx := hok x_2 hm1
      have hJ2 : (nextS d nums_0 x_2 (a, o)).2.getD (nextS d nums_0 x_2 (a, o)).1 ++ (l_1.map (oneD d nums_0)).flatten = R0 := by
        rw [nextS_c, ← hJ1, List.map_cons, List.flatten_cons, List.append_assoc]
      have hle : ((nextS d nums_0 x_2 (a, o)).2.getD (nextS d nums_0 x_2 (a, o)).1).length ≤ 1000 := by
        have := congrArg List.length hJ2
        rw [List.length_append] at this
        omega
      have hle0 : (o.getD a ++ oneD d nums_0 x_2).length ≤ 1000 := by
        rw [nextS_c] at hle
        exact hle
      rw [List.length_append] at hle0
      try dsimp only at h hJ1
      refine gx_name TL rfl (Put.there (Put.there (Put.there Put.here))) ?_ rfl
      cases x_2 with
      | int i =>
        cases o with
        | none =>
          show SX _ _ _ [some (.val (.tuple thing_0)), some (.val (.list (nums_0.map PyData.str))), some (.cell 0), some (.val (.int i))] [(.lst ((a.map PyData.str).map SV.val))] _
          refine sx_cons (s1_if (tv_val (ev_is (t := .val (.bool false)) (ev_isTup z_isinstance rfl (ev_name T rfl (Lk.there (Lk.there (Lk.there Lk.here))) rfl) z_tuple rfl) rfl)) (fun z => absurd z (by decide)) (fun _ => ?_))
          refine sx_cons (s1_if (tv_inIS hr (ev_name T rfl (Lk.there (Lk.there (Lk.there Lk.here))) rfl) (ev_name T rfl (Lk.there Lk.here) rfl) (shp_ok hnum)) (fun z => absurd z (by decide)) (fun _ => ?_))
          refine sx_nil ?_
          show SX _ _ _ _ _ _
          refine sx_nil ?_
          show SX _ _ _ _ _ _
          refine sx_nil ?_
          exact ⟨(a, none), h, hJ2, (At.same (Le.same (Le.same (Le.same (Le.lose Le.nil)))))⟩
        | some y =>
          show SX _ _ _ [some (.val (.tuple thing_0)), some (.val (.list (nums_0.map PyData.str))), some (.cell 1), some (.val (.int i))] [(.lst ((a.map PyData.str).map SV.val)), (.lst ((y.map PyData.str).map SV.val))] _
          refine sx_cons (s1_if (tv_val (ev_is (t := .val (.bool false)) (ev_isTup z_isinstance rfl (ev_name T rfl (Lk.there (Lk.there (Lk.there Lk.here))) rfl) z_tuple rfl) rfl)) (fun z => absurd z (by decide)) (fun _ => ?_))
          refine sx_cons (s1_if (tv_inIS hr (ev_name T rfl (Lk.there (Lk.there (Lk.there Lk.here))) rfl) (ev_name T rfl (Lk.there Lk.here) rfl) (shp_ok hnum)) (fun z => absurd z (by decide)) (fun _ => ?_))
          refine sx_nil ?_
          show SX _ _ _ _ _ _
          refine sx_nil ?_
          show SX _ _ _ _ _ _
          refine sx_nil ?_
          exact ⟨(a, some y), h, hJ2, (At.same (Le.same (Le.same (Le.same (Le.lose Le.nil)))))⟩
      | str x =>
        cases o with
        | none =>
          show SX _ _ _ [some (.val (.tuple thing_0)), some (.val (.list (nums_0.map PyData.str))), some (.cell 0), some (.val (.str x))] [(.lst ((a.map PyData.str).map SV.val))] _
          refine sx_cons (s1_if (tv_val (ev_is (t := .val (.bool false)) (ev_isTup z_isinstance rfl (ev_name T rfl (Lk.there (Lk.there (Lk.there Lk.here))) rfl) z_tuple rfl) rfl)) (fun z => absurd z (by decide)) (fun _ => ?_))
          refine' sx_cons (s1_if (tv_is (l := (memB x nums_0)) (tv_inM (f := PyData.str) (y := x) (l := nums_0) hr (ev_name T rfl (Lk.there (Lk.there (Lk.there Lk.here))) rfl) (ev_name T rfl (Lk.there Lk.here) rfl) eqv_str (dk_shaped (n := 1) hx (by decide)) (shp_ok hnum)) rfl) ?y9 ?n9)
          case y9 =>
            intro hb8
            replace h : n_1 (if memB x nums_0 then (a ++ [x], none) else (a, none)) = R0 := h
            replace hJ2 : (if memB x nums_0 then ((a ++ [x], none) : List Str × Option (List Str)) else (a, none)).2.getD (if memB x nums_0 then ((a ++ [x], none) : List Str × Option (List Str)) else (a, none)).1 ++ (l_1.map (oneD d nums_0)).flatten = R0 := hJ2
            rw [if_pos hb8] at h hJ2
            refine sx_cons (s1_expr (ev_appT (f := PyData.str) (l := a) (y := x) (ev_name T rfl (Lk.there (Lk.there Lk.here)) rfl) (ev_name T rfl (Lk.there (Lk.there (Lk.there Lk.here))) rfl) rfl rfl PutC.here (by have := hle0; dsimp only [Option.getD] at this; omega)) ?_)
            show SX _ _ _ _ _ _
            refine sx_nil ?_
            show SX _ _ _ _ _ _
            refine sx_nil ?_
            show SX _ _ _ _ _ _
            refine sx_nil ?_
            exact ⟨(a ++ [x], none), h, hJ2, (At.same (Le.same (Le.same (Le.same (Le.lose Le.nil)))))⟩
          case n9 =>
            intro hb8
            replace h : n_1 (if memB x nums_0 then (a ++ [x], none) else (a, none)) = R0 := h
            replace hJ2 : (if memB x nums_0 then ((a ++ [x], none) : List Str × Option (List Str)) else (a, none)).2.getD (if memB x nums_0 then ((a ++ [x], none) : List Str × Option (List Str)) else (a, none)).1 ++ (l_1.map (oneD d nums_0)).flatten = R0 := hJ2
            rw [if_neg (by rw [hb8]; decide)] at h hJ2
            refine sx_nil ?_
            show SX _ _ _ _ _ _
            refine sx_nil ?_
            show SX _ _ _ _ _ _
            refine sx_nil ?_
            exact ⟨(a, none), h, hJ2, (At.same (Le.same (Le.same (Le.same (Le.lose Le.nil)))))⟩
        | some y =>
          show SX _ _ _ [some (.val (.tuple thing_0)), some (.val (.list (nums_0.map PyData.str))), some (.cell 1), some (.val (.str x))] [(.lst ((a.map PyData.str).map SV.val)), (.lst ((y.map PyData.str).map SV.val))] _
          refine sx_cons (s1_if (tv_val (ev_is (t := .val (.bool false)) (ev_isTup z_isinstance rfl (ev_name T rfl (Lk.there (Lk.there (Lk.there Lk.here))) rfl) z_tuple rfl) rfl)) (fun z => absurd z (by decide)) (fun _ => ?_))
          refine' sx_cons (s1_if (tv_is (l := (memB x nums_0)) (tv_inM (f := PyData.str) (y := x) (l := nums_0) hr (ev_name T rfl (Lk.there (Lk.there (Lk.there Lk.here))) rfl) (ev_name T rfl (Lk.there Lk.here) rfl) eqv_str (dk_shaped (n := 1) hx (by decide)) (shp_ok hnum)) rfl) ?y9 ?n9)
          case y9 =>
            intro hb8
            replace h : n_1 (if memB x nums_0 then (a, some (y ++ [x])) else (a, some y)) = R0 := h
            replace hJ2 : (if memB x nums_0 then ((a, some (y ++ [x])) : List Str × Option (List Str)) else (a, some y)).2.getD (if memB x nums_0 then ((a, some (y ++ [x])) : List Str × Option (List Str)) else (a, some y)).1 ++ (l_1.map (oneD d nums_0)).flatten = R0 := hJ2
            rw [if_pos hb8] at h hJ2
            refine sx_cons (s1_expr (ev_appT (f := PyData.str) (l := y) (y := x) (ev_name T rfl (Lk.there (Lk.there Lk.here)) rfl) (ev_name T rfl (Lk.there (Lk.there (Lk.there Lk.here))) rfl) rfl rfl (PutC.there PutC.here) (by have := hle0; dsimp only [Option.getD] at this; omega)) ?_)
            show SX _ _ _ _ _ _
            refine sx_nil ?_
            show SX _ _ _ _ _ _
            refine sx_nil ?_
            show SX _ _ _ _ _ _
            refine sx_nil ?_
            exact ⟨(a, some (y ++ [x])), h, hJ2, (At.same (Le.same (Le.same (Le.same (Le.lose Le.nil)))))⟩
          case n9 =>
            intro hb8
            replace h : n_1 (if memB x nums_0 then (a, some (y ++ [x])) else (a, some y)) = R0 := h
            replace hJ2 : (if memB x nums_0 then ((a, some (y ++ [x])) : List Str × Option (List Str)) else (a, some y)).2.getD (if memB x nums_0 then ((a, some (y ++ [x])) : List Str × Option (List Str)) else (a, some y)).1 ++ (l_1.map (oneD d nums_0)).flatten = R0 := hJ2
            rw [if_neg (by rw [hb8]; decide)] at h hJ2
            refine sx_nil ?_
            show SX _ _ _ _ _ _
            refine sx_nil ?_
            show SX _ _ _ _ _ _
            refine sx_nil ?_
            exact ⟨(a, some y), h, hJ2, (At.same (Le.same (Le.same (Le.same (Le.lose Le.nil)))))⟩
      | tuple ts =>
        have hsub : Dok d ts ∧ (usedD d ts nums_0).length ≤ 1000 ∧ ∀ w ∈ nums_0, PyData.strOk w = true := ⟨hx, Nat.le_trans (Nat.le_add_left _ _) hle0, hnum⟩
        cases o with
        | none =>
          show SX _ _ _ [some (.val (.tuple thing_0)), some (.val (.list (nums_0.map PyData.str))), some (.cell 0), some (.val (.tuple ts))] [(.lst ((a.map PyData.str).map SV.val))] _
          refine sx_cons (s1_if (tv_val (ev_is (t := .val (.bool true)) (ev_isTup z_isinstance rfl (ev_name T rfl (Lk.there (Lk.there (Lk.there Lk.here))) rfl) z_tuple rfl) rfl)) (fun _ => ?_) (fun z => absurd z (by decide)))
          have hz12 : a.length + (usedD d ts nums_0).length ≤ 1000000 := Nat.le_trans hle0 (by decide)
          refine sx_cons (s1_set TL rfl (ev_as (t := .cell 1) (cs2 := [(.lst ((a.map PyData.str).map SV.val)), (.lst (((a ++ usedD d ts nums_0).map PyData.str).map SV.val))]) (ev_catC (xs := (a.map PyData.str).map SV.val) (ys := ((usedD d ts nums_0).map PyData.str).map SV.val) (ev_name T rfl (Lk.there (Lk.there Lk.here)) rfl) (ev_callM (κ := []) C_law_used hr (by first | decide | omega) rfl (av_cons (ev_name T rfl (Lk.there (Lk.there (Lk.there Lk.here))) rfl) (av_cons (ev_name T rfl (Lk.there Lk.here) rfl) av_nil)) Sel.nil (RenA.val (RenA.val RenA.nil)) (Sp_law_used.mk (thing_0 := ts) (nums_0 := nums_0) hsub) SetA.nil (List.prefix_refl _) rfl (by decide) rfl) (IsL.cell rfl) IsL.val (by simpa only [List.length_map] using hz12) (AppC.cons AppC.nil)) rfl (by simp only [List.map_append])) (Put.there (Put.there Put.here)) ?_ rfl)
          show SX _ _ _ _ _ _
          refine sx_nil ?_
          show SX _ _ _ _ _ _
          refine sx_nil ?_
          exact ⟨(a, some (a ++ usedD d ts nums_0)), h, hJ2, (At.same (Le.same (Le.same (Le.same (Le.lose Le.nil)))))⟩
        | some y =>
          show SX _ _ _ [some (.val (.tuple thing_0)), some (.val (.list (nums_0.map PyData.str))), some (.cell 1), some (.val (.tuple ts))] [(.lst ((a.map PyData.str).map SV.val)), (.lst ((y.map PyData.str).map SV.val))] _
          refine sx_cons (s1_if (tv_val (ev_is (t := .val (.bool true)) (ev_isTup z_isinstance rfl (ev_name T rfl (Lk.there (Lk.there (Lk.there Lk.here))) rfl) z_tuple rfl) rfl)) (fun _ => ?_) (fun z => absurd z (by decide)))
          have hz12 : y.length + (usedD d ts nums_0).length ≤ 1000000 := Nat.le_trans hle0 (by decide)
          refine sx_cons (s1_set TL rfl (ev_as (t := .cell 2) (cs2 := [(.lst ((a.map PyData.str).map SV.val)), (.lst ((y.map PyData.str).map SV.val)), (.lst (((y ++ usedD d ts nums_0).map PyData.str).map SV.val))]) (ev_catC (xs := (y.map PyData.str).map SV.val) (ys := ((usedD d ts nums_0).map PyData.str).map SV.val) (ev_name T rfl (Lk.there (Lk.there Lk.here)) rfl) (ev_callM (κ := []) C_law_used hr (by first | decide | omega) rfl (av_cons (ev_name T rfl (Lk.there (Lk.there (Lk.there Lk.here))) rfl) (av_cons (ev_name T rfl (Lk.there Lk.here) rfl) av_nil)) Sel.nil (RenA.val (RenA.val RenA.nil)) (Sp_law_used.mk (thing_0 := ts) (nums_0 := nums_0) hsub) SetA.nil (List.prefix_refl _) rfl (by decide) rfl) (IsL.cell rfl) IsL.val (by simpa only [List.length_map] using hz12) (AppC.cons (AppC.cons AppC.nil))) rfl (by simp only [List.map_append])) (Put.there (Put.there Put.here)) ?_ rfl)
          show SX _ _ _ _ _ _
          refine sx_nil ?_
          show SX _ _ _ _ _ _
          refine sx_nil ?_
          exact ⟨(a, some (y ++ usedD d ts nums_0)), h, hJ2, (At.gen (a' := [some (.val (.tuple thing_0)), some (.val (.list (nums_0.map PyData.str))), some (.cell 2), none]) [2] [0, 2] (Le.same (Le.same (Le.same (Le.lose Le.nil)))) rfl (by decide) (SelR.cons rfl (RenC.flat (flat_map _)) (SelR.cons rfl (RenC.flat (flat_map _)) SelR.nil)) rfl rfl)⟩
      | _ => exact absurd hx id
    case dn2 =>
      clear h
      rintro ⟨a, o⟩ hJ1 h slx hlx
      try dsimp only at h hJ1
      refine sx_weak hlx ?_
      subst h
      cases o with
      | none =>
        show SX _ _ _ [some (.val (.tuple thing_0)), some (.val (.list (nums_0.map PyData.str))), some (.cell 0), none] [(.lst ((a.map PyData.str).map SV.val))] _
        refine sx_cons (s1_ret (ev_name T rfl (Lk.there (Lk.there Lk.here)) rfl) ?_)
        show RetOk _ _ _ _ _
        exact ret_frz (c := []) (Nat.le_of_ble_eq_true rfl) rfl (by wtm_at "g.data") rfl rfl rfl (by wtm_at "d.lt")
      | some y =>
        show SX _ _ _ [some (.val (.tuple thing_0)), some (.val (.list (nums_0.map PyData.str))), some (.cell 1), none] [(.lst ((a.map PyData.str).map SV.val)), (.lst ((y.map PyData.str).map SV.val))] _
        refine sx_cons (s1_ret (ev_name T rfl (Lk.there (Lk.there Lk.here)) rfl) ?_)
        show RetOk _ _ _ _ _
        exact ret_frz (c := []) (Nat.le_of_ble_eq_true rfl) rfl (by wtm_at "g.data") rfl rfl rfl (by wtm_at "d.lt")
theorem cal_law_used8 (D : DefAt K mg "_law_used" s__law_used P__law_used) (z_isinstance : mg "isinstance" = none) (z_tuple : mg "tuple" = none) : Cal P w K mg base 9 "_law_used" 2 (Sp_law_used 8) := cal_law_used D z_isinstance z_tuple 8
end
instance : Inhabited Ag := ⟨.is ""⟩
theorem bd_div3 {n : Int} (h : Bd n) : Bd (n / 3 + 1) := by
  obtain ⟨b, hb, h⟩ := h
  rcases (by omega : n.natAbs ≤ 5 ∨ (n / 3 + 1).natAbs ≤ n.natAbs) with e | e
  · exact bd_lt (by omega)
  · exact ⟨b, hb, Nat.lt_of_le_of_lt e h⟩
abbrev e_tup_str_str (q : (Str × Str)) : PyData := .tuple [(.str q.1), (.str q.2)]
abbrev e_tup_str_str_tup_str_str_int (q : (Str × Str × (Str × Str) × Int)) : PyData := .tuple [(.str q.1), (.str q.2.1), (.tuple [(.str q.2.2.1.1), (.str q.2.2.1.2)]), (.int q.2.2.2)]
abbrev e_tup_str_Clm (q : (Str × Clm)) : PyData := .tuple [(.str q.1), (Clm.D q.2)]
def m_law_far (cell_here_0 : Int) : Int := if (decide ((cell_here_0 % 3) = 0)) then (((cell_here_0 / 3) % 2000000000000000001) - 1000000000000000000) else (((cell_here_0 / 3) % 11) - 5)
section
variable {P : Program} {w : World} {K : PySem.W.Frag} {mg : Str → Option Value} {base : Heap}
inductive Sp_law_far : Spec
  | mk {cell_here_0 : Int} (hc : Bd cell_here_0) : Sp_law_far [.val (.int cell_here_0)] [] (.val (.int (m_law_far cell_here_0))) []
theorem cal_law_far (D : DefAt K mg "_law_far" s__law_far P__law_far) : Cal P w K mg base 1 "_law_far" 1 Sp_law_far := by
  refine cal_def D sc__law_far tb__law_far (fun f cdv A outer s0 H E hr T TL svs cs sv cs1 hsp hl => ?_)
  cases hsp with
  | @mk cell_here_0 hc =>
  obtain ⟨R0, h⟩ : ∃ R0, (m_law_far cell_here_0) = R0 := ⟨_, rfl⟩
  rw [h]
  unfold m_law_far at h
  show SX _ _ _ [some (.val (.int cell_here_0))] [] _
  refine' sx_cons (s1_if (tv_eqI (ev_mod (ev_name T rfl Lk.here rfl) ev_int (by wtm_at "d.side")) ev_int) ?y2 ?n2)
  case y2 =>
    intro hb1
    have hb1x := hb1
    try simp only [Bool.and_eq_true, Bool.or_eq_true, Bool.and_eq_false_iff, Bool.or_eq_false_iff, decide_eq_true_eq, decide_eq_false_iff_not, Bool.not_eq_true', Bool.not_eq_false', Bool.not_eq_eq_eq_not, Bool.not_true, Bool.not_false] at hb1x
    rw [if_pos hb1] at h
    refine sx_cons (s1_ret (ev_sub (ev_mod (ev_div (ev_name T rfl Lk.here rfl) ev_int (by wtm_at "d.div")) (ev_is (t := .val (.int 2000000000000000001)) (ev_add (ev_is (t := .val (.int 2000000000000000000)) (ev_mul ev_int (ev_is (t := .val (.int 1000000000000000000)) (ev_pow ev_int ev_int ⟨by decide, by decide, by decide⟩) rfl) (by wtm_at "d.mul")) rfl) ev_int) rfl) (by wtm_at "d.side")) (ev_is (t := .val (.int 1000000000000000000)) (ev_pow ev_int ev_int ⟨by decide, by decide, by decide⟩) rfl)) ?_)
    show RetOk _ _ _ _ _
    subst h
    exact ret_val rfl rfl rfl (by wtm_at "d.lt")
  case n2 =>
    intro hb1
    have hb1x := hb1
    try simp only [Bool.and_eq_true, Bool.or_eq_true, Bool.and_eq_false_iff, Bool.or_eq_false_iff, decide_eq_true_eq, decide_eq_false_iff_not, Bool.not_eq_true', Bool.not_eq_false', Bool.not_eq_eq_eq_not, Bool.not_true, Bool.not_false] at hb1x
    rw [if_neg (by rw [hb1]; decide)] at h
    refine sx_nil ?_
    show SX _ _ _ _ _ _
    refine sx_cons (s1_ret (ev_sub (ev_mod (ev_div (ev_name T rfl Lk.here rfl) ev_int (by wtm_at "d.div")) ev_int (by wtm_at "d.side")) ev_int) ?_)
    show RetOk _ _ _ _ _
    subst h
    exact ret_val rfl rfl rfl (by wtm_at "d.lt")
end
def m_law_place (cell_here_0 : Int) (nums_0 : (List Str)) : (Str × Int) := letF (m_law_far (cell_here_0 / 7)) fun r_1 => ((ixD (nums_0 ++ ([("" : Str)] : (List Str))) (cell_here_0 % ((nums_0.length : Int) + 1))), r_1)
section
variable {P : Program} {w : World} {K : PySem.W.Frag} {mg : Str → Option Value} {base : Heap}
inductive Sp_law_place : Spec
  | mk {cell_here_0 : Int} {nums_0 : (List Str)} (hc : Bd cell_here_0) (hn : nums_0.length ≤ 20) : Sp_law_place [.val (.int cell_here_0), .val (.list (nums_0.map PyData.str))] [] (.val (.tuple [(.str (m_law_place cell_here_0 nums_0).1), (.int (m_law_place cell_here_0 nums_0).2)])) []
theorem cal_law_place (D : DefAt K mg "_law_place" s__law_place P__law_place) (C_law_far : Cal P w K mg base 1 "_law_far" 1 Sp_law_far) (z_len : mg "len" = none) : Cal P w K mg base 2 "_law_place" 2 Sp_law_place := by
  refine cal_def D sc__law_place tb__law_place (fun f cdv A outer s0 H E hr T TL svs cs sv cs1 hsp hl => ?_)
  cases hsp with
  | @mk cell_here_0 nums_0 hc hn =>
  obtain ⟨R0, h⟩ : ∃ R0, (m_law_place cell_here_0 nums_0) = R0 := ⟨_, rfl⟩
  rw [h]
  unfold m_law_place at h
  show SX _ _ _ [some (.val (.int cell_here_0)), some (.val (.list (nums_0.map PyData.str)))] [] _
  replace h := letF_elim h
  obtain ⟨r_1, er_1, h⟩ := h
  have hz1 : (nums_0).length + (([("" : Str)] : (List Str))).length ≤ 1000000 := by wtm_at "g.sd"
  have md2 := emod_bd (cell_here_0) (m := ((nums_0.length : Int) + 1)) (by wtm_at "g.sd")
  have at3 : L2.atI ((nums_0 ++ ([("" : Str)] : (List Str))).map PyData.str) (cell_here_0 % ((nums_0.length : Int) + 1)) = some (PyData.str (ixD (nums_0 ++ ([("" : Str)] : (List Str))) (cell_here_0 % ((nums_0.length : Int) + 1)))) := at_ixD (f := PyData.str) (by wtm_at "g.sd") (by wtm_at "g.sd")
  refine sx_cons (s1_ret (ev_tup (ad_cons (ev_ixLv (ev_is (t := .val (.list ((nums_0 ++ ([("" : Str)] : (List Str))).map PyData.str))) (ev_catL (ds := nums_0.map PyData.str) (es := ([("" : Str)] : (List Str)).map PyData.str) (ev_name T rfl (Lk.there Lk.here) rfl) (ev_lstV (ad_cons ev_str ad_nil) rfl) IsL.val IsL.val (by simpa only [List.length_map] using hz1)) (by rw [← List.map_append])) (ev_mod (ev_name T rfl Lk.here rfl) (ev_add (ev_is (t := .val (.int (nums_0.length : Int))) (ev_len z_len rfl (ev_name T rfl (Lk.there Lk.here) rfl) (rc_lenLv)) (by simp only [List.length_map])) ev_int) (by wtm_at "d.side")) at3) (ad_cons (ev_as (t := .val (.int r_1)) (cs2 := []) (ev_callM (κ := []) C_law_far hr (by first | decide | omega) rfl (av_cons (ev_div (ev_name T rfl Lk.here rfl) ev_int (by wtm_at "d.div")) av_nil) Sel.nil (RenA.val RenA.nil) (Sp_law_far.mk (cell_here_0 := (cell_here_0 / 7)) (by wtm_at "g.pre")) SetA.nil (List.prefix_refl _) rfl (by decide) rfl) (by subst er_1; rfl) (by subst er_1; rfl)) ad_nil)) rfl) ?_)
  show RetOk _ _ _ _ _
  subst h
  exact ret_val rfl rfl rfl (by wtm_at "d.lt")
end
def m_law_term (cell_here_0 : Int) (nums_0 : (List Str)) (rows_0 : (List Str)) : Trm := if ((decide ((cell_here_0 % 4) = 3)) && (decide (0 < (rows_0.length : Int)))) then letF (m_law_place (cell_here_0 / 8) nums_0) fun r_1 => (Trm.rd (ixD rows_0 ((cell_here_0 / 4) % (rows_0.length : Int))) r_1) else (Trm.is (ixD (nums_0 ++ ([("" : Str)] : (List Str))) ((cell_here_0 / 4) % ((nums_0.length : Int) + 1))))
section
variable {P : Program} {w : World} {K : PySem.W.Frag} {mg : Str → Option Value} {base : Heap}
inductive Sp_law_term : Spec
  | mk {cell_here_0 : Int} {nums_0 : (List Str)} {rows_0 : (List Str)} (hc : Bd cell_here_0) (hn : nums_0.length ≤ 20) (hrl : rows_0.length ≤ 20) : Sp_law_term [.val (.int cell_here_0), .val (.list (nums_0.map PyData.str)), .val (.list (rows_0.map PyData.str))] [] (.val (Trm.D (m_law_term cell_here_0 nums_0 rows_0))) []
theorem cal_law_term (D : DefAt K mg "_law_term" s__law_term P__law_term) (C_law_place : Cal P w K mg base 2 "_law_place" 2 Sp_law_place) (z_len : mg "len" = none) : Cal P w K mg base 3 "_law_term" 3 Sp_law_term := by
  refine cal_def D sc__law_term tb__law_term (fun f cdv A outer s0 H E hr T TL svs cs sv cs1 hsp hl => ?_)
  cases hsp with
  | @mk cell_here_0 nums_0 rows_0 hc hn hrl =>
  obtain ⟨R0, h⟩ : ∃ R0, (m_law_term cell_here_0 nums_0 rows_0) = R0 := ⟨_, rfl⟩
  rw [h]
  unfold m_law_term at h
  show SX _ _ _ [some (.val (.int cell_here_0)), some (.val (.list (nums_0.map PyData.str))), some (.val (.list (rows_0.map PyData.str)))] [] _
  refine' sx_cons (s1_if (tv_w (wv_and (tv_eqI (ev_mod (ev_name T rfl Lk.here rfl) ev_int (by wtm_at "d.side")) ev_int) (fun hk1 => (by
    have hk1x := hk1
    try simp only [Bool.and_eq_true, Bool.or_eq_true, Bool.and_eq_false_iff, Bool.or_eq_false_iff, decide_eq_true_eq, decide_eq_false_iff_not, Bool.not_eq_true', Bool.not_eq_false', Bool.not_eq_eq_eq_not, Bool.not_true, Bool.not_false] at hk1x
    exact (wv_and1 (tv_gt (ev_is (t := .val (.int (rows_0.length : Int))) (ev_len z_len rfl (ev_name T rfl (Lk.there (Lk.there Lk.here)) rfl) (rc_lenLv)) (by simp only [List.length_map])) ev_int)))))) ?y3 ?n3)
  case y3 =>
    intro hb2
    have hb2x := hb2
    try simp only [Bool.and_eq_true, Bool.or_eq_true, Bool.and_eq_false_iff, Bool.or_eq_false_iff, decide_eq_true_eq, decide_eq_false_iff_not, Bool.not_eq_true', Bool.not_eq_false', Bool.not_eq_eq_eq_not, Bool.not_true, Bool.not_false] at hb2x
    rw [if_pos hb2] at h
    replace h := letF_elim h
    obtain ⟨r_1, er_1, h⟩ := h
    have md4 := emod_bd ((cell_here_0 / 4)) (m := (rows_0.length : Int)) (by wtm_at "g.sd")
    have at5 : L2.atI (rows_0.map PyData.str) ((cell_here_0 / 4) % (rows_0.length : Int)) = some (PyData.str (ixD rows_0 ((cell_here_0 / 4) % (rows_0.length : Int)))) := at_ixD (f := PyData.str) (by wtm_at "g.sd") (by wtm_at "g.sd")
    refine sx_cons (s1_ret (ev_tup (ad_cons ev_str (ad_cons (ev_ixLv (ev_name T rfl (Lk.there (Lk.there Lk.here)) rfl) (ev_mod (ev_div (ev_name T rfl Lk.here rfl) ev_int (by wtm_at "d.div")) (ev_is (t := .val (.int (rows_0.length : Int))) (ev_len z_len rfl (ev_name T rfl (Lk.there (Lk.there Lk.here)) rfl) (rc_lenLv)) (by simp only [List.length_map])) (by wtm_at "d.side")) at5) (ad_cons (ev_as (t := .val (.tuple [(.str r_1.1), (.int r_1.2)])) (cs2 := []) (ev_callM (κ := []) C_law_place hr (by first | decide | omega) rfl (av_cons (ev_div (ev_name T rfl Lk.here rfl) ev_int (by wtm_at "d.div")) (av_cons (ev_name T rfl (Lk.there Lk.here) rfl) av_nil)) Sel.nil (RenA.val (RenA.val RenA.nil)) (Sp_law_place.mk (cell_here_0 := (cell_here_0 / 8)) (nums_0 := nums_0) (by wtm_at "g.pre") (by wtm_at "g.pre")) SetA.nil (List.prefix_refl _) rfl (by decide) rfl) (by subst er_1; rfl) (by subst er_1; rfl)) ad_nil))) rfl) ?_)
    show RetOk _ _ _ _ _
    subst h
    exact ret_val rfl rfl rfl (by wtm_at "d.lt")
  case n3 =>
    intro hb2
    have hb2x := hb2
    try simp only [Bool.and_eq_true, Bool.or_eq_true, Bool.and_eq_false_iff, Bool.or_eq_false_iff, decide_eq_true_eq, decide_eq_false_iff_not, Bool.not_eq_true', Bool.not_eq_false', Bool.not_eq_eq_eq_not, Bool.not_true, Bool.not_false] at hb2x
    rw [if_neg (by rw [hb2]; decide)] at h
    refine sx_nil ?_
    show SX _ _ _ _ _ _
    have hz6 : (nums_0).length + (([("" : Str)] : (List Str))).length ≤ 1000000 := by wtm_at "g.sd"
    have md7 := emod_bd ((cell_here_0 / 4)) (m := ((nums_0.length : Int) + 1)) (by wtm_at "g.sd")
    have at8 : L2.atI ((nums_0 ++ ([("" : Str)] : (List Str))).map PyData.str) ((cell_here_0 / 4) % ((nums_0.length : Int) + 1)) = some (PyData.str (ixD (nums_0 ++ ([("" : Str)] : (List Str))) ((cell_here_0 / 4) % ((nums_0.length : Int) + 1)))) := at_ixD (f := PyData.str) (by wtm_at "g.sd") (by wtm_at "g.sd")
    refine sx_cons (s1_ret (ev_tup (ad_cons ev_str (ad_cons (ev_ixLv (ev_is (t := .val (.list ((nums_0 ++ ([("" : Str)] : (List Str))).map PyData.str))) (ev_catL (ds := nums_0.map PyData.str) (es := ([("" : Str)] : (List Str)).map PyData.str) (ev_name T rfl (Lk.there Lk.here) rfl) (ev_lstV (ad_cons ev_str ad_nil) rfl) IsL.val IsL.val (by simpa only [List.length_map] using hz6)) (by rw [← List.map_append])) (ev_mod (ev_div (ev_name T rfl Lk.here rfl) ev_int (by wtm_at "d.div")) (ev_add (ev_is (t := .val (.int (nums_0.length : Int))) (ev_len z_len rfl (ev_name T rfl (Lk.there Lk.here) rfl) (rc_lenLv)) (by simp only [List.length_map])) ev_int) (by wtm_at "d.side")) at8) ad_nil)) rfl) ?_)
    show RetOk _ _ _ _ _
    subst h
    exact ret_val rfl rfl rfl (by wtm_at "d.lt")
end
def m_law_claim (cell_here_0 : Int) (nums_0 : (List Str)) (rows_0 : (List Str)) : Clm := letF (cell_here_0 % 4) fun which_1 => letF (cell_here_0 / 4) fun cell_here_2 => if ((decide (which_1 < 2)) || (decide ((rows_0.length : Int) = 0))) then letF (m_law_term cell_here_2 nums_0 rows_0) fun r_3 => letF (m_law_term ((cell_here_2 / 3) + 1) nums_0 rows_0) fun r_4 => letF (m_law_far (cell_here_2 / 5)) fun r_5 => (Clm.least r_3 r_4 r_5) else letF (ixD rows_0 (cell_here_2 % (rows_0.length : Int))) fun r_6 => letF (m_law_place (cell_here_2 / 2) nums_0) fun r_7 => letF (m_law_place (cell_here_2 / 5) nums_0) fun r_8 => if (decide (which_1 = 2)) then (Clm.rise r_7 r_8 r_6) else letF (ixD ([(Ag.is (ixD (nums_0 ++ ([("" : Str)] : (List Str))) ((cell_here_2 / 11) % ((nums_0.length : Int) + 1)))), (Ag.row (ixD rows_0 ((cell_here_2 / 13) % (rows_0.length : Int))))] : List Ag) ((cell_here_2 / 3) % 2)) fun b_9 => letF (m_law_far (cell_here_2 / 17)) fun r_10 => (Clm.each r_7 r_8 r_6 (ixD ([(">=" : Str), ("<=" : Str)] : (List Str)) ((cell_here_2 / 7) % 2)) b_9 r_10)
section
variable {P : Program} {w : World} {K : PySem.W.Frag} {mg : Str → Option Value} {base : Heap}
inductive Sp_law_claim : Spec
  | mk {cell_here_0 : Int} {nums_0 : (List Str)} {rows_0 : (List Str)} (hc : Bd cell_here_0) (hn : nums_0.length ≤ 20) (hrl : rows_0.length ≤ 20) : Sp_law_claim [.val (.int cell_here_0), .val (.list (nums_0.map PyData.str)), .val (.list (rows_0.map PyData.str))] [] (.val (Clm.D (m_law_claim cell_here_0 nums_0 rows_0))) []
theorem cal_law_claim (D : DefAt K mg "_law_claim" s__law_claim P__law_claim) (C_law_term : Cal P w K mg base 3 "_law_term" 3 Sp_law_term) (C_law_far : Cal P w K mg base 1 "_law_far" 1 Sp_law_far) (C_law_place : Cal P w K mg base 2 "_law_place" 2 Sp_law_place) (z_len : mg "len" = none) : Cal P w K mg base 4 "_law_claim" 3 Sp_law_claim := by
  refine cal_def D sc__law_claim tb__law_claim (fun f cdv A outer s0 H E hr T TL svs cs sv cs1 hsp hl => ?_)
  cases hsp with
  | @mk cell_here_0 nums_0 rows_0 hc hn hrl =>
  obtain ⟨R0, h⟩ : ∃ R0, (m_law_claim cell_here_0 nums_0 rows_0) = R0 := ⟨_, rfl⟩
  rw [h]
  unfold m_law_claim at h
  show SX _ _ _ [some (.val (.int cell_here_0)), some (.val (.list (nums_0.map PyData.str))), some (.val (.list (rows_0.map PyData.str))), none, none, none, none, none, none] [] _
  replace h := letF_elim h
  obtain ⟨which_1, ewhich_1, h⟩ := h
  refine sx_cons (s1_set TL rfl (ev_is (t := .val (.int which_1)) (ev_mod (ev_name T rfl Lk.here rfl) ev_int (by wtm_at "d.side")) (by subst ewhich_1; rfl)) (Put.there (Put.there (Put.there Put.here))) ?_ rfl)
  show SX _ _ _ _ _ _
  replace h := letF_elim h
  obtain ⟨cell_here_2, ecell_here_2, h⟩ := h
  refine sx_cons (s1_set TL rfl (ev_is (t := .val (.int cell_here_2)) (ev_div (ev_name T rfl Lk.here rfl) ev_int (by wtm_at "d.div")) (by subst ecell_here_2; rfl)) Put.here ?_ rfl)
  show SX _ _ _ _ _ _
  refine' sx_cons (s1_if (tv_w (wv_or (tv_lt (ev_name T rfl (Lk.there (Lk.there (Lk.there Lk.here))) rfl) ev_int) (fun hk1 => (by
    have hk1x := hk1
    try simp only [Bool.and_eq_true, Bool.or_eq_true, Bool.and_eq_false_iff, Bool.or_eq_false_iff, decide_eq_true_eq, decide_eq_false_iff_not, Bool.not_eq_true', Bool.not_eq_false', Bool.not_eq_eq_eq_not, Bool.not_true, Bool.not_false] at hk1x
    exact (wv_or1 (tv_eqI (ev_is (t := .val (.int (rows_0.length : Int))) (ev_len z_len rfl (ev_name T rfl (Lk.there (Lk.there Lk.here)) rfl) (rc_lenLv)) (by simp only [List.length_map])) ev_int)))))) ?y3 ?n3)
  case y3 =>
    intro hb2
    have hb2x := hb2
    try simp only [Bool.and_eq_true, Bool.or_eq_true, Bool.and_eq_false_iff, Bool.or_eq_false_iff, decide_eq_true_eq, decide_eq_false_iff_not, Bool.not_eq_true', Bool.not_eq_false', Bool.not_eq_eq_eq_not, Bool.not_true, Bool.not_false] at hb2x
    rw [if_pos hb2] at h
    replace h := letF_elim h
    obtain ⟨r_3, er_3, h⟩ := h
    refine sx_cons (s1_set TL rfl (ev_as (t := .val (Trm.D r_3)) (cs2 := []) (ev_callM (κ := []) C_law_term hr (by first | decide | omega) rfl (av_cons (ev_name T rfl Lk.here rfl) (av_cons (ev_name T rfl (Lk.there Lk.here) rfl) (av_cons (ev_name T rfl (Lk.there (Lk.there Lk.here)) rfl) av_nil))) Sel.nil (RenA.val (RenA.val (RenA.val RenA.nil))) (Sp_law_term.mk (cell_here_0 := cell_here_2) (nums_0 := nums_0) (rows_0 := rows_0) (by wtm_at "g.pre") (by wtm_at "g.pre") (by wtm_at "g.pre")) SetA.nil (List.prefix_refl _) rfl (by decide) rfl) (by subst er_3; rfl) (by subst er_3; rfl)) (Put.there (Put.there (Put.there (Put.there Put.here)))) ?_ rfl)
    show SX _ _ _ _ _ _
    replace h := letF_elim h
    obtain ⟨r_4, er_4, h⟩ := h
    replace h := letF_elim h
    obtain ⟨r_5, er_5, h⟩ := h
    refine sx_cons (s1_ret (ev_tup (ad_cons ev_str (ad_cons (ev_name T rfl (Lk.there (Lk.there (Lk.there (Lk.there Lk.here)))) rfl) (ad_cons (ev_as (t := .val (Trm.D r_4)) (cs2 := []) (ev_callM (κ := []) C_law_term hr (by first | decide | omega) rfl (av_cons (ev_add (ev_div (ev_name T rfl Lk.here rfl) ev_int (by wtm_at "d.div")) ev_int) (av_cons (ev_name T rfl (Lk.there Lk.here) rfl) (av_cons (ev_name T rfl (Lk.there (Lk.there Lk.here)) rfl) av_nil))) Sel.nil (RenA.val (RenA.val (RenA.val RenA.nil))) (Sp_law_term.mk (cell_here_0 := ((cell_here_2 / 3) + 1)) (nums_0 := nums_0) (rows_0 := rows_0) (by wtm_at "g.pre") (by wtm_at "g.pre") (by wtm_at "g.pre")) SetA.nil (List.prefix_refl _) rfl (by decide) rfl) (by subst er_4; rfl) (by subst er_4; rfl)) (ad_cons (ev_as (t := .val (.int r_5)) (cs2 := []) (ev_callM (κ := []) C_law_far hr (by first | decide | omega) rfl (av_cons (ev_div (ev_name T rfl Lk.here rfl) ev_int (by wtm_at "d.div")) av_nil) Sel.nil (RenA.val RenA.nil) (Sp_law_far.mk (cell_here_0 := (cell_here_2 / 5)) (by wtm_at "g.pre")) SetA.nil (List.prefix_refl _) rfl (by decide) rfl) (by subst er_5; rfl) (by subst er_5; rfl)) ad_nil)))) rfl) ?_)
    show RetOk _ _ _ _ _
    subst h
    exact ret_val rfl rfl rfl (by wtm_at "d.lt")
  case n3 =>
    intro hb2
    have hb2x := hb2
    try simp only [Bool.and_eq_true, Bool.or_eq_true, Bool.and_eq_false_iff, Bool.or_eq_false_iff, decide_eq_true_eq, decide_eq_false_iff_not, Bool.not_eq_true', Bool.not_eq_false', Bool.not_eq_eq_eq_not, Bool.not_true, Bool.not_false] at hb2x
    rw [if_neg (by rw [hb2]; decide)] at h
    refine sx_nil ?_
    show SX _ _ _ _ _ _
    replace h := letF_elim h
    obtain ⟨r_6, er_6, h⟩ := h
    have md4 := emod_bd (cell_here_2) (m := (rows_0.length : Int)) (by wtm_at "g.sd")
    have at5 : L2.atI (rows_0.map PyData.str) (cell_here_2 % (rows_0.length : Int)) = some (PyData.str (ixD rows_0 (cell_here_2 % (rows_0.length : Int)))) := at_ixD (f := PyData.str) (by wtm_at "g.sd") (by wtm_at "g.sd")
    refine sx_cons (s1_set TL rfl (ev_is (t := .val (.str r_6)) (ev_ixLv (ev_name T rfl (Lk.there (Lk.there Lk.here)) rfl) (ev_mod (ev_name T rfl Lk.here rfl) (ev_is (t := .val (.int (rows_0.length : Int))) (ev_len z_len rfl (ev_name T rfl (Lk.there (Lk.there Lk.here)) rfl) (rc_lenLv)) (by simp only [List.length_map])) (by wtm_at "d.side")) at5) (by subst er_6; rfl)) (Put.there (Put.there (Put.there (Put.there (Put.there Put.here))))) ?_ rfl)
    show SX _ _ _ _ _ _
    replace h := letF_elim h
    obtain ⟨r_7, er_7, h⟩ := h
    refine sx_cons (s1_set TL rfl (ev_as (t := .val (.tuple [(.str r_7.1), (.int r_7.2)])) (cs2 := []) (ev_callM (κ := []) C_law_place hr (by first | decide | omega) rfl (av_cons (ev_div (ev_name T rfl Lk.here rfl) ev_int (by wtm_at "d.div")) (av_cons (ev_name T rfl (Lk.there Lk.here) rfl) av_nil)) Sel.nil (RenA.val (RenA.val RenA.nil)) (Sp_law_place.mk (cell_here_0 := (cell_here_2 / 2)) (nums_0 := nums_0) (by wtm_at "g.pre") (by wtm_at "g.pre")) SetA.nil (List.prefix_refl _) rfl (by decide) rfl) (by subst er_7; rfl) (by subst er_7; rfl)) (Put.there (Put.there (Put.there (Put.there (Put.there (Put.there Put.here)))))) ?_ rfl)
    show SX _ _ _ _ _ _
    replace h := letF_elim h
    obtain ⟨r_8, er_8, h⟩ := h
    refine sx_cons (s1_set TL rfl (ev_as (t := .val (.tuple [(.str r_8.1), (.int r_8.2)])) (cs2 := []) (ev_callM (κ := []) C_law_place hr (by first | decide | omega) rfl (av_cons (ev_div (ev_name T rfl Lk.here rfl) ev_int (by wtm_at "d.div")) (av_cons (ev_name T rfl (Lk.there Lk.here) rfl) av_nil)) Sel.nil (RenA.val (RenA.val RenA.nil)) (Sp_law_place.mk (cell_here_0 := (cell_here_2 / 5)) (nums_0 := nums_0) (by wtm_at "g.pre") (by wtm_at "g.pre")) SetA.nil (List.prefix_refl _) rfl (by decide) rfl) (by subst er_8; rfl) (by subst er_8; rfl)) (Put.there (Put.there (Put.there (Put.there (Put.there (Put.there (Put.there Put.here))))))) ?_ rfl)
    show SX _ _ _ _ _ _
    refine' sx_cons (s1_if (tv_eqI (ev_name T rfl (Lk.there (Lk.there (Lk.there Lk.here))) rfl) ev_int) ?y7 ?n7)
    case y7 =>
      intro hb6
      have hb6x := hb6
      try simp only [Bool.and_eq_true, Bool.or_eq_true, Bool.and_eq_false_iff, Bool.or_eq_false_iff, decide_eq_true_eq, decide_eq_false_iff_not, Bool.not_eq_true', Bool.not_eq_false', Bool.not_eq_eq_eq_not, Bool.not_true, Bool.not_false] at hb6x
      rw [if_pos hb6] at h
      refine sx_cons (s1_ret (ev_tup (ad_cons ev_str (ad_cons (ev_name T rfl (Lk.there (Lk.there (Lk.there (Lk.there (Lk.there (Lk.there Lk.here)))))) rfl) (ad_cons (ev_name T rfl (Lk.there (Lk.there (Lk.there (Lk.there (Lk.there (Lk.there (Lk.there Lk.here))))))) rfl) (ad_cons (ev_name T rfl (Lk.there (Lk.there (Lk.there (Lk.there (Lk.there Lk.here))))) rfl) ad_nil)))) rfl) ?_)
      show RetOk _ _ _ _ _
      subst h
      exact ret_val rfl rfl rfl (by wtm_at "d.lt")
    case n7 =>
      intro hb6
      have hb6x := hb6
      try simp only [Bool.and_eq_true, Bool.or_eq_true, Bool.and_eq_false_iff, Bool.or_eq_false_iff, decide_eq_true_eq, decide_eq_false_iff_not, Bool.not_eq_true', Bool.not_eq_false', Bool.not_eq_eq_eq_not, Bool.not_true, Bool.not_false] at hb6x
      rw [if_neg (by rw [hb6]; decide)] at h
      refine sx_nil ?_
      show SX _ _ _ _ _ _
      replace h := letF_elim h
      obtain ⟨b_9, eb_9, h⟩ := h
      have hz8 : (nums_0).length + (([("" : Str)] : (List Str))).length ≤ 1000000 := by wtm_at "g.sd"
      have md9 := emod_bd ((cell_here_2 / 11)) (m := ((nums_0.length : Int) + 1)) (by wtm_at "g.sd")
      have at10 : L2.atI ((nums_0 ++ ([("" : Str)] : (List Str))).map PyData.str) ((cell_here_2 / 11) % ((nums_0.length : Int) + 1)) = some (PyData.str (ixD (nums_0 ++ ([("" : Str)] : (List Str))) ((cell_here_2 / 11) % ((nums_0.length : Int) + 1)))) := at_ixD (f := PyData.str) (by wtm_at "g.sd") (by wtm_at "g.sd")
      have md11 := emod_bd ((cell_here_2 / 13)) (m := (rows_0.length : Int)) (by wtm_at "g.sd")
      have at12 : L2.atI (rows_0.map PyData.str) ((cell_here_2 / 13) % (rows_0.length : Int)) = some (PyData.str (ixD rows_0 ((cell_here_2 / 13) % (rows_0.length : Int)))) := at_ixD (f := PyData.str) (by wtm_at "g.sd") (by wtm_at "g.sd")
      have at13 : L2.atI (([(Ag.is (ixD (nums_0 ++ ([("" : Str)] : (List Str))) ((cell_here_2 / 11) % ((nums_0.length : Int) + 1)))), (Ag.row (ixD rows_0 ((cell_here_2 / 13) % (rows_0.length : Int))))] : List Ag).map Ag.D) ((cell_here_2 / 3) % 2) = some (Ag.D (ixD ([(Ag.is (ixD (nums_0 ++ ([("" : Str)] : (List Str))) ((cell_here_2 / 11) % ((nums_0.length : Int) + 1)))), (Ag.row (ixD rows_0 ((cell_here_2 / 13) % (rows_0.length : Int))))] : List Ag) ((cell_here_2 / 3) % 2))) := at_ixD (f := Ag.D) (by wtm_at "g.sd") (by wtm_at "g.sd")
      refine sx_cons (s1_set TL rfl (ev_is (t := .val (Ag.D b_9)) (ev_ixLv (ev_lstV (ad_cons (ev_tup (ad_cons ev_str (ad_cons (ev_ixLv (ev_is (t := .val (.list ((nums_0 ++ ([("" : Str)] : (List Str))).map PyData.str))) (ev_catL (ds := nums_0.map PyData.str) (es := ([("" : Str)] : (List Str)).map PyData.str) (ev_name T rfl (Lk.there Lk.here) rfl) (ev_lstV (ad_cons ev_str ad_nil) rfl) IsL.val IsL.val (by simpa only [List.length_map] using hz8)) (by rw [← List.map_append])) (ev_mod (ev_div (ev_name T rfl Lk.here rfl) ev_int (by wtm_at "d.div")) (ev_add (ev_is (t := .val (.int (nums_0.length : Int))) (ev_len z_len rfl (ev_name T rfl (Lk.there Lk.here) rfl) (rc_lenLv)) (by simp only [List.length_map])) ev_int) (by wtm_at "d.side")) at10) ad_nil)) rfl) (ad_cons (ev_tup (ad_cons ev_str (ad_cons (ev_ixLv (ev_name T rfl (Lk.there (Lk.there Lk.here)) rfl) (ev_mod (ev_div (ev_name T rfl Lk.here rfl) ev_int (by wtm_at "d.div")) (ev_is (t := .val (.int (rows_0.length : Int))) (ev_len z_len rfl (ev_name T rfl (Lk.there (Lk.there Lk.here)) rfl) (rc_lenLv)) (by simp only [List.length_map])) (by wtm_at "d.side")) at12) ad_nil)) rfl) ad_nil)) rfl) (ev_mod (ev_div (ev_name T rfl Lk.here rfl) ev_int (by wtm_at "d.div")) ev_int (by wtm_at "d.side")) at13) (by subst eb_9; rfl)) (Put.there (Put.there (Put.there (Put.there (Put.there (Put.there (Put.there (Put.there Put.here)))))))) ?_ rfl)
      show SX _ _ _ _ _ _
      replace h := letF_elim h
      obtain ⟨r_10, er_10, h⟩ := h
      have at14 : L2.atI (([(">=" : Str), ("<=" : Str)] : (List Str)).map PyData.str) ((cell_here_2 / 7) % 2) = some (PyData.str (ixD ([(">=" : Str), ("<=" : Str)] : (List Str)) ((cell_here_2 / 7) % 2))) := at_ixD (f := PyData.str) (by wtm_at "g.sd") (by wtm_at "g.sd")
      have ib14 := ixD_bdS (xs := ([(">=" : Str), ("<=" : Str)] : (List Str))) (lo := 2) (hi := 2) (i := ((cell_here_2 / 7) % 2)) (by decide) (by wtm_at "g.sd") (by wtm_at "g.sd")
      refine sx_cons (s1_ret (ev_tup (ad_cons ev_str (ad_cons (ev_name T rfl (Lk.there (Lk.there (Lk.there (Lk.there (Lk.there (Lk.there Lk.here)))))) rfl) (ad_cons (ev_name T rfl (Lk.there (Lk.there (Lk.there (Lk.there (Lk.there (Lk.there (Lk.there Lk.here))))))) rfl) (ad_cons (ev_name T rfl (Lk.there (Lk.there (Lk.there (Lk.there (Lk.there Lk.here))))) rfl) (ad_cons (ev_ixLv (ev_lstV (ad_cons ev_str (ad_cons ev_str ad_nil)) rfl) (ev_mod (ev_div (ev_name T rfl Lk.here rfl) ev_int (by wtm_at "d.div")) ev_int (by wtm_at "d.side")) at14) (ad_cons (ev_name T rfl (Lk.there (Lk.there (Lk.there (Lk.there (Lk.there (Lk.there (Lk.there (Lk.there Lk.here)))))))) rfl) (ad_cons (ev_as (t := .val (.int r_10)) (cs2 := []) (ev_callM (κ := []) C_law_far hr (by first | decide | omega) rfl (av_cons (ev_div (ev_name T rfl Lk.here rfl) ev_int (by wtm_at "d.div")) av_nil) Sel.nil (RenA.val RenA.nil) (Sp_law_far.mk (cell_here_0 := (cell_here_2 / 17)) (by wtm_at "g.pre")) SetA.nil (List.prefix_refl _) rfl (by decide) rfl) (by subst er_10; rfl) (by subst er_10; rfl)) ad_nil))))))) rfl) ?_)
      show RetOk _ _ _ _ _
      subst h
      exact ret_val rfl rfl rfl (by wtm_at "d.lt")
end
local macro_rules | `(tactic| wtm_at "g.cast") => `(tactic| rfl)
set_option hygiene false in
local macro_rules | `(tactic| wtm_at "g.pre") => `(tactic| first | assumption | omega | (subst_vars; assumption) | (refine ⟨by omega, by omega⟩) | exact cell_bd _ _ | exact bd_div (by assumption) | (subst_vars; first | exact cell_bd _ _ | exact bd_div (by assumption) | exact bd_div (bd_div (by assumption))) | fail)
abbrev bodyT (p : PrcT) : TreL := [(.tuple (p.2.2.2.2.1.map Clm.D)), (.tuple (p.2.2.2.2.2.1.map Clm.D)), (.tuple (p.2.2.2.2.2.2.map Fst.D))]
def UOk (p : PrcT) (names : List Str) : Prop := Dok 8 (bodyT p) ∧ (usedF (bodyT p) names).length ≤ 900 ∧ ∀ w ∈ names, PyData.strOk w = true
def m_law_statement (cell_here_0 : Int) (nums_0 : (List Str)) (free_0 : (List Str)) (rows_0 : (List Str)) : Fst := letF (cell_here_0 % 5) fun which_1 => letF (cell_here_0 / 5) fun cell_here_2 => letF (ixD free_0 (cell_here_2 % (free_0.length : Int))) fun x_3 => if (decide (which_1 = 0)) then (Fst.any x_3) else if ((decide (which_1 = 1)) && (decide (0 < (rows_0.length : Int)))) then letF (ixD rows_0 (cell_here_2 % (rows_0.length : Int))) fun r_4 => letF (m_law_place (cell_here_2 / 2) nums_0) fun r_5 => letF (m_law_term (cell_here_2 / 3) nums_0 rows_0) fun r_6 => letF (m_law_far (cell_here_2 / 9)) fun r_7 => (Fst.put r_4 r_5 r_6 r_7) else if (decide (which_1 < 4)) then letF (m_law_term (cell_here_2 / 4) nums_0 rows_0) fun r_8 => letF (m_law_far (cell_here_2 / 7)) fun r_9 => (Fst.set x_3 r_8 r_9) else letF (m_law_claim cell_here_2 nums_0 rows_0) fun r_10 => (Fst.claim r_10)
section
variable {P : Program} {w : World} {K : PySem.W.Frag} {mg : Str → Option Value} {base : Heap}
inductive Sp_law_statement : Spec
  | mk {cell_here_0 : Int} {nums_0 : (List Str)} {free_0 : (List Str)} {rows_0 : (List Str)} (hc : Bd cell_here_0) (hn : nums_0.length ≤ 20) (hrl : rows_0.length ≤ 20) (hf : free_0.length = 3) : Sp_law_statement [.val (.int cell_here_0), .val (.list (nums_0.map PyData.str)), .val (.list (free_0.map PyData.str)), .val (.list (rows_0.map PyData.str))] [] (.val (Fst.D (m_law_statement cell_here_0 nums_0 free_0 rows_0))) []
theorem cal_law_statement (D : DefAt K mg "_law_statement" s__law_statement P__law_statement) (C_law_place : Cal P w K mg base 2 "_law_place" 2 Sp_law_place) (C_law_term : Cal P w K mg base 3 "_law_term" 3 Sp_law_term) (C_law_far : Cal P w K mg base 1 "_law_far" 1 Sp_law_far) (C_law_claim : Cal P w K mg base 4 "_law_claim" 3 Sp_law_claim) (z_len : mg "len" = none) : Cal P w K mg base 5 "_law_statement" 4 Sp_law_statement := by
  refine cal_def D sc__law_statement tb__law_statement (fun f cdv A outer s0 H E hr T TL svs cs sv cs1 hsp hl => ?_)
  cases hsp with
  | @mk cell_here_0 nums_0 free_0 rows_0 hc hn hrl hf =>
  obtain ⟨R0, h⟩ : ∃ R0, (m_law_statement cell_here_0 nums_0 free_0 rows_0) = R0 := ⟨_, rfl⟩
  rw [h]
  unfold m_law_statement at h
  show SX _ _ _ [some (.val (.int cell_here_0)), some (.val (.list (nums_0.map PyData.str))), some (.val (.list (free_0.map PyData.str))), some (.val (.list (rows_0.map PyData.str))), none, none, none] [] _
  replace h := letF_elim h
  obtain ⟨which_1, ewhich_1, h⟩ := h
  refine sx_cons (s1_set TL rfl (ev_is (t := .val (.int which_1)) (ev_mod (ev_name T rfl Lk.here rfl) ev_int (by wtm_at "d.side")) (by subst ewhich_1; rfl)) (Put.there (Put.there (Put.there (Put.there Put.here)))) ?_ rfl)
  show SX _ _ _ _ _ _
  replace h := letF_elim h
  obtain ⟨cell_here_2, ecell_here_2, h⟩ := h
  refine sx_cons (s1_set TL rfl (ev_is (t := .val (.int cell_here_2)) (ev_div (ev_name T rfl Lk.here rfl) ev_int (by wtm_at "d.div")) (by subst ecell_here_2; rfl)) Put.here ?_ rfl)
  show SX _ _ _ _ _ _
  replace h := letF_elim h
  obtain ⟨x_3, ex_3, h⟩ := h
  have md1 := emod_bd (cell_here_2) (m := (free_0.length : Int)) (by wtm_at "g.sd")
  have at2 : L2.atI (free_0.map PyData.str) (cell_here_2 % (free_0.length : Int)) = some (PyData.str (ixD free_0 (cell_here_2 % (free_0.length : Int)))) := at_ixD (f := PyData.str) (by wtm_at "g.sd") (by wtm_at "g.sd")
  refine sx_cons (s1_set TL rfl (ev_is (t := .val (.str x_3)) (ev_ixLv (ev_name T rfl (Lk.there (Lk.there Lk.here)) rfl) (ev_mod (ev_name T rfl Lk.here rfl) (ev_is (t := .val (.int (free_0.length : Int))) (ev_len z_len rfl (ev_name T rfl (Lk.there (Lk.there Lk.here)) rfl) (rc_lenLv)) (by simp only [List.length_map])) (by wtm_at "d.side")) at2) (by subst ex_3; rfl)) (Put.there (Put.there (Put.there (Put.there (Put.there Put.here))))) ?_ rfl)
  show SX _ _ _ _ _ _
  refine' sx_cons (s1_if (tv_eqI (ev_name T rfl (Lk.there (Lk.there (Lk.there (Lk.there Lk.here)))) rfl) ev_int) ?y4 ?n4)
  case y4 =>
    intro hb3
    have hb3x := hb3
    try simp only [Bool.and_eq_true, Bool.or_eq_true, Bool.and_eq_false_iff, Bool.or_eq_false_iff, decide_eq_true_eq, decide_eq_false_iff_not, Bool.not_eq_true', Bool.not_eq_false', Bool.not_eq_eq_eq_not, Bool.not_true, Bool.not_false] at hb3x
    rw [if_pos hb3] at h
    refine sx_cons (s1_ret (ev_is (t := .val (Fst.D (Fst.any x_3))) (ev_tup (ad_cons ev_str (ad_cons (ev_name T rfl (Lk.there (Lk.there (Lk.there (Lk.there (Lk.there Lk.here))))) rfl) ad_nil)) rfl) (by wtm_at "g.cast")) ?_)
    show RetOk _ _ _ _ _
    subst h
    exact ret_val rfl rfl rfl (by wtm_at "d.lt")
  case n4 =>
    intro hb3
    have hb3x := hb3
    try simp only [Bool.and_eq_true, Bool.or_eq_true, Bool.and_eq_false_iff, Bool.or_eq_false_iff, decide_eq_true_eq, decide_eq_false_iff_not, Bool.not_eq_true', Bool.not_eq_false', Bool.not_eq_eq_eq_not, Bool.not_true, Bool.not_false] at hb3x
    rw [if_neg (by rw [hb3]; decide)] at h
    refine sx_nil ?_
    show SX _ _ _ _ _ _
    refine' sx_cons (s1_if (tv_w (wv_and (tv_eqI (ev_name T rfl (Lk.there (Lk.there (Lk.there (Lk.there Lk.here)))) rfl) ev_int) (fun hk5 => (by
      have hk5x := hk5
      try simp only [Bool.and_eq_true, Bool.or_eq_true, Bool.and_eq_false_iff, Bool.or_eq_false_iff, decide_eq_true_eq, decide_eq_false_iff_not, Bool.not_eq_true', Bool.not_eq_false', Bool.not_eq_eq_eq_not, Bool.not_true, Bool.not_false] at hk5x
      exact (wv_and1 (tv_gt (ev_is (t := .val (.int (rows_0.length : Int))) (ev_len z_len rfl (ev_name T rfl (Lk.there (Lk.there (Lk.there Lk.here))) rfl) (rc_lenLv)) (by simp only [List.length_map])) ev_int)))))) ?y7 ?n7)
    case y7 =>
      intro hb6
      have hb6x := hb6
      try simp only [Bool.and_eq_true, Bool.or_eq_true, Bool.and_eq_false_iff, Bool.or_eq_false_iff, decide_eq_true_eq, decide_eq_false_iff_not, Bool.not_eq_true', Bool.not_eq_false', Bool.not_eq_eq_eq_not, Bool.not_true, Bool.not_false] at hb6x
      rw [if_pos hb6] at h
      replace h := letF_elim h
      obtain ⟨r_4, er_4, h⟩ := h
      have md8 := emod_bd (cell_here_2) (m := (rows_0.length : Int)) (by wtm_at "g.sd")
      have at9 : L2.atI (rows_0.map PyData.str) (cell_here_2 % (rows_0.length : Int)) = some (PyData.str (ixD rows_0 (cell_here_2 % (rows_0.length : Int)))) := at_ixD (f := PyData.str) (by wtm_at "g.sd") (by wtm_at "g.sd")
      refine sx_cons (s1_set TL rfl (ev_is (t := .val (.str r_4)) (ev_ixLv (ev_name T rfl (Lk.there (Lk.there (Lk.there Lk.here))) rfl) (ev_mod (ev_name T rfl Lk.here rfl) (ev_is (t := .val (.int (rows_0.length : Int))) (ev_len z_len rfl (ev_name T rfl (Lk.there (Lk.there (Lk.there Lk.here))) rfl) (rc_lenLv)) (by simp only [List.length_map])) (by wtm_at "d.side")) at9) (by subst er_4; rfl)) (Put.there (Put.there (Put.there (Put.there (Put.there (Put.there Put.here)))))) ?_ rfl)
      show SX _ _ _ _ _ _
      replace h := letF_elim h
      obtain ⟨r_5, er_5, h⟩ := h
      replace h := letF_elim h
      obtain ⟨r_6, er_6, h⟩ := h
      replace h := letF_elim h
      obtain ⟨r_7, er_7, h⟩ := h
      refine sx_cons (s1_ret (ev_is (t := .val (Fst.D (Fst.put r_4 r_5 r_6 r_7))) (ev_tup (ad_cons ev_str (ad_cons (ev_name T rfl (Lk.there (Lk.there (Lk.there (Lk.there (Lk.there (Lk.there Lk.here)))))) rfl) (ad_cons (ev_as (t := .val (.tuple [(.str r_5.1), (.int r_5.2)])) (cs2 := []) (ev_callM (κ := []) C_law_place hr (by first | decide | omega) rfl (av_cons (ev_div (ev_name T rfl Lk.here rfl) ev_int (by wtm_at "d.div")) (av_cons (ev_name T rfl (Lk.there Lk.here) rfl) av_nil)) Sel.nil (RenA.val (RenA.val RenA.nil)) (Sp_law_place.mk (cell_here_0 := (cell_here_2 / 2)) (nums_0 := nums_0) (by wtm_at "g.pre") (by wtm_at "g.pre")) SetA.nil (List.prefix_refl _) rfl (by decide) rfl) (by subst er_5; rfl) (by subst er_5; rfl)) (ad_cons (ev_as (t := .val (Trm.D r_6)) (cs2 := []) (ev_callM (κ := []) C_law_term hr (by first | decide | omega) rfl (av_cons (ev_div (ev_name T rfl Lk.here rfl) ev_int (by wtm_at "d.div")) (av_cons (ev_name T rfl (Lk.there Lk.here) rfl) (av_cons (ev_name T rfl (Lk.there (Lk.there (Lk.there Lk.here))) rfl) av_nil))) Sel.nil (RenA.val (RenA.val (RenA.val RenA.nil))) (Sp_law_term.mk (cell_here_0 := (cell_here_2 / 3)) (nums_0 := nums_0) (rows_0 := rows_0) (by wtm_at "g.pre") (by wtm_at "g.pre") (by wtm_at "g.pre")) SetA.nil (List.prefix_refl _) rfl (by decide) rfl) (by subst er_6; rfl) (by subst er_6; rfl)) (ad_cons (ev_as (t := .val (.int r_7)) (cs2 := []) (ev_callM (κ := []) C_law_far hr (by first | decide | omega) rfl (av_cons (ev_div (ev_name T rfl Lk.here rfl) ev_int (by wtm_at "d.div")) av_nil) Sel.nil (RenA.val RenA.nil) (Sp_law_far.mk (cell_here_0 := (cell_here_2 / 9)) (by wtm_at "g.pre")) SetA.nil (List.prefix_refl _) rfl (by decide) rfl) (by subst er_7; rfl) (by subst er_7; rfl)) ad_nil))))) rfl) (by wtm_at "g.cast")) ?_)
      show RetOk _ _ _ _ _
      subst h
      exact ret_val rfl rfl rfl (by wtm_at "d.lt")
    case n7 =>
      intro hb6
      have hb6x := hb6
      try simp only [Bool.and_eq_true, Bool.or_eq_true, Bool.and_eq_false_iff, Bool.or_eq_false_iff, decide_eq_true_eq, decide_eq_false_iff_not, Bool.not_eq_true', Bool.not_eq_false', Bool.not_eq_eq_eq_not, Bool.not_true, Bool.not_false] at hb6x
      rw [if_neg (by rw [hb6]; decide)] at h
      refine sx_nil ?_
      show SX _ _ _ _ _ _
      refine' sx_cons (s1_if (tv_lt (ev_name T rfl (Lk.there (Lk.there (Lk.there (Lk.there Lk.here)))) rfl) ev_int) ?y11 ?n11)
      case y11 =>
        intro hb10
        have hb10x := hb10
        try simp only [Bool.and_eq_true, Bool.or_eq_true, Bool.and_eq_false_iff, Bool.or_eq_false_iff, decide_eq_true_eq, decide_eq_false_iff_not, Bool.not_eq_true', Bool.not_eq_false', Bool.not_eq_eq_eq_not, Bool.not_true, Bool.not_false] at hb10x
        rw [if_pos hb10] at h
        replace h := letF_elim h
        obtain ⟨r_8, er_8, h⟩ := h
        replace h := letF_elim h
        obtain ⟨r_9, er_9, h⟩ := h
        refine sx_cons (s1_ret (ev_is (t := .val (Fst.D (Fst.set x_3 r_8 r_9))) (ev_tup (ad_cons ev_str (ad_cons (ev_name T rfl (Lk.there (Lk.there (Lk.there (Lk.there (Lk.there Lk.here))))) rfl) (ad_cons (ev_as (t := .val (Trm.D r_8)) (cs2 := []) (ev_callM (κ := []) C_law_term hr (by first | decide | omega) rfl (av_cons (ev_div (ev_name T rfl Lk.here rfl) ev_int (by wtm_at "d.div")) (av_cons (ev_name T rfl (Lk.there Lk.here) rfl) (av_cons (ev_name T rfl (Lk.there (Lk.there (Lk.there Lk.here))) rfl) av_nil))) Sel.nil (RenA.val (RenA.val (RenA.val RenA.nil))) (Sp_law_term.mk (cell_here_0 := (cell_here_2 / 4)) (nums_0 := nums_0) (rows_0 := rows_0) (by wtm_at "g.pre") (by wtm_at "g.pre") (by wtm_at "g.pre")) SetA.nil (List.prefix_refl _) rfl (by decide) rfl) (by subst er_8; rfl) (by subst er_8; rfl)) (ad_cons (ev_as (t := .val (.int r_9)) (cs2 := []) (ev_callM (κ := []) C_law_far hr (by first | decide | omega) rfl (av_cons (ev_div (ev_name T rfl Lk.here rfl) ev_int (by wtm_at "d.div")) av_nil) Sel.nil (RenA.val RenA.nil) (Sp_law_far.mk (cell_here_0 := (cell_here_2 / 7)) (by wtm_at "g.pre")) SetA.nil (List.prefix_refl _) rfl (by decide) rfl) (by subst er_9; rfl) (by subst er_9; rfl)) ad_nil)))) rfl) (by wtm_at "g.cast")) ?_)
        show RetOk _ _ _ _ _
        subst h
        exact ret_val rfl rfl rfl (by wtm_at "d.lt")
      case n11 =>
        intro hb10
        have hb10x := hb10
        try simp only [Bool.and_eq_true, Bool.or_eq_true, Bool.and_eq_false_iff, Bool.or_eq_false_iff, decide_eq_true_eq, decide_eq_false_iff_not, Bool.not_eq_true', Bool.not_eq_false', Bool.not_eq_eq_eq_not, Bool.not_true, Bool.not_false] at hb10x
        rw [if_neg (by rw [hb10]; decide)] at h
        refine sx_nil ?_
        show SX _ _ _ _ _ _
        replace h := letF_elim h
        obtain ⟨r_10, er_10, h⟩ := h
        refine sx_cons (s1_ret (ev_is (t := .val (Fst.D (Fst.claim r_10))) (ev_tup (ad_cons ev_str (ad_cons (ev_as (t := .val (Clm.D r_10)) (cs2 := []) (ev_callM (κ := []) C_law_claim hr (by first | decide | omega) rfl (av_cons (ev_name T rfl Lk.here rfl) (av_cons (ev_name T rfl (Lk.there Lk.here) rfl) (av_cons (ev_name T rfl (Lk.there (Lk.there (Lk.there Lk.here))) rfl) av_nil))) Sel.nil (RenA.val (RenA.val (RenA.val RenA.nil))) (Sp_law_claim.mk (cell_here_0 := cell_here_2) (nums_0 := nums_0) (rows_0 := rows_0) (by wtm_at "g.pre") (by wtm_at "g.pre") (by wtm_at "g.pre")) SetA.nil (List.prefix_refl _) rfl (by decide) rfl) (by subst er_10; rfl) (by subst er_10; rfl)) ad_nil)) rfl) (by wtm_at "g.cast")) ?_)
        show RetOk _ _ _ _ _
        subst h
        exact ret_val rfl rfl rfl (by wtm_at "d.lt")
end
def m_law_proc (script_0 : Scr) (words_here_0 : (List Str)) : (Str × Str × (List Str) × (List Str) × (List Clm) × (List Clm) × (List Fst)) := letF (m_law_cell script_0 0) fun r_1 => letF ((words_here_0.drop (1 : Int).toNat).take (((1 + (r_1 % 4)) : Int).toNat - (1 : Int).toNat)) fun params_2 => letF (((words_here_0.drop 4).take (6 - 4)) ++ ([("out" : Str)] : (List Str))) fun free_3 => letF (params_2 ++ free_3) fun nums_4 => letF (m_law_cell script_0 1) fun r_5 => letF ((words_here_0.drop (6 : Int).toNat).take (((6 + (r_5 % 3)) : Int).toNat - (6 : Int).toNat)) fun rows_6 => letF (m_law_cell script_0 2) fun r_7 => forL (fun (x_10 : Nat) (s_11 : ((List Clm))) n_1 => letF (m_law_cell script_0 (14 + (x_10 : Int))) fun r_12 => letF (m_law_claim r_12 params_2 rows_6) fun r_13 => n_1 ((s_11 ++ [r_13]))) (fun s_11 : ((List Clm)) => letF (m_law_cell script_0 3) fun r_14 => forL (fun (x_17 : Nat) (s_18 : ((List Clm))) n_2 => letF (m_law_cell script_0 (18 + (x_17 : Int))) fun r_19 => letF (m_law_claim r_19 (params_2 ++ ([("out" : Str)] : (List Str))) rows_6) fun r_20 => n_2 ((s_18 ++ [r_20]))) (fun s_18 : ((List Clm)) => letF (m_law_cell script_0 4) fun r_21 => letF ((List.range ((r_21 % 31) : Int).toNat).map fun (y_22 : Nat) => (m_law_statement (m_law_cell script_0 (22 + (y_22 : Int))) nums_4 free_3 rows_6)) fun body_23 => (("proc" : Str), (ixD words_here_0 0), params_2, rows_6, s_11, s_18, body_23)) (List.range ((r_14 % 4) : Int).toNat) (([] : (List Clm)))) (List.range ((r_7 % 4) : Int).toNat) (([] : (List Clm)))
section
variable {P : Program} {w : World} {K : PySem.W.Frag} {mg : Str → Option Value} {base : Heap}
inductive Sp_law_proc : Spec
  | mk {script_0 : Scr} {words_here_0 : (List Str)} (hw : words_here_0.length = 8) : Sp_law_proc [.val (Scr.D script_0), .val (.list (words_here_0.map PyData.str))] [] (.val (.tuple [(.str (m_law_proc script_0 words_here_0).1), (.str (m_law_proc script_0 words_here_0).2.1), (.tuple ((m_law_proc script_0 words_here_0).2.2.1.map PyData.str)), (.tuple ((m_law_proc script_0 words_here_0).2.2.2.1.map PyData.str)), (.tuple ((m_law_proc script_0 words_here_0).2.2.2.2.1.map Clm.D)), (.tuple ((m_law_proc script_0 words_here_0).2.2.2.2.2.1.map Clm.D)), (.tuple ((m_law_proc script_0 words_here_0).2.2.2.2.2.2.map Fst.D))])) []
theorem cal_law_proc (D : DefAt K mg "_law_proc" s__law_proc P__law_proc) (C_law_cell : Cal P w K mg base 1 "_law_cell" 2 Sp_law_cell) (C_law_claim : Cal P w K mg base 4 "_law_claim" 3 Sp_law_claim) (C_law_statement : Cal P w K mg base 5 "_law_statement" 4 Sp_law_statement) (z_range : mg "range" = none) (z_tuple : mg "tuple" = none) : Cal P w K mg base 6 "_law_proc" 2 Sp_law_proc := by
  refine cal_def D sc__law_proc tb__law_proc (fun f cdv A outer s0 H E hr T TL svs cs sv cs1 hsp hl => ?_)
  cases hsp with
  | @mk script_0 words_here_0 hw =>
  obtain ⟨R0, h⟩ : ∃ R0, (m_law_proc script_0 words_here_0) = R0 := ⟨_, rfl⟩
  rw [h]
  unfold m_law_proc at h
  show SX _ _ _ [some (.val (Scr.D script_0)), some (.val (.list (words_here_0.map PyData.str))), none, none, none, none, none, none, none, none] [] _
  replace h := letF_elim h
  obtain ⟨r_1, er_1, h⟩ := h
  replace h := letF_elim h
  obtain ⟨params_2, eparams_2, h⟩ := h
  have p1 := cell_bd script_0 0
  refine sx_cons (s1_set TL rfl (ev_is (t := .val (.list (params_2.map PyData.str))) (ev_is (t := .val (.list (((words_here_0.drop (1 : Int).toNat).take (((1 + (r_1 % 4)) : Int).toNat - (1 : Int).toNat)).map PyData.str))) (ev_slFTi (k := 1) (m := (1 + (r_1 % 4))) (ds := words_here_0.map PyData.str) (ev_name T rfl (Lk.there Lk.here) rfl) ev_int (ev_add ev_int (ev_mod (ev_as (t := .val (.int r_1)) (cs2 := []) (ev_callM (κ := []) C_law_cell hr (by first | decide | omega) rfl (av_cons (ev_name T rfl Lk.here rfl) (av_cons ev_int av_nil)) Sel.nil (RenA.val (RenA.val RenA.nil)) (Sp_law_cell.mk (script_0 := script_0) (k_0 := 0) (by wtm_at "g.pre")) SetA.nil (List.prefix_refl _) rfl (by decide) rfl) (by subst er_1; rfl) (by subst er_1; rfl)) ev_int (by wtm_at "d.side"))) IsL.val (by wtm_at "g.sd") (by wtm_at "g.sd")) (by rw [List.map_take, List.map_drop])) (by subst eparams_2; rfl)) (Put.there (Put.there Put.here)) ?_ rfl)
  show SX _ _ _ _ _ _
  replace h := letF_elim h
  obtain ⟨free_3, efree_3, h⟩ := h
  have hz2 : (((words_here_0.drop 4).take (6 - 4))).length + (([("out" : Str)] : (List Str))).length ≤ 1000000 := by wtm_at "g.sd"
  refine sx_cons (s1_set TL rfl (ev_is (t := .val (.list (free_3.map PyData.str))) (ev_is (t := .val (.list ((((words_here_0.drop 4).take (6 - 4)) ++ ([("out" : Str)] : (List Str))).map PyData.str))) (ev_catL (ds := ((words_here_0.drop 4).take (6 - 4)).map PyData.str) (es := ([("out" : Str)] : (List Str)).map PyData.str) (ev_is (t := .val (.list (((words_here_0.drop 4).take (6 - 4)).map PyData.str))) (ev_slFT (k := 4) (m := 6) (ds := words_here_0.map PyData.str) (ev_name T rfl (Lk.there Lk.here) rfl) ev_int ev_int IsL.val) (by rw [List.map_take, List.map_drop])) (ev_lstV (ad_cons ev_str ad_nil) rfl) IsL.val IsL.val (by simpa only [List.length_map] using hz2)) (by rw [← List.map_append])) (by subst efree_3; rfl)) (Put.there (Put.there (Put.there Put.here))) ?_ rfl)
  show SX _ _ _ _ _ _
  replace h := letF_elim h
  obtain ⟨nums_4, enums_4, h⟩ := h
  have hz3 : (params_2).length + (free_3).length ≤ 1000000 := by wtm_at "g.sd"
  refine sx_cons (s1_set TL rfl (ev_is (t := .val (.list (nums_4.map PyData.str))) (ev_is (t := .val (.list ((params_2 ++ free_3).map PyData.str))) (ev_catL (ds := params_2.map PyData.str) (es := free_3.map PyData.str) (ev_name T rfl (Lk.there (Lk.there Lk.here)) rfl) (ev_name T rfl (Lk.there (Lk.there (Lk.there Lk.here))) rfl) IsL.val IsL.val (by simpa only [List.length_map] using hz3)) (by rw [← List.map_append])) (by subst enums_4; rfl)) (Put.there (Put.there (Put.there (Put.there Put.here)))) ?_ rfl)
  show SX _ _ _ _ _ _
  replace h := letF_elim h
  obtain ⟨r_5, er_5, h⟩ := h
  replace h := letF_elim h
  obtain ⟨rows_6, erows_6, h⟩ := h
  have p4 := cell_bd script_0 1
  refine sx_cons (s1_set TL rfl (ev_is (t := .val (.list (rows_6.map PyData.str))) (ev_is (t := .val (.list (((words_here_0.drop (6 : Int).toNat).take (((6 + (r_5 % 3)) : Int).toNat - (6 : Int).toNat)).map PyData.str))) (ev_slFTi (k := 6) (m := (6 + (r_5 % 3))) (ds := words_here_0.map PyData.str) (ev_name T rfl (Lk.there Lk.here) rfl) ev_int (ev_add ev_int (ev_mod (ev_as (t := .val (.int r_5)) (cs2 := []) (ev_callM (κ := []) C_law_cell hr (by first | decide | omega) rfl (av_cons (ev_name T rfl Lk.here rfl) (av_cons ev_int av_nil)) Sel.nil (RenA.val (RenA.val RenA.nil)) (Sp_law_cell.mk (script_0 := script_0) (k_0 := 1) (by wtm_at "g.pre")) SetA.nil (List.prefix_refl _) rfl (by decide) rfl) (by subst er_5; rfl) (by subst er_5; rfl)) ev_int (by wtm_at "d.side"))) IsL.val (by wtm_at "g.sd") (by wtm_at "g.sd")) (by rw [List.map_take, List.map_drop])) (by subst erows_6; rfl)) (Put.there (Put.there (Put.there (Put.there (Put.there Put.here))))) ?_ rfl)
  show SX _ _ _ _ _ _
  refine sx_cons (s1_set TL rfl (ev_lstC (ss := []) av_nil AppC.nil rfl) (Put.there (Put.there (Put.there (Put.there (Put.there (Put.there Put.here)))))) ?_ rfl)
  show SX _ _ _ _ _ _
  refine sx_cons (s1_set TL rfl (ev_lstC (ss := []) av_nil (AppC.cons AppC.nil) rfl) (Put.there (Put.there (Put.there (Put.there (Put.there (Put.there (Put.there Put.here))))))) ?_ rfl)
  show SX _ _ _ _ _ _
  replace h := letF_elim h
  obtain ⟨r_7, er_7, h⟩ := h
  have p5 := cell_bd script_0 2
  refine' sx_cons ?lp7
  refine' s1_forK (List.range ((r_7 % 4) : Int).toNat) (fun i : Nat => SV.val (.int (i : Int))) _ _ R0 (([] : (List Clm))) (fun l_1 (s_11 : ((List Clm))) => (s_11.length + 1 * l_1.length ≤ (([] : (List Clm))).length + 1 * (List.range ((r_7 % 4) : Int).toNat).length)) h PassesOwn.never rfl (iv_range1 z_range rfl (ev_mod (ev_as (t := .val (.int r_7)) (cs2 := [(.lst ((([] : (List Clm)).map Clm.D).map SV.val)), (.lst ((([] : (List Clm)).map Clm.D).map SV.val))]) (ev_callM (κ := []) C_law_cell hr (by first | decide | omega) rfl (av_cons (ev_name T rfl Lk.here rfl) (av_cons ev_int av_nil)) Sel.nil (RenA.val (RenA.val RenA.nil)) (Sp_law_cell.mk (script_0 := script_0) (k_0 := 2) (by wtm_at "g.pre")) SetA.nil (List.prefix_refl _) rfl (by decide) rfl) (by subst er_7; rfl) (by subst er_7; rfl)) ev_int (by wtm_at "d.side")) (by wtm_at "g.sd") (by wtm_at "g.sd")) ?j07 (fun s_11 : ((List Clm)) => [some (.val (Scr.D script_0)), some (.val (.list (words_here_0.map PyData.str))), some (.val (.list (params_2.map PyData.str))), some (.val (.list (free_3.map PyData.str))), some (.val (.list (nums_4.map PyData.str))), some (.val (.list (rows_6.map PyData.str))), some (.cell 0), some (.cell 1), none, none]) (fun s_11 : ((List Clm)) => [(.lst ((s_11.map Clm.D).map SV.val)), (.lst ((([] : (List Clm)).map Clm.D).map SV.val))]) (Le.same (Le.same (Le.same (Le.same (Le.same (Le.same (Le.same (Le.same (Le.lose (Le.lose Le.nil)))))))))) rfl (fun _ => trivial) ?tu7 ?dn7
  case j07 => wtm_at "g.inv"
  case tu7 =>
    clear h
    rintro x_10 l_1 c_8 n_1 hm6 hJ1 h
    have hm6p := hm6
    have hm6 := mem_mid hm6
    have hm6r := List.mem_range.mp hm6
    try dsimp only at h hJ1
    refine gx_name TL rfl (Put.there (Put.there (Put.there (Put.there (Put.there (Put.there (Put.there (Put.there Put.here)))))))) ?_ rfl
    show SX _ _ _ [some (.val (Scr.D script_0)), some (.val (.list (words_here_0.map PyData.str))), some (.val (.list (params_2.map PyData.str))), some (.val (.list (free_3.map PyData.str))), some (.val (.list (nums_4.map PyData.str))), some (.val (.list (rows_6.map PyData.str))), some (.cell 0), some (.cell 1), some (.val (.int (x_10 : Int))), none] [(.lst ((c_8.map Clm.D).map SV.val)), (.lst ((([] : (List Clm)).map Clm.D).map SV.val))] _
    replace h := letF_elim h
    obtain ⟨r_12, er_12, h⟩ := h
    replace h := letF_elim h
    obtain ⟨r_13, er_13, h⟩ := h
    have p8 := cell_bd script_0 (14 + (x_10 : Int))
    refine sx_cons (s1_expr (ev_appT (f := Clm.D) (l := c_8) (y := r_13) (ev_name T rfl (Lk.there (Lk.there (Lk.there (Lk.there (Lk.there (Lk.there Lk.here)))))) rfl) (ev_as (t := .val (Clm.D r_13)) (cs2 := [(.lst ((c_8.map Clm.D).map SV.val)), (.lst ((([] : (List Clm)).map Clm.D).map SV.val))]) (ev_callM (κ := []) C_law_claim hr (by first | decide | omega) rfl (av_cons (ev_as (t := .val (.int r_12)) (cs2 := [(.lst ((c_8.map Clm.D).map SV.val)), (.lst ((([] : (List Clm)).map Clm.D).map SV.val))]) (ev_callM (κ := []) C_law_cell hr (by first | decide | omega) rfl (av_cons (ev_name T rfl Lk.here rfl) (av_cons (ev_add ev_int (ev_name T rfl (Lk.there (Lk.there (Lk.there (Lk.there (Lk.there (Lk.there (Lk.there (Lk.there Lk.here)))))))) rfl)) av_nil)) Sel.nil (RenA.val (RenA.val RenA.nil)) (Sp_law_cell.mk (script_0 := script_0) (k_0 := (14 + (x_10 : Int))) (by wtm_at "g.pre")) SetA.nil (List.prefix_refl _) rfl (by decide) rfl) (by subst er_12; rfl) (by subst er_12; rfl)) (av_cons (ev_name T rfl (Lk.there (Lk.there Lk.here)) rfl) (av_cons (ev_name T rfl (Lk.there (Lk.there (Lk.there (Lk.there (Lk.there Lk.here))))) rfl) av_nil))) Sel.nil (RenA.val (RenA.val (RenA.val RenA.nil))) (Sp_law_claim.mk (cell_here_0 := r_12) (nums_0 := params_2) (rows_0 := rows_6) (by wtm_at "g.pre") (by wtm_at "g.pre") (by wtm_at "g.pre")) SetA.nil (List.prefix_refl _) rfl (by decide) rfl) (by subst er_13; rfl) (by subst er_13; rfl)) rfl rfl PutC.here (by wtm_at "g.sd")) ?_)
    show SX _ _ _ _ _ _
    refine sx_nil ?_
    exact ⟨((c_8 ++ [r_13])), h, (by wtm_at "g.inv"), (At.same (Le.same (Le.same (Le.same (Le.same (Le.same (Le.same (Le.same (Le.same (Le.lose (Le.lose Le.nil)))))))))))⟩
  case dn7 =>
    clear h
    rintro c_8 hJ1 h slx hlx
    try dsimp only at h hJ1
    refine sx_weak hlx ?_
    show SX _ _ _ [some (.val (Scr.D script_0)), some (.val (.list (words_here_0.map PyData.str))), some (.val (.list (params_2.map PyData.str))), some (.val (.list (free_3.map PyData.str))), some (.val (.list (nums_4.map PyData.str))), some (.val (.list (rows_6.map PyData.str))), some (.cell 0), some (.cell 1), none, none] [(.lst ((c_8.map Clm.D).map SV.val)), (.lst ((([] : (List Clm)).map Clm.D).map SV.val))] _
    replace h := letF_elim h
    obtain ⟨r_14, er_14, h⟩ := h
    have p9 := cell_bd script_0 3
    refine' sx_cons ?lp11
    refine' s1_forK (List.range ((r_14 % 4) : Int).toNat) (fun i : Nat => SV.val (.int (i : Int))) _ _ R0 (([] : (List Clm))) (fun l_2 (s_18 : ((List Clm))) => (s_18.length + 1 * l_2.length ≤ (([] : (List Clm))).length + 1 * (List.range ((r_14 % 4) : Int).toNat).length)) h PassesOwn.never rfl (iv_range1 z_range rfl (ev_mod (ev_as (t := .val (.int r_14)) (cs2 := [(.lst ((c_8.map Clm.D).map SV.val)), (.lst ((([] : (List Clm)).map Clm.D).map SV.val))]) (ev_callM (κ := []) C_law_cell hr (by first | decide | omega) rfl (av_cons (ev_name T rfl Lk.here rfl) (av_cons ev_int av_nil)) Sel.nil (RenA.val (RenA.val RenA.nil)) (Sp_law_cell.mk (script_0 := script_0) (k_0 := 3) (by wtm_at "g.pre")) SetA.nil (List.prefix_refl _) rfl (by decide) rfl) (by subst er_14; rfl) (by subst er_14; rfl)) ev_int (by wtm_at "d.side")) (by wtm_at "g.sd") (by wtm_at "g.sd")) ?j011 (fun s_18 : ((List Clm)) => [some (.val (Scr.D script_0)), some (.val (.list (words_here_0.map PyData.str))), some (.val (.list (params_2.map PyData.str))), some (.val (.list (free_3.map PyData.str))), some (.val (.list (nums_4.map PyData.str))), some (.val (.list (rows_6.map PyData.str))), some (.cell 0), some (.cell 1), none, none]) (fun s_18 : ((List Clm)) => [(.lst ((c_8.map Clm.D).map SV.val)), (.lst ((s_18.map Clm.D).map SV.val))]) (Le.same (Le.same (Le.same (Le.same (Le.same (Le.same (Le.same (Le.same (Le.lose (Le.lose Le.nil)))))))))) rfl (fun _ => trivial) ?tu11 ?dn11
    case j011 => wtm_at "g.inv"
    case tu11 =>
      clear h
      rintro x_17 l_2 c_16 n_2 hm10 hJ2 h
      have hm10p := hm10
      have hm10 := mem_mid hm10
      have hm10r := List.mem_range.mp hm10
      try dsimp only at h hJ2
      refine gx_name TL rfl (Put.there (Put.there (Put.there (Put.there (Put.there (Put.there (Put.there (Put.there Put.here)))))))) ?_ rfl
      show SX _ _ _ [some (.val (Scr.D script_0)), some (.val (.list (words_here_0.map PyData.str))), some (.val (.list (params_2.map PyData.str))), some (.val (.list (free_3.map PyData.str))), some (.val (.list (nums_4.map PyData.str))), some (.val (.list (rows_6.map PyData.str))), some (.cell 0), some (.cell 1), some (.val (.int (x_17 : Int))), none] [(.lst ((c_8.map Clm.D).map SV.val)), (.lst ((c_16.map Clm.D).map SV.val))] _
      replace h := letF_elim h
      obtain ⟨r_19, er_19, h⟩ := h
      replace h := letF_elim h
      obtain ⟨r_20, er_20, h⟩ := h
      have p12 := cell_bd script_0 (18 + (x_17 : Int))
      have hz13 : (params_2).length + (([("out" : Str)] : (List Str))).length ≤ 1000000 := by wtm_at "g.sd"
      refine sx_cons (s1_expr (ev_appT (f := Clm.D) (l := c_16) (y := r_20) (ev_name T rfl (Lk.there (Lk.there (Lk.there (Lk.there (Lk.there (Lk.there (Lk.there Lk.here))))))) rfl) (ev_as (t := .val (Clm.D r_20)) (cs2 := [(.lst ((c_8.map Clm.D).map SV.val)), (.lst ((c_16.map Clm.D).map SV.val))]) (ev_callM (κ := []) C_law_claim hr (by first | decide | omega) rfl (av_cons (ev_as (t := .val (.int r_19)) (cs2 := [(.lst ((c_8.map Clm.D).map SV.val)), (.lst ((c_16.map Clm.D).map SV.val))]) (ev_callM (κ := []) C_law_cell hr (by first | decide | omega) rfl (av_cons (ev_name T rfl Lk.here rfl) (av_cons (ev_add ev_int (ev_name T rfl (Lk.there (Lk.there (Lk.there (Lk.there (Lk.there (Lk.there (Lk.there (Lk.there Lk.here)))))))) rfl)) av_nil)) Sel.nil (RenA.val (RenA.val RenA.nil)) (Sp_law_cell.mk (script_0 := script_0) (k_0 := (18 + (x_17 : Int))) (by wtm_at "g.pre")) SetA.nil (List.prefix_refl _) rfl (by decide) rfl) (by subst er_19; rfl) (by subst er_19; rfl)) (av_cons (ev_is (t := .val (.list ((params_2 ++ ([("out" : Str)] : (List Str))).map PyData.str))) (ev_catL (ds := params_2.map PyData.str) (es := ([("out" : Str)] : (List Str)).map PyData.str) (ev_name T rfl (Lk.there (Lk.there Lk.here)) rfl) (ev_lstV (ad_cons ev_str ad_nil) rfl) IsL.val IsL.val (by simpa only [List.length_map] using hz13)) (by rw [← List.map_append])) (av_cons (ev_name T rfl (Lk.there (Lk.there (Lk.there (Lk.there (Lk.there Lk.here))))) rfl) av_nil))) Sel.nil (RenA.val (RenA.val (RenA.val RenA.nil))) (Sp_law_claim.mk (cell_here_0 := r_19) (nums_0 := (params_2 ++ ([("out" : Str)] : (List Str)))) (rows_0 := rows_6) (by wtm_at "g.pre") (by wtm_at "g.pre") (by wtm_at "g.pre")) SetA.nil (List.prefix_refl _) rfl (by decide) rfl) (by subst er_20; rfl) (by subst er_20; rfl)) rfl rfl (PutC.there PutC.here) (by wtm_at "g.sd")) ?_)
      show SX _ _ _ _ _ _
      refine sx_nil ?_
      exact ⟨((c_16 ++ [r_20])), h, (by wtm_at "g.inv"), (At.same (Le.same (Le.same (Le.same (Le.same (Le.same (Le.same (Le.same (Le.same (Le.lose (Le.lose Le.nil)))))))))))⟩
    case dn11 =>
      clear h
      rintro c_16 hJ2 h slx hlx
      try dsimp only at h hJ2
      refine sx_weak hlx ?_
      show SX _ _ _ [some (.val (Scr.D script_0)), some (.val (.list (words_here_0.map PyData.str))), some (.val (.list (params_2.map PyData.str))), some (.val (.list (free_3.map PyData.str))), some (.val (.list (nums_4.map PyData.str))), some (.val (.list (rows_6.map PyData.str))), some (.cell 0), some (.cell 1), none, none] [(.lst ((c_8.map Clm.D).map SV.val)), (.lst ((c_16.map Clm.D).map SV.val))] _
      replace h := letF_elim h
      obtain ⟨r_21, er_21, h⟩ := h
      replace h := letF_elim h
      obtain ⟨body_23, ebody_23, h⟩ := h
      have p14 := cell_bd script_0 4
      refine sx_cons (s1_setLc TL rfl rfl (blkOk_by (N := N__law_proc) (sc := defScope s__law_proc) (by decide +kernel)) (lc_as (es := body_23.map Fst.D) (lc_as (es := ((List.range ((r_21 % 31) : Int).toNat).map fun (y_22 : Nat) => (m_law_statement (m_law_cell script_0 (22 + (y_22 : Int))) nums_4 free_3 rows_6)).map Fst.D) (lc_K (own := [("_law_k", 8)]) (List.range ((r_21 % 31) : Int).toNat) (fun i : Nat => SV.val (.int (i : Int))) (by exact (iv_range1 z_range rfl (ev_mod (ev_as (t := .val (.int r_21)) (cs2 := [(.lst ((c_8.map Clm.D).map SV.val)), (.lst ((c_16.map Clm.D).map SV.val))]) (ev_callM (κ := []) C_law_cell hr (by first | decide | omega) rfl (av_cons (ev_name T rfl Lk.here rfl) (av_cons ev_int av_nil)) Sel.nil (RenA.val (RenA.val RenA.nil)) (Sp_law_cell.mk (script_0 := script_0) (k_0 := 4) (by wtm_at "g.pre")) SetA.nil (List.prefix_refl _) rfl (by decide) rfl) (by subst er_21; rfl) (by subst er_21; rfl)) ev_int (by wtm_at "d.side")) (by wtm_at "g.sd") (by wtm_at "g.sd"))) (fun y_22 => (Fst.D (m_law_statement (m_law_cell script_0 (22 + (y_22 : Int))) nums_4 free_3 rows_6))) (fun y_22 => [some (.val (Scr.D script_0)), some (.val (.list (words_here_0.map PyData.str))), some (.val (.list (params_2.map PyData.str))), some (.val (.list (free_3.map PyData.str))), some (.val (.list (nums_4.map PyData.str))), some (.val (.list (rows_6.map PyData.str))), some (.cell 0), some (.cell 1), some (.val (.int (y_22 : Int))), none]) (fun _ => [(.lst ((c_8.map Clm.D).map SV.val)), (.lst ((c_16.map Clm.D).map SV.val))]) (by wtm_at "g.sd") (by first | exact trivial | rfl) (fun y_22 hm16 st H0 C0 cl fp => gw_name T.nd rfl (Put.there (Put.there (Put.there (Put.there (Put.there (Put.there (Put.there (Put.there Put.here)))))))) (by decide) ⟨rfl, rfl⟩) (fun y_22 hm16 => ⟨fun st H0 C0 cl fp => (by
          have hm16r := List.mem_range.mp hm16
          have p15 := cell_bd script_0 (22 + (y_22 : Int))
          exact (ev_callM (κ := []) C_law_statement hr (by first | decide | omega) rfl (av_cons (ev_callM (κ := []) C_law_cell hr (by first | decide | omega) rfl (av_cons (ev_nameV T.nd rfl Lk.here) (av_cons (ev_add ev_int (ev_nameV T.nd rfl (Lk.there (Lk.there (Lk.there (Lk.there (Lk.there (Lk.there (Lk.there (Lk.there Lk.here)))))))))) av_nil)) Sel.nil (RenA.val (RenA.val RenA.nil)) (Sp_law_cell.mk (script_0 := script_0) (k_0 := (22 + (y_22 : Int))) (by wtm_at "g.pre")) SetA.nil (List.prefix_refl _) rfl (by decide) rfl) (av_cons (ev_nameV T.nd rfl (Lk.there (Lk.there (Lk.there (Lk.there Lk.here))))) (av_cons (ev_nameV T.nd rfl (Lk.there (Lk.there (Lk.there Lk.here)))) (av_cons (ev_nameV T.nd rfl (Lk.there (Lk.there (Lk.there (Lk.there (Lk.there Lk.here)))))) av_nil)))) Sel.nil (RenA.val (RenA.val (RenA.val (RenA.val RenA.nil)))) (Sp_law_statement.mk (cell_here_0 := (m_law_cell script_0 (22 + (y_22 : Int)))) (nums_0 := nums_4) (free_0 := free_3) (rows_0 := rows_6) (by wtm_at "g.pre") (by wtm_at "g.pre") (by wtm_at "g.pre") (by wtm_at "g.pre")) SetA.nil (List.prefix_refl _) rfl (by decide) rfl)), AtC.same⟩)) (by rw [List.map_map]; rfl) rfl) (by subst ebody_23; rfl) rfl) (Put.there (Put.there (Put.there (Put.there (Put.there (Put.there (Put.there (Put.there (Put.there Put.here))))))))) ?_ rfl)
      show SX _ _ _ _ _ _
      have at17 : L2.atI (words_here_0.map PyData.str) 0 = some (PyData.str (ixD words_here_0 0)) := at_ixD (f := PyData.str) (by wtm_at "g.sd") (by wtm_at "g.sd")
      refine sx_cons (s1_ret (ev_is (t := .val (.tuple [(.str (("proc" : Str), (ixD words_here_0 0), params_2, rows_6, c_8, c_16, body_23).1), (.str (("proc" : Str), (ixD words_here_0 0), params_2, rows_6, c_8, c_16, body_23).2.1), (.tuple ((("proc" : Str), (ixD words_here_0 0), params_2, rows_6, c_8, c_16, body_23).2.2.1.map PyData.str)), (.tuple ((("proc" : Str), (ixD words_here_0 0), params_2, rows_6, c_8, c_16, body_23).2.2.2.1.map PyData.str)), (.tuple ((("proc" : Str), (ixD words_here_0 0), params_2, rows_6, c_8, c_16, body_23).2.2.2.2.1.map Clm.D)), (.tuple ((("proc" : Str), (ixD words_here_0 0), params_2, rows_6, c_8, c_16, body_23).2.2.2.2.2.1.map Clm.D)), (.tuple ((("proc" : Str), (ixD words_here_0 0), params_2, rows_6, c_8, c_16, body_23).2.2.2.2.2.2.map Fst.D))])) (ev_tup (ad_cons ev_str (ad_cons (ev_ixLv (ev_name T rfl (Lk.there Lk.here) rfl) ev_int at17) (ad_cons (ev_tupleL (ds := params_2.map PyData.str) z_tuple rfl (ev_name T rfl (Lk.there (Lk.there Lk.here)) rfl) IsL.val) (ad_cons (ev_tupleL (ds := rows_6.map PyData.str) z_tuple rfl (ev_name T rfl (Lk.there (Lk.there (Lk.there (Lk.there (Lk.there Lk.here))))) rfl) IsL.val) (ad_cons (ev_tupleL (ds := c_8.map Clm.D) z_tuple rfl (ev_name T rfl (Lk.there (Lk.there (Lk.there (Lk.there (Lk.there (Lk.there Lk.here)))))) rfl) (IsL.cell rfl)) (ad_cons (ev_tupleL (ds := c_16.map Clm.D) z_tuple rfl (ev_name T rfl (Lk.there (Lk.there (Lk.there (Lk.there (Lk.there (Lk.there (Lk.there Lk.here))))))) rfl) (IsL.cell rfl)) (ad_cons (ev_tupleL (ds := body_23.map Fst.D) z_tuple rfl (ev_name T rfl (Lk.there (Lk.there (Lk.there (Lk.there (Lk.there (Lk.there (Lk.there (Lk.there (Lk.there Lk.here))))))))) rfl) IsL.val) ad_nil))))))) rfl) (by wtm_at "g.cast")) ?_)
      show RetOk _ _ _ _ _
      subst h
      exact ret_val rfl rfl rfl (by wtm_at "d.lt")
end
local macro_rules | `(tactic| wtm_at "g.cast") => `(tactic| rfl)
set_option hygiene false in
local macro_rules | `(tactic| wtm_at "g.pre") => `(tactic| first | assumption | omega | exact ⟨hu.1, Nat.le_trans hu.2.1 (by decide), hu.2.2⟩ | (subst_vars; assumption) | fail)
set_option hygiene false in
local macro_rules | `(tactic| wtm_at "g.nd") => `(tactic| first | with_reducible assumption | fail)
set_option hygiene false in
local macro_rules | `(tactic| wtm_at "g.inv") => `(tactic| (try dsimp only); first | wtm_at "g.sd" | (refine ⟨?_, ?_⟩; wtm_at "g.sd"; wtm_at "g.sd") | (refine ⟨?_, ?_, ?_⟩; wtm_at "g.sd"; wtm_at "g.sd"; wtm_at "g.sd") | fail)
def m_law_due (proc_here_0 : (Str × Str × (List Str) × (List Str) × (List Clm) × (List Clm) × (List Fst))) (names_0 : (List Str)) : (List (Str × Str × (List Int) × Int × (List Row) × Clm)) := letF (usedF ([(.tuple (proc_here_0.2.2.2.2.1.map Clm.D)), (.tuple (proc_here_0.2.2.2.2.2.1.map Clm.D)), (.tuple (proc_here_0.2.2.2.2.2.2.map Fst.D))] : TreL) names_0) fun r_1 => letF (sortT (r_1 ++ ([("out" : Str)] : (List Str)))) fun used_here_2 => letF ((used_here_2.filter fun (y_3 : Str) => (!memB y_3 proc_here_0.2.2.1)).map fun (y_3 : Str) => (Row.set y_3 (Trm.is ("" : Str)) 0)) fun way_4 => forL (fun (x_9 : (Nat × Fst)) (s_10 : ((List Row) × (List (Str × Str × (List Int) × Int × (List Row) × Clm)))) n_1 => match x_9 with | (x_9i, x_9v) => (match x_9v with | .set zx_9 zt_10 zc_11 => n_1 ((s_10.1 ++ [(Row.set zx_9 zt_10 zc_11)]), s_10.2) | .put zr_13 zp_14 zt_15 zc_16 => n_1 ((s_10.1 ++ [(Row.put zr_13 zp_14 zt_15 zc_16)]), s_10.2) | .any zx_18 => n_1 ((s_10.1 ++ [(Row.any zx_18)]), s_10.2) | .claim zc_20 => n_1 (s_10.1, (s_10.2 ++ [(proc_here_0.2.1, ("claim" : Str), ([(x_9i : Int)] : (List Int)), 0, s_10.1, zc_20)])))) (fun s_10 : ((List Row) × (List (Str × Str × (List Int) × Int × (List Row) × Clm))) => forL (fun (x_14 : (Nat × Clm)) (s_15 : ((List (Str × Str × (List Int) × Int × (List Row) × Clm)))) n_2 => match x_14 with | (x_14i, x_14v) => n_2 ((s_15 ++ [(proc_here_0.2.1, ("give" : Str), ([] : (List Int)), (x_14i : Int), s_10.1, x_14v)]))) (fun s_15 : ((List (Str × Str × (List Int) × Int × (List Row) × Clm))) => s_15) (enumL proc_here_0.2.2.2.2.2.1) (s_10.2)) (enumL proc_here_0.2.2.2.2.2.2) ((way_4 ++ (proc_here_0.2.2.2.2.1.map fun (y_5 : Clm) => (Row.know y_5))), ([] : (List (Str × Str × (List Int) × Int × (List Row) × Clm))))
section
variable {P : Program} {w : World} {K : PySem.W.Frag} {mg : Str → Option Value} {base : Heap}
inductive Sp_law_due : Spec
  | mk {proc_here_0 : (Str × Str × (List Str) × (List Str) × (List Clm) × (List Clm) × (List Fst))} {names_0 : (List Str)} (hp : PrcOk proc_here_0) (hu : UOk proc_here_0 names_0) (hok : ∀ x ∈ proc_here_0.2.2.1, PyData.strOk x = true) : Sp_law_due [.val (.tuple [(.str proc_here_0.1), (.str proc_here_0.2.1), (.tuple (proc_here_0.2.2.1.map PyData.str)), (.tuple (proc_here_0.2.2.2.1.map PyData.str)), (.tuple (proc_here_0.2.2.2.2.1.map Clm.D)), (.tuple (proc_here_0.2.2.2.2.2.1.map Clm.D)), (.tuple (proc_here_0.2.2.2.2.2.2.map Fst.D))]), .val (.list (names_0.map PyData.str))] [] (.val (.list ((m_law_due proc_here_0 names_0).map e_tup_str_str_tupl_int_int_lst_Row_Clm))) []
theorem cal_law_due (D : DefAt K mg "_law_due" s__law_due P__law_due) (C_law_used : Cal P w K mg base 9 "_law_used" 2 (Sp_law_used 8)) (z_enumerate : mg "enumerate" = none) (z_list : mg "list" = none) (z_set : mg "set" = none) (z_sorted : mg "sorted" = none) : Cal P w K mg base 10 "_law_due" 2 Sp_law_due := by
  refine cal_def D sc__law_due tb__law_due (fun f cdv A outer s0 H E hr T TL svs cs sv cs1 hsp hl => ?_)
  cases hsp with
  | @mk proc_here_0 names_0 hp hu hok =>
  obtain ⟨R0, h⟩ : ∃ R0, (m_law_due proc_here_0 names_0) = R0 := ⟨_, rfl⟩
  rw [h]
  unfold m_law_due at h
  have hpa := hp.a
  have hpr := hp.r
  have hpn := hp.n
  have hpg := hp.g
  have hpb := hp.b
  have hpo := hp.o
  have hel1 := enumL_len proc_here_0.2.2.2.2.2.2
  have hel2 := enumL_len proc_here_0.2.2.2.2.2.1
  have hu1 : (usedF ([(.tuple (proc_here_0.2.2.2.2.1.map Clm.D)), (.tuple (proc_here_0.2.2.2.2.2.1.map Clm.D)), (.tuple (proc_here_0.2.2.2.2.2.2.map Fst.D))] : TreL) names_0).length ≤ 900 := hu.2.1
  show SX _ _ _ [some (.val (.tuple [(.str proc_here_0.1), (.str proc_here_0.2.1), (.tuple (proc_here_0.2.2.1.map PyData.str)), (.tuple (proc_here_0.2.2.2.1.map PyData.str)), (.tuple (proc_here_0.2.2.2.2.1.map Clm.D)), (.tuple (proc_here_0.2.2.2.2.2.1.map Clm.D)), (.tuple (proc_here_0.2.2.2.2.2.2.map Fst.D))])), some (.val (.list (names_0.map PyData.str))), none, none, none, none, none, none, none, none, none] [] _
  replace h := letF_elim h
  obtain ⟨r_1, er_1, h⟩ := h
  replace h := letF_elim h
  obtain ⟨used_here_2, eused_here_2, h⟩ := h
  have hz1 : (r_1).length + (([("out" : Str)] : (List Str))).length ≤ 1000000 := by wtm_at "g.sd"
  have hr1 : r_1.length ≤ 1000 := by rw [← er_1]; exact Nat.le_trans hu.2.1 (by decide)
  have hul := sortT_len (r_1 ++ ([("out" : Str)] : (List Str)))
  rw [eused_here_2] at hul
  refine sx_cons (s1_set TL rfl (ev_is (t := .val (.list (used_here_2.map PyData.str))) (ev_sortedSetT (zs := (r_1 ++ ([("out" : Str)] : (List Str)))) z_sorted z_set (ev_is (t := .val (.list ((r_1 ++ ([("out" : Str)] : (List Str))).map PyData.str))) (ev_catL (ds := r_1.map PyData.str) (es := ([("out" : Str)] : (List Str)).map PyData.str) (ev_as (t := .val (.list (r_1.map PyData.str))) (cs2 := []) (ev_callM (κ := []) C_law_used hr (by first | decide | omega) rfl (av_cons (ev_is (t := .val (TreL.D ([(.tuple (proc_here_0.2.2.2.2.1.map Clm.D)), (.tuple (proc_here_0.2.2.2.2.2.1.map Clm.D)), (.tuple (proc_here_0.2.2.2.2.2.2.map Fst.D))] : TreL))) (ev_slTF (k := 4) (ev_name T rfl Lk.here rfl) ev_int (by decide) (Nat.le_of_ble_eq_true rfl)) (by wtm_at "g.cast")) (av_cons (ev_name T rfl (Lk.there Lk.here) rfl) av_nil)) Sel.nil (RenA.val (RenA.val RenA.nil)) (Sp_law_used.mk (thing_0 := ([(.tuple (proc_here_0.2.2.2.2.1.map Clm.D)), (.tuple (proc_here_0.2.2.2.2.2.1.map Clm.D)), (.tuple (proc_here_0.2.2.2.2.2.2.map Fst.D))] : TreL)) (nums_0 := names_0) (by wtm_at "g.pre")) SetA.nil (List.prefix_refl _) rfl (by decide) rfl) (by subst er_1; rfl) (by subst er_1; rfl)) (ev_lstV (ad_cons ev_str ad_nil) rfl) IsL.val IsL.val (by simpa only [List.length_map] using hz1)) (by rw [← List.map_append])) IsL.val (by wtm_at "g.sd")) (by subst eused_here_2; rfl)) (Put.there (Put.there Put.here)) ?_ rfl)
  show SX _ _ _ _ _ _
  replace h := letF_elim h
  obtain ⟨way_4, eway_4, h⟩ := h
  have fl4 := List.length_filter_le (fun (y_3 : Str) => (!memB y_3 proc_here_0.2.2.1)) used_here_2
  refine sx_cons (s1_setLcC TL rfl rfl (blkOk_by (N := N__law_due) (sc := defScope s__law_due) (by decide +kernel)) (lc_as (es := way_4.map Row.D) (lc_as (es := ((used_here_2.filter fun (y_3 : Str) => (!memB y_3 proc_here_0.2.2.1)).map fun (y_3 : Str) => (Row.set y_3 (Trm.is ("" : Str)) 0)).map Row.D) (lc_F (own := [("_law_x", 9)]) used_here_2 (fun x => SV.val (PyData.str x)) (by exact (iv_mapC (iv_listV (ds := used_here_2.map PyData.str) (ev_name T rfl (Lk.there (Lk.there Lk.here)) rfl)))) (fun y_3 => (!memB y_3 proc_here_0.2.2.1)) (fun y_3 => (Row.D (Row.set y_3 (Trm.is ("" : Str)) 0))) (fun y_3 => [some (.val (.tuple [(.str proc_here_0.1), (.str proc_here_0.2.1), (.tuple (proc_here_0.2.2.1.map PyData.str)), (.tuple (proc_here_0.2.2.2.1.map PyData.str)), (.tuple (proc_here_0.2.2.2.2.1.map Clm.D)), (.tuple (proc_here_0.2.2.2.2.2.1.map Clm.D)), (.tuple (proc_here_0.2.2.2.2.2.2.map Fst.D))])), some (.val (.list (names_0.map PyData.str))), some (.val (.list (used_here_2.map PyData.str))), none, none, none, none, none, none, some (.val (.str y_3)), none]) (fun _ => []) (by wtm_at "g.sd") (by first | exact trivial | rfl) (fun y_3 hm2 st H0 C0 cl fp => gw_name T.nd rfl (Put.there (Put.there (Put.there (Put.there (Put.there (Put.there (Put.there (Put.there (Put.there Put.here))))))))) (by decide) ⟨rfl, rfl⟩) (fun y_3 hm2 st H0 C0 cl fp => (by

      exact (tv_ninTS (y := y_3) (l := proc_here_0.2.2.1) (ev_nameV T.nd rfl (Lk.there (Lk.there (Lk.there (Lk.there (Lk.there (Lk.there (Lk.there (Lk.there (Lk.there Lk.here)))))))))) (ev_ixT (ev_nameV T.nd rfl Lk.here) ev_int rfl)))) (fun y_3 hm2 hq3 => ⟨fun st H0 C0 cl fp => (by
      have hq3x := hq3
      try simp only [Bool.and_eq_true, Bool.or_eq_true, Bool.and_eq_false_iff, Bool.or_eq_false_iff, decide_eq_true_eq, decide_eq_false_iff_not, Bool.not_eq_true', Bool.not_eq_false', Bool.not_eq_eq_eq_not, Bool.not_true, Bool.not_false] at hq3x
      exact (ev_tup (ad_cons ev_str (ad_cons (ev_nameV T.nd rfl (Lk.there (Lk.there (Lk.there (Lk.there (Lk.there (Lk.there (Lk.there (Lk.there (Lk.there Lk.here)))))))))) (ad_cons (ev_tup (ad_cons ev_str (ad_cons ev_str ad_nil)) rfl) (ad_cons ev_int ad_nil)))) rfl)), AtC.same⟩)) (by rw [List.map_map]; rfl) rfl) (by subst eway_4; rfl) rfl) AppC.nil (Put.there (Put.there (Put.there Put.here))) ?_ rfl)
  show SX _ _ _ _ _ _
  have hz6 : (way_4).length + ((proc_here_0.2.2.2.2.1.map fun (y_5 : Clm) => (Row.know y_5))).length ≤ 1000000 := by wtm_at "g.sd"
  refine sx_cons (s1_set TL rfl (ev_as (t := .cell 1) (cs2 := [(.lst ((way_4.map Row.D).map SV.val)), (.lst (((way_4 ++ (proc_here_0.2.2.2.2.1.map fun (y_5 : Clm) => (Row.know y_5))).map Row.D).map SV.val))]) (ev_catC (xs := (way_4.map Row.D).map SV.val) (ys := ((proc_here_0.2.2.2.2.1.map fun (y_5 : Clm) => (Row.know y_5)).map Row.D).map SV.val) (ev_name T rfl (Lk.there (Lk.there (Lk.there Lk.here))) rfl) (ev_LC rfl T.nd (blkOk_by (N := N__law_due) (sc := defScope s__law_due) (by decide +kernel)) (lc_as (es := (proc_here_0.2.2.2.2.1.map fun (y_5 : Clm) => (Row.know y_5)).map Row.D) (lc_K (own := [("_law_need", 10)]) proc_here_0.2.2.2.2.1 (fun x => SV.val (Clm.D x)) (by exact (iv_mapC (iv_tup (ds := proc_here_0.2.2.2.2.1.map Clm.D) (ev_ixT (ev_name T rfl Lk.here rfl) ev_int rfl)))) (fun y_5 => (Row.D (Row.know y_5))) (fun y_5 => [some (.val (.tuple [(.str proc_here_0.1), (.str proc_here_0.2.1), (.tuple (proc_here_0.2.2.1.map PyData.str)), (.tuple (proc_here_0.2.2.2.1.map PyData.str)), (.tuple (proc_here_0.2.2.2.2.1.map Clm.D)), (.tuple (proc_here_0.2.2.2.2.2.1.map Clm.D)), (.tuple (proc_here_0.2.2.2.2.2.2.map Fst.D))])), some (.val (.list (names_0.map PyData.str))), some (.val (.list (used_here_2.map PyData.str))), some (.cell 0), none, none, none, none, none, none, some (.val (Clm.D y_5))]) (fun _ => [(.lst ((way_4.map Row.D).map SV.val))]) (by wtm_at "g.sd") (by first | exact trivial | rfl) (fun y_5 hm5 st H0 C0 cl fp => gw_name T.nd rfl (Put.there (Put.there (Put.there (Put.there (Put.there (Put.there (Put.there (Put.there (Put.there (Put.there Put.here)))))))))) (by decide) ⟨rfl, rfl⟩) (fun y_5 hm5 => ⟨fun st H0 C0 cl fp => (by

      exact (ev_tup (ad_cons ev_str (ad_cons (ev_nameV T.nd rfl (Lk.there (Lk.there (Lk.there (Lk.there (Lk.there (Lk.there (Lk.there (Lk.there (Lk.there (Lk.there Lk.here))))))))))) ad_nil)) rfl)), AtC.same⟩)) (by rw [List.map_map]; rfl) rfl)) (IsL.cell rfl) IsL.val (by simpa only [List.length_map] using hz6) (AppC.cons AppC.nil)) rfl (by simp only [List.map_append])) (Put.there (Put.there (Put.there Put.here))) ?_ rfl)
  show SX _ _ _ _ _ _
  refine sx_cons (s1_set TL rfl (ev_lstC (ss := []) av_nil (AppC.cons (AppC.cons AppC.nil)) rfl) (Put.there (Put.there (Put.there (Put.there Put.here)))) ?_ rfl)
  show SX _ _ _ _ _ _
  refine' sx_cons ?lp8
  refine' s1_forK (enumL proc_here_0.2.2.2.2.2.2) (enP Fst.D) _ _ R0 ((way_4 ++ (proc_here_0.2.2.2.2.1.map fun (y_5 : Clm) => (Row.know y_5))), ([] : (List (Str × Str × (List Int) × Int × (List Row) × Clm)))) (fun l_1 (s_10 : ((List Row) × (List (Str × Str × (List Int) × Int × (List Row) × Clm)))) => (s_10.1.length + 1 * l_1.length ≤ ((way_4 ++ (proc_here_0.2.2.2.2.1.map fun (y_5 : Clm) => (Row.know y_5)))).length + 1 * (enumL proc_here_0.2.2.2.2.2.2).length) ∧ (s_10.2.length + 1 * l_1.length ≤ (([] : (List (Str × Str × (List Int) × Int × (List Row) × Clm)))).length + 1 * (enumL proc_here_0.2.2.2.2.2.2).length) ∧ (s_10.1.length + l_1.length ≤ 1500 ∧ s_10.2.length + l_1.length ≤ 500)) h PassesOwn.never rfl (iv_enumT (f := Fst.D) (l := proc_here_0.2.2.2.2.2.2) z_enumerate rfl (ev_ixT (ev_name T rfl Lk.here rfl) ev_int rfl)) ?j08 (fun s_10 : ((List Row) × (List (Str × Str × (List Int) × Int × (List Row) × Clm))) => [some (.val (.tuple [(.str proc_here_0.1), (.str proc_here_0.2.1), (.tuple (proc_here_0.2.2.1.map PyData.str)), (.tuple (proc_here_0.2.2.2.1.map PyData.str)), (.tuple (proc_here_0.2.2.2.2.1.map Clm.D)), (.tuple (proc_here_0.2.2.2.2.2.1.map Clm.D)), (.tuple (proc_here_0.2.2.2.2.2.2.map Fst.D))])), some (.val (.list (names_0.map PyData.str))), some (.val (.list (used_here_2.map PyData.str))), some (.cell 1), some (.cell 2), none, none, none, none, none, none]) (fun s_10 : ((List Row) × (List (Str × Str × (List Int) × Int × (List Row) × Clm))) => [(.lst ((way_4.map Row.D).map SV.val)), (.lst ((s_10.1.map Row.D).map SV.val)), (.lst ((s_10.2.map e_tup_str_str_tupl_int_int_lst_Row_Clm).map SV.val))]) (Le.same (Le.same (Le.same (Le.same (Le.same (Le.lose (Le.lose (Le.lose (Le.lose (Le.lose (Le.lose Le.nil))))))))))) rfl (fun _ => trivial) ?tu8 ?dn8
  case j08 => wtm_at "g.inv"
  case tu8 =>
    clear h
    rintro ⟨x_9i, x_9v⟩ l_1 ⟨c_7, c_8⟩ n_1 hm7 hJ1 h
    have hm7p := hm7
    have hm7 := mem_mid hm7
    have hm7r := enumL_lt hm7
    try dsimp only at h hJ1
    obtain ⟨hJ1_0, hJ1_1, hJ1_2⟩ := hJ1
    refine gx_tup rfl (gxs_cons (gx_name TL rfl (Put.there (Put.there (Put.there (Put.there (Put.there Put.here))))) (gxs_cons (gx_name TL rfl (Put.there (Put.there (Put.there (Put.there (Put.there (Put.there Put.here)))))) (gxs_nil ?_) rfl)) rfl)) rfl
    show SX _ _ _ [some (.val (.tuple [(.str proc_here_0.1), (.str proc_here_0.2.1), (.tuple (proc_here_0.2.2.1.map PyData.str)), (.tuple (proc_here_0.2.2.2.1.map PyData.str)), (.tuple (proc_here_0.2.2.2.2.1.map Clm.D)), (.tuple (proc_here_0.2.2.2.2.2.1.map Clm.D)), (.tuple (proc_here_0.2.2.2.2.2.2.map Fst.D))])), some (.val (.list (names_0.map PyData.str))), some (.val (.list (used_here_2.map PyData.str))), some (.cell 1), some (.cell 2), some (.val (.int (x_9i : Int))), some (.val (Fst.D x_9v)), none, none, none, none] [(.lst ((way_4.map Row.D).map SV.val)), (.lst ((c_7.map Row.D).map SV.val)), (.lst ((c_8.map e_tup_str_str_tupl_int_int_lst_Row_Clm).map SV.val))] _
    cases x_9v with
    | set zx_9 zt_10 zc_11 =>
      try dsimp only at h
      show SX _ _ _ [some (.val (.tuple [(.str proc_here_0.1), (.str proc_here_0.2.1), (.tuple (proc_here_0.2.2.1.map PyData.str)), (.tuple (proc_here_0.2.2.2.1.map PyData.str)), (.tuple (proc_here_0.2.2.2.2.1.map Clm.D)), (.tuple (proc_here_0.2.2.2.2.2.1.map Clm.D)), (.tuple (proc_here_0.2.2.2.2.2.2.map Fst.D))])), some (.val (.list (names_0.map PyData.str))), some (.val (.list (used_here_2.map PyData.str))), some (.cell 1), some (.cell 2), some (.val (.int (x_9i : Int))), some (.val (.tuple [(.str ("set" : Str)), (.str zx_9), (Trm.D zt_10), (.int zc_11)])), none, none, none, none] [(.lst ((way_4.map Row.D).map SV.val)), (.lst ((c_7.map Row.D).map SV.val)), (.lst ((c_8.map e_tup_str_str_tupl_int_int_lst_Row_Clm).map SV.val))] _
      refine sx_cons (s1_if (tv_eqS (ev_ixT (ev_name T rfl (Lk.there (Lk.there (Lk.there (Lk.there (Lk.there (Lk.there Lk.here)))))) rfl) ev_int rfl) ev_str) (fun z => absurd z (by decide)) (fun _ => ?_))
      refine sx_cons (s1_expr (ev_appT (f := Row.D) (l := c_7) (y := (Row.set zx_9 zt_10 zc_11)) (ev_name T rfl (Lk.there (Lk.there (Lk.there Lk.here))) rfl) (ev_name T rfl (Lk.there (Lk.there (Lk.there (Lk.there (Lk.there (Lk.there Lk.here)))))) rfl) rfl rfl (PutC.there PutC.here) (by wtm_at "g.sd")) ?_)
      show SX _ _ _ _ _ _
      refine sx_nil ?_
      show SX _ _ _ _ _ _
      refine sx_nil ?_
      exact ⟨((c_7 ++ [(Row.set zx_9 zt_10 zc_11)]), c_8), h, (by wtm_at "g.inv"), (At.same (Le.same (Le.same (Le.same (Le.same (Le.same (Le.lose (Le.lose (Le.lose (Le.lose (Le.lose (Le.lose Le.nil))))))))))))⟩
    | put zr_13 zp_14 zt_15 zc_16 =>
      try dsimp only at h
      show SX _ _ _ [some (.val (.tuple [(.str proc_here_0.1), (.str proc_here_0.2.1), (.tuple (proc_here_0.2.2.1.map PyData.str)), (.tuple (proc_here_0.2.2.2.1.map PyData.str)), (.tuple (proc_here_0.2.2.2.2.1.map Clm.D)), (.tuple (proc_here_0.2.2.2.2.2.1.map Clm.D)), (.tuple (proc_here_0.2.2.2.2.2.2.map Fst.D))])), some (.val (.list (names_0.map PyData.str))), some (.val (.list (used_here_2.map PyData.str))), some (.cell 1), some (.cell 2), some (.val (.int (x_9i : Int))), some (.val (.tuple [(.str ("put" : Str)), (.str zr_13), (.tuple [(.str zp_14.1), (.int zp_14.2)]), (Trm.D zt_15), (.int zc_16)])), none, none, none, none] [(.lst ((way_4.map Row.D).map SV.val)), (.lst ((c_7.map Row.D).map SV.val)), (.lst ((c_8.map e_tup_str_str_tupl_int_int_lst_Row_Clm).map SV.val))] _
      refine sx_cons (s1_if (tv_eqS (ev_ixT (ev_name T rfl (Lk.there (Lk.there (Lk.there (Lk.there (Lk.there (Lk.there Lk.here)))))) rfl) ev_int rfl) ev_str) (fun z => absurd z (by decide)) (fun _ => ?_))
      refine sx_cons (s1_expr (ev_appT (f := Row.D) (l := c_7) (y := (Row.put zr_13 zp_14 zt_15 zc_16)) (ev_name T rfl (Lk.there (Lk.there (Lk.there Lk.here))) rfl) (ev_name T rfl (Lk.there (Lk.there (Lk.there (Lk.there (Lk.there (Lk.there Lk.here)))))) rfl) rfl rfl (PutC.there PutC.here) (by wtm_at "g.sd")) ?_)
      show SX _ _ _ _ _ _
      refine sx_nil ?_
      show SX _ _ _ _ _ _
      refine sx_nil ?_
      exact ⟨((c_7 ++ [(Row.put zr_13 zp_14 zt_15 zc_16)]), c_8), h, (by wtm_at "g.inv"), (At.same (Le.same (Le.same (Le.same (Le.same (Le.same (Le.lose (Le.lose (Le.lose (Le.lose (Le.lose (Le.lose Le.nil))))))))))))⟩
    | any zx_18 =>
      try dsimp only at h
      show SX _ _ _ [some (.val (.tuple [(.str proc_here_0.1), (.str proc_here_0.2.1), (.tuple (proc_here_0.2.2.1.map PyData.str)), (.tuple (proc_here_0.2.2.2.1.map PyData.str)), (.tuple (proc_here_0.2.2.2.2.1.map Clm.D)), (.tuple (proc_here_0.2.2.2.2.2.1.map Clm.D)), (.tuple (proc_here_0.2.2.2.2.2.2.map Fst.D))])), some (.val (.list (names_0.map PyData.str))), some (.val (.list (used_here_2.map PyData.str))), some (.cell 1), some (.cell 2), some (.val (.int (x_9i : Int))), some (.val (.tuple [(.str ("any" : Str)), (.str zx_18)])), none, none, none, none] [(.lst ((way_4.map Row.D).map SV.val)), (.lst ((c_7.map Row.D).map SV.val)), (.lst ((c_8.map e_tup_str_str_tupl_int_int_lst_Row_Clm).map SV.val))] _
      refine sx_cons (s1_if (tv_eqS (ev_ixT (ev_name T rfl (Lk.there (Lk.there (Lk.there (Lk.there (Lk.there (Lk.there Lk.here)))))) rfl) ev_int rfl) ev_str) (fun z => absurd z (by decide)) (fun _ => ?_))
      refine sx_cons (s1_expr (ev_appT (f := Row.D) (l := c_7) (y := (Row.any zx_18)) (ev_name T rfl (Lk.there (Lk.there (Lk.there Lk.here))) rfl) (ev_name T rfl (Lk.there (Lk.there (Lk.there (Lk.there (Lk.there (Lk.there Lk.here)))))) rfl) rfl rfl (PutC.there PutC.here) (by wtm_at "g.sd")) ?_)
      show SX _ _ _ _ _ _
      refine sx_nil ?_
      show SX _ _ _ _ _ _
      refine sx_nil ?_
      exact ⟨((c_7 ++ [(Row.any zx_18)]), c_8), h, (by wtm_at "g.inv"), (At.same (Le.same (Le.same (Le.same (Le.same (Le.same (Le.lose (Le.lose (Le.lose (Le.lose (Le.lose (Le.lose Le.nil))))))))))))⟩
    | claim zc_20 =>
      try dsimp only at h
      show SX _ _ _ [some (.val (.tuple [(.str proc_here_0.1), (.str proc_here_0.2.1), (.tuple (proc_here_0.2.2.1.map PyData.str)), (.tuple (proc_here_0.2.2.2.1.map PyData.str)), (.tuple (proc_here_0.2.2.2.2.1.map Clm.D)), (.tuple (proc_here_0.2.2.2.2.2.1.map Clm.D)), (.tuple (proc_here_0.2.2.2.2.2.2.map Fst.D))])), some (.val (.list (names_0.map PyData.str))), some (.val (.list (used_here_2.map PyData.str))), some (.cell 1), some (.cell 2), some (.val (.int (x_9i : Int))), some (.val (.tuple [(.str ("claim" : Str)), (Clm.D zc_20)])), none, none, none, none] [(.lst ((way_4.map Row.D).map SV.val)), (.lst ((c_7.map Row.D).map SV.val)), (.lst ((c_8.map e_tup_str_str_tupl_int_int_lst_Row_Clm).map SV.val))] _
      refine sx_cons (s1_if (tv_eqS (ev_ixT (ev_name T rfl (Lk.there (Lk.there (Lk.there (Lk.there (Lk.there (Lk.there Lk.here)))))) rfl) ev_int rfl) ev_str) (fun _ => ?_) (fun z => absurd z (by decide)))
      refine sx_cons (s1_expr (ev_appT (f := e_tup_str_str_tupl_int_int_lst_Row_Clm) (l := c_8) (y := (proc_here_0.2.1, ("claim" : Str), ([(x_9i : Int)] : (List Int)), 0, c_7, zc_20)) (ev_name T rfl (Lk.there (Lk.there (Lk.there (Lk.there Lk.here)))) rfl) (ev_tup (ad_cons (ev_ixT (ev_name T rfl Lk.here rfl) ev_int rfl) (ad_cons ev_str (ad_cons (ev_tup (ad_cons (ev_name T rfl (Lk.there (Lk.there (Lk.there (Lk.there (Lk.there Lk.here))))) rfl) ad_nil) rfl) (ad_cons ev_int (ad_cons (ev_listV (ds := c_7.map Row.D) z_list rfl (ev_name T rfl (Lk.there (Lk.there (Lk.there Lk.here))) rfl) (IsQ.l (IsL.cell rfl))) (ad_cons (ev_ixT (ev_name T rfl (Lk.there (Lk.there (Lk.there (Lk.there (Lk.there (Lk.there Lk.here)))))) rfl) ev_int rfl) ad_nil)))))) rfl) rfl rfl (PutC.there (PutC.there PutC.here)) (by wtm_at "g.sd")) ?_)
      show SX _ _ _ _ _ _
      refine sx_nil ?_
      show SX _ _ _ _ _ _
      refine sx_nil ?_
      exact ⟨(c_7, (c_8 ++ [(proc_here_0.2.1, ("claim" : Str), ([(x_9i : Int)] : (List Int)), 0, c_7, zc_20)])), h, (by wtm_at "g.inv"), (At.same (Le.same (Le.same (Le.same (Le.same (Le.same (Le.lose (Le.lose (Le.lose (Le.lose (Le.lose (Le.lose Le.nil))))))))))))⟩
  case dn8 =>
    clear h
    rintro ⟨c_7, c_8⟩ hJ1 h slx hlx
    try dsimp only at h hJ1
    refine sx_weak hlx ?_
    obtain ⟨hJ1_0, hJ1_1, hJ1_2⟩ := hJ1
    show SX _ _ _ [some (.val (.tuple [(.str proc_here_0.1), (.str proc_here_0.2.1), (.tuple (proc_here_0.2.2.1.map PyData.str)), (.tuple (proc_here_0.2.2.2.1.map PyData.str)), (.tuple (proc_here_0.2.2.2.2.1.map Clm.D)), (.tuple (proc_here_0.2.2.2.2.2.1.map Clm.D)), (.tuple (proc_here_0.2.2.2.2.2.2.map Fst.D))])), some (.val (.list (names_0.map PyData.str))), some (.val (.list (used_here_2.map PyData.str))), some (.cell 1), some (.cell 2), none, none, none, none, none, none] [(.lst ((way_4.map Row.D).map SV.val)), (.lst ((c_7.map Row.D).map SV.val)), (.lst ((c_8.map e_tup_str_str_tupl_int_int_lst_Row_Clm).map SV.val))] _
    refine' sx_cons ?lp23
    refine' s1_forK (enumL proc_here_0.2.2.2.2.2.1) (enP Clm.D) _ _ R0 (c_8) (fun l_2 (s_15 : ((List (Str × Str × (List Int) × Int × (List Row) × Clm)))) => (s_15.length + 1 * l_2.length ≤ (c_8).length + 1 * (enumL proc_here_0.2.2.2.2.2.1).length)) h PassesOwn.never rfl (iv_enumT (f := Clm.D) (l := proc_here_0.2.2.2.2.2.1) z_enumerate rfl (ev_ixT (ev_name T rfl Lk.here rfl) ev_int rfl)) ?j023 (fun s_15 : ((List (Str × Str × (List Int) × Int × (List Row) × Clm))) => [some (.val (.tuple [(.str proc_here_0.1), (.str proc_here_0.2.1), (.tuple (proc_here_0.2.2.1.map PyData.str)), (.tuple (proc_here_0.2.2.2.1.map PyData.str)), (.tuple (proc_here_0.2.2.2.2.1.map Clm.D)), (.tuple (proc_here_0.2.2.2.2.2.1.map Clm.D)), (.tuple (proc_here_0.2.2.2.2.2.2.map Fst.D))])), some (.val (.list (names_0.map PyData.str))), some (.val (.list (used_here_2.map PyData.str))), some (.cell 1), some (.cell 2), none, none, none, none, none, none]) (fun s_15 : ((List (Str × Str × (List Int) × Int × (List Row) × Clm))) => [(.lst ((way_4.map Row.D).map SV.val)), (.lst ((c_7.map Row.D).map SV.val)), (.lst ((s_15.map e_tup_str_str_tupl_int_int_lst_Row_Clm).map SV.val))]) (Le.same (Le.same (Le.same (Le.same (Le.same (Le.lose (Le.lose (Le.lose (Le.lose (Le.lose (Le.lose Le.nil))))))))))) rfl (fun _ => trivial) ?tu23 ?dn23
    case j023 => wtm_at "g.inv"
    case tu23 =>
      clear h
      rintro ⟨x_14i, x_14v⟩ l_2 c_13 n_2 hm22 hJ2 h
      have hm22p := hm22
      have hm22 := mem_mid hm22
      have hm22r := enumL_lt hm22
      try dsimp only at h hJ2
      refine gx_tup rfl (gxs_cons (gx_name TL rfl (Put.there (Put.there (Put.there (Put.there (Put.there (Put.there (Put.there Put.here))))))) (gxs_cons (gx_name TL rfl (Put.there (Put.there (Put.there (Put.there (Put.there (Put.there (Put.there (Put.there Put.here)))))))) (gxs_nil ?_) rfl)) rfl)) rfl
      show SX _ _ _ [some (.val (.tuple [(.str proc_here_0.1), (.str proc_here_0.2.1), (.tuple (proc_here_0.2.2.1.map PyData.str)), (.tuple (proc_here_0.2.2.2.1.map PyData.str)), (.tuple (proc_here_0.2.2.2.2.1.map Clm.D)), (.tuple (proc_here_0.2.2.2.2.2.1.map Clm.D)), (.tuple (proc_here_0.2.2.2.2.2.2.map Fst.D))])), some (.val (.list (names_0.map PyData.str))), some (.val (.list (used_here_2.map PyData.str))), some (.cell 1), some (.cell 2), none, none, some (.val (.int (x_14i : Int))), some (.val (Clm.D x_14v)), none, none] [(.lst ((way_4.map Row.D).map SV.val)), (.lst ((c_7.map Row.D).map SV.val)), (.lst ((c_13.map e_tup_str_str_tupl_int_int_lst_Row_Clm).map SV.val))] _
      refine sx_cons (s1_expr (ev_appT (f := e_tup_str_str_tupl_int_int_lst_Row_Clm) (l := c_13) (y := (proc_here_0.2.1, ("give" : Str), ([] : (List Int)), (x_14i : Int), c_7, x_14v)) (ev_name T rfl (Lk.there (Lk.there (Lk.there (Lk.there Lk.here)))) rfl) (ev_tup (ad_cons (ev_ixT (ev_name T rfl Lk.here rfl) ev_int rfl) (ad_cons ev_str (ad_cons (ev_tup ad_nil rfl) (ad_cons (ev_name T rfl (Lk.there (Lk.there (Lk.there (Lk.there (Lk.there (Lk.there (Lk.there Lk.here))))))) rfl) (ad_cons (ev_listV (ds := c_7.map Row.D) z_list rfl (ev_name T rfl (Lk.there (Lk.there (Lk.there Lk.here))) rfl) (IsQ.l (IsL.cell rfl))) (ad_cons (ev_name T rfl (Lk.there (Lk.there (Lk.there (Lk.there (Lk.there (Lk.there (Lk.there (Lk.there Lk.here)))))))) rfl) ad_nil)))))) rfl) rfl rfl (PutC.there (PutC.there PutC.here)) (by wtm_at "g.sd")) ?_)
      show SX _ _ _ _ _ _
      refine sx_nil ?_
      exact ⟨((c_13 ++ [(proc_here_0.2.1, ("give" : Str), ([] : (List Int)), (x_14i : Int), c_7, x_14v)])), h, (by wtm_at "g.inv"), (At.same (Le.same (Le.same (Le.same (Le.same (Le.same (Le.lose (Le.lose (Le.lose (Le.lose (Le.lose (Le.lose Le.nil))))))))))))⟩
    case dn23 =>
      clear h
      rintro c_13 hJ2 h slx hlx
      try dsimp only at h hJ2
      refine sx_weak hlx ?_
      show SX _ _ _ [some (.val (.tuple [(.str proc_here_0.1), (.str proc_here_0.2.1), (.tuple (proc_here_0.2.2.1.map PyData.str)), (.tuple (proc_here_0.2.2.2.1.map PyData.str)), (.tuple (proc_here_0.2.2.2.2.1.map Clm.D)), (.tuple (proc_here_0.2.2.2.2.2.1.map Clm.D)), (.tuple (proc_here_0.2.2.2.2.2.2.map Fst.D))])), some (.val (.list (names_0.map PyData.str))), some (.val (.list (used_here_2.map PyData.str))), some (.cell 1), some (.cell 2), none, none, none, none, none, none] [(.lst ((way_4.map Row.D).map SV.val)), (.lst ((c_7.map Row.D).map SV.val)), (.lst ((c_13.map e_tup_str_str_tupl_int_int_lst_Row_Clm).map SV.val))] _
      refine sx_cons (s1_ret (ev_name T rfl (Lk.there (Lk.there (Lk.there (Lk.there Lk.here)))) rfl) ?_)
      show RetOk _ _ _ _ _
      subst h
      exact ret_frz (c := []) (Nat.le_of_ble_eq_true rfl) rfl (by wtm_at "g.data") rfl rfl rfl (by wtm_at "d.lt")
end
theorem fold_snoc {α β : Type} (f : α → β) : ∀ (l : List α) (a : List β), l.foldl (fun (s : List β) x => s ++ [f x]) a = a ++ l.map f
  | [], a => (List.append_nil a).symm
  | x :: l, a => by
    rw [List.foldl_cons, fold_snoc f l, List.map_cons, List.append_assoc]
    rfl
def gW (P : List PrcT) (f : Str) (s : List (List Row) × List DutyT) (q : Nat × Fst) : List (List Row) × List DutyT := match q.2 with
  | .set x t c => (m_walk_set_s P f x t c [(q.1 : Int)] s.1 s.2, s.2)
  | .put r p t c => (m_walk_put_s P f r p t c [(q.1 : Int)] s.1 s.2, s.2)
  | .any x => (m_walk_any_s P f x [(q.1 : Int)] s.1 s.2, s.2)
  | .claim c => m_walk_claim_s P f c [(q.1 : Int)] s.1 s.2
def gD (f : Str) (s : List Row × List DutyT) (q : Nat × Fst) : List Row × List DutyT := match q.2 with
  | .set x t c => (s.1 ++ [Row.set x t c], s.2)
  | .put r p t c => (s.1 ++ [Row.put r p t c], s.2)
  | .any x => (s.1 ++ [Row.any x], s.2)
  | .claim c => (s.1, s.2 ++ [(f, ("claim" : Str), [(q.1 : Int)], 0, s.1, c)])
theorem walk_is (P : List PrcT) (f : Str) (body : List Fst) (ways : List (List Row)) (met : List DutyT) : m_walk P f body [] ways met = (enumL body).foldl (gW P f) (ways, met) :=
  forL_of (g := gW P f) (fun x s n => by
    obtain ⟨i, z⟩ := x
    cases z <;> rfl) _ _ _
theorem step_eq {P : List PrcT} {f : Str} {w : List Row} {met : List DutyT} {q : Nat × Fst} : gW P f ([w], met) q = ([(gD f (w, met) q).1], (gD f (w, met) q).2) := by
  obtain ⟨i, z⟩ := q
  cases z with
  | set x t c => rfl
  | put r p t c => rfl
  | any x => rfl
  | claim c => rfl
theorem walk_due {P : List PrcT} {f : Str} : ∀ (l : List (Nat × Fst)) (w : List Row) (met : List DutyT), l.foldl (gW P f) ([w], met) = ([(l.foldl (gD f) (w, met)).1], (l.foldl (gD f) (w, met)).2)
  | [], _, _ => rfl
  | q :: l, w, met => by
    rw [List.foldl_cons, List.foldl_cons, step_eq]
    exact walk_due l _ _
def way0 (p : PrcT) (pool : List Str) : List Row := ((sortT (usedF (bodyT p) pool ++ [("out" : Str)])).filter fun (y : Str) => (!memB y p.2.2.1)).map (fun (y : Str) => Row.set y (.is "") 0) ++ p.2.2.2.2.1.map Row.know
def dueG (p : PrcT) (w0 : List Row) : List DutyT := ((enumL p.2.2.2.2.2.2).foldl (gD p.2.1) (w0, [])).2 ++ (enumL p.2.2.2.2.2.1).map (dutyF (p.2.1, ("give" : Str), []) ((enumL p.2.2.2.2.2.2).foldl (gD p.2.1) (w0, [])).1)
theorem due_is (p : PrcT) (pool : List Str) : m_law_due p pool = dueG p (way0 p pool) := by
  unfold m_law_due
  refine (forL_of (g := gD p.2.1) (fun x s n => by
    obtain ⟨i, z⟩ := x
    cases z <;> rfl) _ _ _).trans ?_
  refine (forL_of (g := fun (s : List DutyT) (q : Nat × Clm) => s ++ [dutyF (p.2.1, ("give" : Str), []) ((enumL p.2.2.2.2.2.2).foldl (gD p.2.1) (way0 p pool, [])).1 q]) (fun x s n => by
    obtain ⟨i, z⟩ := x
    rfl) _ _ _).trans ?_
  rw [fold_snoc]
  rfl
theorem duties_of_eq {P : List PrcT} {p : PrcT} {pool : List Str} (hw : m_first_way p = way0 p pool) : m_duties_of P p = m_law_due p pool := by
  rw [due_is]
  show m_note_t (m_walk P p.2.1 p.2.2.2.2.2.2 [] [m_first_way p] []).2 (p.2.1, "give", []) p.2.2.2.2.2.1 (m_walk P p.2.1 p.2.2.2.2.2.2 [] [m_first_way p] []).1 = _
  rw [walk_is, hw, walk_due, note_t_is]
  rfl
/-! ### whose names stand in what -/
def TmOk (N R : Str → Prop) : Trm → Prop
  | .is x => N x
  | .rd r p => R r ∧ N p.1
def AgOk (N R : Str → Prop) : Ag → Prop
  | .row s => R s
  | .is x => N x
def ClOk (N R : Str → Prop) : Clm → Prop
  | .least a b _ => TmOk N R a ∧ TmOk N R b
  | .each t u r w b _ => N t.1 ∧ N u.1 ∧ R r ∧ (w = ">=" ∨ w = "<=") ∧ AgOk N R b
  | .rise t u r => N t.1 ∧ N u.1 ∧ R r
def FsOk (M N R : Str → Prop) : Fst → Prop
  | .set x t _ => M x ∧ TmOk N R t
  | .put r p t _ => R r ∧ N p.1 ∧ TmOk N R t
  | .any x => M x
  | .claim c => ClOk N R c
section
variable {M N R M' N' R' : Str → Prop}
theorem TmOk.mono (hn : ∀ x, N x → N' x) (hr : ∀ x, R x → R' x) {t : Trm} (h : TmOk N R t) : TmOk N' R' t := by
  cases t with
  | is x => exact hn _ h
  | rd r p => exact ⟨hr _ h.1, hn _ h.2⟩
theorem AgOk.mono (hn : ∀ x, N x → N' x) (hr : ∀ x, R x → R' x) {t : Ag} (h : AgOk N R t) : AgOk N' R' t := by
  cases t with
  | row x => exact hr _ h
  | is x => exact hn _ h
theorem ClOk.mono (hn : ∀ x, N x → N' x) (hr : ∀ x, R x → R' x) {c : Clm} (h : ClOk N R c) : ClOk N' R' c := by
  cases c with
  | least a b c => exact ⟨h.1.mono hn hr, h.2.mono hn hr⟩
  | each t u r w b c => exact ⟨hn _ h.1, hn _ h.2.1, hr _ h.2.2.1, h.2.2.2.1, h.2.2.2.2.mono hn hr⟩
  | rise t u r => exact ⟨hn _ h.1, hn _ h.2.1, hr _ h.2.2⟩
theorem FsOk.mono (hm : ∀ x, M x → M' x) (hn : ∀ x, N x → N' x) (hr : ∀ x, R x → R' x) {z : Fst} (h : FsOk M N R z) : FsOk M' N' R' z := by
  cases z with
  | set x t c => exact ⟨hm _ h.1, h.2.mono hn hr⟩
  | put r p t c => exact ⟨hr _ h.1, hn _ h.2.1, h.2.2.mono hn hr⟩
  | any x => exact hm _ h
  | claim c => exact ClOk.mono hn hr h
end
/-! ### what is drawn -/
theorem ix_nums {nums : List Str} {N : Str → Prop} (hN : ∀ x ∈ nums, N x) (h0 : N "") {i : Int} (a : 0 ≤ i) (b : i < (nums.length : Int) + 1) : N (ixD (nums ++ [("" : Str)]) i) := by
  have := ixD_mem (xs := nums ++ [("" : Str)]) a (by rw [List.length_append, List.length_singleton]; omega)
  rcases List.mem_append.mp this with h | h
  · exact hN _ h
  · rw [List.mem_singleton.mp h]
    exact h0
theorem emod_lt' (c : Int) (n : Nat) : 0 ≤ c % ((n : Int) + 1) ∧ c % ((n : Int) + 1) < (n : Int) + 1 := ⟨Int.emod_nonneg _ (by omega), Int.emod_lt_of_pos _ (by omega)⟩
theorem ix_rows {rows : List Str} {R : Str → Prop} (hR : ∀ r ∈ rows, R r) (hl : rows.length ≠ 0) (c : Int) : R (ixD rows (c % (rows.length : Int))) := hR _ (ixD_mem (Int.emod_nonneg _ (by omega)) (Int.emod_lt_of_pos _ (by omega)))
section
variable {nums rows : List Str} {N R : Str → Prop} (hN : ∀ x ∈ nums, N x) (h0 : N "") (hR : ∀ r ∈ rows, R r)
include hN h0
theorem place_ok (c : Int) : N (m_law_place c nums).1 := ix_nums hN h0 (emod_lt' _ _).1 (emod_lt' _ _).2
include hR
theorem term_ok (c : Int) : TmOk N R (m_law_term c nums rows) := by
  unfold m_law_term
  split
  · rename_i h
    rw [Bool.and_eq_true, decide_eq_true_eq, decide_eq_true_eq] at h
    exact ⟨ix_rows hR (by omega) _, place_ok hN h0 _⟩
  · exact ix_nums hN h0 (emod_lt' _ _).1 (emod_lt' _ _).2
theorem claim_okN (c : Int) : ClOk N R (m_law_claim c nums rows) := by
  unfold m_law_claim
  dsimp only [letF]
  split
  · exact ⟨term_ok hN h0 hR _, term_ok hN h0 hR _⟩
  · rename_i h
    rw [Bool.or_eq_true, decide_eq_true_eq, decide_eq_true_eq] at h
    have hl : rows.length ≠ 0 := by omega
    split
    · exact ⟨place_ok hN h0 _, place_ok hN h0 _, ix_rows hR hl _⟩
    · refine ⟨place_ok hN h0 _, place_ok hN h0 _, ix_rows hR hl _, ?_, ?_⟩
      · have := ixD_mem (xs := [(">=" : Str), ("<=" : Str)]) (i := c / 4 / 7 % 2) (by omega) (by show _ < ((2 : Nat) : Int); omega)
        simpa using this
      · have := ixD_mem (xs := [(Ag.is (ixD (nums ++ ([("" : Str)] : (List Str))) ((c / 4 / 11) % ((nums.length : Int) + 1)))), (Ag.row (ixD rows ((c / 4 / 13) % (rows.length : Int))))]) (i := c / 4 / 3 % 2) (by omega) (by show _ < ((2 : Nat) : Int); omega)
        rcases List.mem_cons.mp this with e | e
        · rw [e]
          exact ix_nums hN h0 (emod_lt' _ _).1 (emod_lt' _ _).2
        · rw [List.mem_singleton.mp e]
          exact ix_rows hR hl _
end
structure PoolOk (pool : List Str) (R : Str → Prop) : Prop where
  tags : ∀ t ∈ tagS, t ≠ "out" → t ∉ pool
  rows : ∀ r, R r → r ∉ pool
  okP : ∀ x ∈ pool, PyData.strOk x = true
  okR : ∀ r, R r → PyData.strOk r = true
section
variable {pool : List Str} {R : Str → Prop} (h : PoolOk pool R)
abbrev inP (pool : List Str) (x : Str) : Prop := x ∈ pool
abbrev inE (pool : List Str) (x : Str) : Prop := x = "" ∨ x ∈ pool
theorem one_tup (d : Nat) (ts : List PyData) : oneD (d + 1) pool (.tuple ts) = (ts.map (oneD d pool)).flatten := usedD_is d ts pool
theorem one_in {d : Nat} {x : Str} (hx : x ∈ pool) : oneD d pool (.str x) = [x] := by
  show (if memB x pool then [x] else []) = [x]
  rw [if_pos (memB_true.mpr hx)]
theorem one_out {d : Nat} {x : Str} (hx : x ∉ pool) : oneD d pool (.str x) = [] := by
  show (if memB x pool then [x] else []) = []
  rw [if_neg fun z => hx (memB_true.mp z)]
theorem one_int {d : Nat} {i : Int} : oneD d pool (.int i) = [] := rfl
include h
theorem one_tag {d : Nat} {t : Str} (ht : t ∈ tagS) (ho : t ≠ "out") : oneD d pool (.str t) = [] := one_out (h.tags t ht ho)
theorem one_row {d : Nat} {r : Str} (hr : R r) : oneD d pool (.str r) = [] := one_out (h.rows r hr)
theorem one_num {d : Nat} {x : Str} (hx : inE pool x) : oneD d pool (.str x) = m_place_names (x, 0) := by
  unfold m_place_names
  rcases hx with hx | hx
  · rw [hx, one_tag h (by decide +kernel) (by decide +kernel)]
    rfl
  · have hne : ¬ x = "" := fun e => h.tags "" (by decide +kernel) (by decide +kernel) (e ▸ hx)
    rw [one_in hx, if_neg (by simpa using hne)]
theorem one_place {d : Nat} {p : Str × Int} (hp : inE pool p.1) : oneD (d + 1) pool (.tuple [.str p.1, .int p.2]) = m_place_names p := by
  rw [one_tup]
  simp only [List.map_cons, List.map_nil, List.flatten_cons, List.flatten_nil, one_num h hp, one_int, List.append_nil]
  rfl
theorem one_term {d : Nat} {t : Trm} (ht : TmOk (inE pool) R t) : oneD (d + 2) pool t.D = (m_term_names_t t).1 := by
  cases t with
  | is x =>
    show oneD (d + 2) pool (.tuple [.str "is", .str x]) = m_place_names (x, 0)
    rw [one_tup]
    simp only [List.map_cons, List.map_nil, List.flatten_cons, List.flatten_nil, one_num h ht, one_tag h (t := "is") (by decide +kernel) (by decide +kernel), List.append_nil, List.nil_append]
  | rd r p =>
    show oneD (d + 2) pool (.tuple [.str "at", .str r, .tuple [.str p.1, .int p.2]]) = m_place_names p
    rw [one_tup]
    simp only [List.map_cons, List.map_nil, List.flatten_cons, List.flatten_nil, one_place h ht.2, one_row h ht.1, one_tag h (t := "at") (by decide +kernel) (by decide +kernel), List.append_nil, List.nil_append]
theorem one_ag {d : Nat} {t : Ag} (ht : AgOk (inE pool) R t) : oneD (d + 2) pool t.D = (m_term_names_b t).1 := by
  cases t with
  | is x =>
    show oneD (d + 2) pool (.tuple [.str "is", .str x]) = m_place_names (x, 0)
    rw [one_tup]
    simp only [List.map_cons, List.map_nil, List.flatten_cons, List.flatten_nil, one_num h ht, one_tag h (t := "is") (by decide +kernel) (by decide +kernel), List.append_nil, List.nil_append]
  | row r =>
    show oneD (d + 2) pool (.tuple [.str "row", .str r]) = []
    rw [one_tup]
    simp only [List.map_cons, List.map_nil, List.flatten_cons, List.flatten_nil, one_row h ht, one_tag h (t := "row") (by decide +kernel) (by decide +kernel), List.append_nil, List.nil_append]
theorem one_claim {d : Nat} {c : Clm} (hc : ClOk (inE pool) R c) : oneD (d + 3) pool c.D = (m_claim_names c).1 := by
  cases c with
  | least a b k =>
    show oneD (d + 3) pool (.tuple [.str "least", a.D, b.D, .int k]) = (m_term_names_t a).1 ++ (m_term_names_t b).1
    rw [one_tup]
    simp only [List.map_cons, List.map_nil, List.flatten_cons, List.flatten_nil, one_term h hc.1, one_term h hc.2, one_int, one_tag h (t := "least") (by decide +kernel) (by decide +kernel), List.append_nil, List.nil_append]
  | each t u r w b k =>
    obtain ⟨h1, h2, h3, h4, h5⟩ := hc
    have hw : oneD (d + 2) pool (.str w) = [] := by
      rcases h4 with e | e
      · rw [e]
        exact one_tag h (by decide +kernel) (by decide +kernel)
      · rw [e]
        exact one_tag h (by decide +kernel) (by decide +kernel)
    show oneD (d + 3) pool (.tuple [.str "each", .tuple [.str t.1, .int t.2], .tuple [.str u.1, .int u.2], .str r, .str w, b.D, .int k]) = (m_place_names t ++ m_place_names u) ++ (m_term_names_b b).1
    rw [one_tup]
    simp only [List.map_cons, List.map_nil, List.flatten_cons, List.flatten_nil, one_place h h1, one_place h h2, one_row h h3, hw, one_ag h h5, one_int, one_tag h (t := "each") (by decide +kernel) (by decide +kernel), List.append_nil, List.nil_append, List.append_assoc]
  | rise t u r =>
    show oneD (d + 3) pool (.tuple [.str "rise", .tuple [.str t.1, .int t.2], .tuple [.str u.1, .int u.2], .str r]) = (m_place_names t ++ m_place_names u)
    rw [one_tup]
    simp only [List.map_cons, List.map_nil, List.flatten_cons, List.flatten_nil, one_place h hc.1, one_place h hc.2.1, one_row h hc.2.2, one_tag h (t := "rise") (by decide +kernel) (by decide +kernel), List.append_nil, List.nil_append]
theorem one_ins {d : Nat} : ∀ a : List Str, (∀ x ∈ a, x ∈ pool) → ((a.map PyData.str).map (oneD d pool)).flatten = a
  | [], _ => rfl
  | x :: a, ha => by
    rw [List.map_cons, List.map_cons, List.flatten_cons, one_in (ha x List.mem_cons_self), one_ins a fun y hy => ha y (List.mem_cons_of_mem _ hy)]
    rfl
theorem one_outs {d : Nat} : ∀ a : List Str, (∀ x ∈ a, R x) → ((a.map PyData.str).map (oneD d pool)).flatten = []
  | [], _ => rfl
  | x :: a, ha => by
    rw [List.map_cons, List.map_cons, List.flatten_cons, one_row h (ha x List.mem_cons_self), one_outs a fun y hy => ha y (List.mem_cons_of_mem _ hy)]
    rfl
theorem one_stm {d : Nat} {z : Fst} (hz : FsOk (inP pool) (inE pool) R z) : oneD (d + 4) pool z.D = (m_simple_names z).1 := by
  cases z with
  | set x t k =>
    show oneD (d + 4) pool (.tuple [.str "set", .str x, t.D, .int k]) = [x] ++ (m_term_names_t t).1
    rw [one_tup]
    simp only [List.map_cons, List.map_nil, List.flatten_cons, List.flatten_nil, one_in hz.1, one_term h hz.2, one_int, one_tag h (t := "set") (by decide +kernel) (by decide +kernel), List.append_nil, List.nil_append]
  | put r p t k =>
    show oneD (d + 4) pool (.tuple [.str "put", .str r, .tuple [.str p.1, .int p.2], t.D, .int k]) = m_place_names p ++ (m_term_names_t t).1
    rw [one_tup]
    simp only [List.map_cons, List.map_nil, List.flatten_cons, List.flatten_nil, one_row h hz.1, one_place h hz.2.1, one_term h hz.2.2, one_int, one_tag h (t := "put") (by decide +kernel) (by decide +kernel), List.append_nil, List.nil_append]
  | any x =>
    show oneD (d + 4) pool (.tuple [.str "any", .str x]) = [x]
    rw [one_tup]
    simp only [List.map_cons, List.map_nil, List.flatten_cons, List.flatten_nil, one_in hz, one_tag h (t := "any") (by decide +kernel) (by decide +kernel), List.append_nil, List.nil_append]
  | claim c =>
    show oneD (d + 4) pool (.tuple [.str "claim", c.D]) = (m_claim_names c).1
    rw [one_tup]
    simp only [List.map_cons, List.map_nil, List.flatten_cons, List.flatten_nil, one_claim h hz, one_tag h (t := "claim") (by decide +kernel) (by decide +kernel), List.append_nil, List.nil_append]
end
/-! ### all texts are fit -/
abbrev sO (x : Str) : Prop := PyData.strOk x = true
theorem claim_s : sO "claim" := by decide +kernel
theorem need_s : sO "need" := by decide +kernel
theorem give_s : sO "give" := by decide +kernel
def dk0 (d : Nat) : PyData → Prop
  | .tuple ts => Dok d ts
  | .str x => PyData.strOk x = true
  | .int _ => True
  | _ => False
theorem Dok_of {d : Nat} {ds : List PyData} (h : ∀ x ∈ ds, dk0 d x) : Dok (d + 1) ds := fun x hx => by
  have := h x hx
  cases x <;> exact this
theorem Dok_to {d : Nat} {ds : List PyData} (h : Dok (d + 1) ds) : ∀ x ∈ ds, dk0 d x := fun x hx => by
  have := h x hx
  cases x <;> exact this
theorem dk0_dkD : ∀ {d : Nat} {x : PyData}, dk0 d x → dkD d x = true
  | d, .str x, h => by cases d <;> exact h
  | d, .int x, h => by cases d <;> rfl
  | 0, .tuple ts, h => h.elim
  | d + 1, .tuple ts, h => by
    show ts.all (dkD d) = true
    rw [List.all_eq_true]
    exact fun x hx => dk0_dkD (Dok_to h x hx)
theorem fa_cons {α : Type} {p : α → Prop} {a : α} {l : List α} (h1 : p a) (h2 : ∀ x ∈ l, p x) : ∀ x ∈ a :: l, p x := fun x hx => by
  rcases List.mem_cons.mp hx with e | e
  · rw [e]
    exact h1
  · exact h2 x e
theorem fa_nil {α : Type} {p : α → Prop} : ∀ x ∈ ([] : List α), p x := fun x hx => absurd hx List.not_mem_nil
theorem okPl {d : Nat} {p : Str × Int} (h : sO p.1) : dk0 (d + 1) (.tuple [.str p.1, .int p.2]) := Dok_of (fa_cons h (fa_cons trivial fa_nil))
theorem okTm {d : Nat} {t : Trm} (h : TmOk sO sO t) : dk0 (d + 2) t.D := by
  cases t with
  | is x => exact Dok_of (fa_cons (show PyData.strOk "is" = true by decide +kernel) (fa_cons h fa_nil))
  | rd r p => exact Dok_of (fa_cons (show PyData.strOk "at" = true by decide +kernel) (fa_cons h.1 (fa_cons (okPl h.2) fa_nil)))
theorem okAg {d : Nat} {t : Ag} (h : AgOk sO sO t) : dk0 (d + 2) t.D := by
  cases t with
  | is x => exact Dok_of (fa_cons (show PyData.strOk "is" = true by decide +kernel) (fa_cons h fa_nil))
  | row r => exact Dok_of (fa_cons (show PyData.strOk "row" = true by decide +kernel) (fa_cons h fa_nil))
theorem okCl {d : Nat} {c : Clm} (h : ClOk sO sO c) : dk0 (d + 3) c.D := by
  cases c with
  | least a b k => exact Dok_of (fa_cons (show PyData.strOk "least" = true by decide +kernel) (fa_cons (okTm h.1) (fa_cons (okTm h.2) (fa_cons trivial fa_nil))))
  | each t u r w b k =>
    have hw : sO w := by
      rcases h.2.2.2.1 with e | e <;> (rw [e]; decide +kernel)
    exact Dok_of (fa_cons (show PyData.strOk "each" = true by decide +kernel) (fa_cons (okPl h.1) (fa_cons (okPl h.2.1) (fa_cons h.2.2.1 (fa_cons hw (fa_cons (okAg h.2.2.2.2) (fa_cons trivial fa_nil)))))))
  | rise t u r => exact Dok_of (fa_cons (show PyData.strOk "rise" = true by decide +kernel) (fa_cons (okPl h.1) (fa_cons (okPl h.2.1) (fa_cons h.2.2 fa_nil))))
theorem okStrs {d : Nat} {l : List Str} (h : ∀ x ∈ l, sO x) : dk0 (d + 1) (.tuple (l.map .str)) := Dok_of fun x hx => by
  obtain ⟨y, hy, rfl⟩ := List.mem_map.mp hx
  exact h y hy
theorem okSt {d : Nat} {z : Fst} (h : FsOk sO sO sO z) : dk0 (d + 4) z.D := by
  cases z with
  | set x t k => exact Dok_of (fa_cons (show PyData.strOk "set" = true by decide +kernel) (fa_cons h.1 (fa_cons (okTm h.2) (fa_cons trivial fa_nil))))
  | put r p t k => exact Dok_of (fa_cons (show PyData.strOk "put" = true by decide +kernel) (fa_cons h.1 (fa_cons (okPl h.2.1) (fa_cons (okTm h.2.2) (fa_cons trivial fa_nil)))))
  | any x => exact Dok_of (fa_cons (show PyData.strOk "any" = true by decide +kernel) (fa_cons h fa_nil))
  | claim c => exact Dok_of (fa_cons (show PyData.strOk "claim" = true by decide +kernel) (fa_cons (okCl h) fa_nil))
/-! ### the first way -/
structure ProcC (pool : List Str) (R : Str → Prop) (p : PrcT) : Prop where
  n : ∀ c ∈ p.2.2.2.2.1, ClOk (inE pool) R c
  g : ∀ c ∈ p.2.2.2.2.2.1, ClOk (inE pool) R c
  b : ∀ z ∈ p.2.2.2.2.2.2, FsOk (inP pool) (inE pool) R z
section
variable {pool : List Str} {R : Str → Prop} (h : PoolOk pool R) {p : PrcT}
include h
theorem PoolOk.okE : ∀ x, inE pool x → sO x := fun x hx => by
  rcases hx with e | e
  · rw [e]
    decide +kernel
  · exact h.okP x e
theorem PoolOk.cl {c : Clm} (hc : ClOk (inE pool) R c) : ClOk sO sO c := hc.mono h.okE h.okR
theorem PoolOk.fs {z : Fst} (hz : FsOk (inP pool) (inE pool) R z) : FsOk sO sO sO z := hz.mono h.okP h.okE h.okR
theorem ones_claims {d : Nat} : ∀ cs : List Clm, (∀ c ∈ cs, ClOk (inE pool) R c) → oneD (d + 4) pool (.tuple (cs.map Clm.D)) = cs.flatMap fun c => (m_claim_names c).1 := fun cs hc => by
  rw [one_tup, List.map_map, List.flatMap_def]
  exact congrArg List.flatten (List.map_congr_left fun c hm => one_claim h (hc c hm))
theorem ones_stms {d : Nat} : ∀ zs : List Fst, (∀ z ∈ zs, FsOk (inP pool) (inE pool) R z) → oneD (d + 5) pool (.tuple (zs.map Fst.D)) = zs.flatMap fun z => (m_simple_names z).1 := fun zs hz => by
  rw [one_tup, List.map_map, List.flatMap_def]
  exact congrArg List.flatten (List.map_congr_left fun z hm => one_stm h (hz z hm))
theorem used_is (hp : ProcC pool R p) : usedF (bodyT p) pool = (p.2.2.2.2.1.flatMap fun c => (m_claim_names c).1) ++ ((p.2.2.2.2.2.1.flatMap fun c => (m_claim_names c).1) ++ (p.2.2.2.2.2.2.flatMap fun z => (m_simple_names z).1)) := by
  show usedD 8 _ pool = _
  rw [usedD_is]
  simp only [List.map_cons, List.map_nil, List.flatten_cons, List.flatten_nil, List.append_nil]
  rw [ones_claims h _ hp.n, ones_claims h _ hp.g, ones_stms h _ hp.b]
theorem UOk_of (hp : ProcC pool R p) (hk : PrcOk p) : UOk p pool := by
  refine ⟨?_, ?_, h.okP⟩
  · refine Dok_of (fa_cons ?_ (fa_cons ?_ (fa_cons ?_ fa_nil)))
    · exact Dok_of fun x hx => by
        obtain ⟨c, hc, rfl⟩ := List.mem_map.mp hx
        exact okCl (h.cl (hp.n c hc))
    · exact Dok_of fun x hx => by
        obtain ⟨c, hc, rfl⟩ := List.mem_map.mp hx
        exact okCl (h.cl (hp.g c hc))
    · exact Dok_of fun x hx => by
        obtain ⟨c, hc, rfl⟩ := List.mem_map.mp hx
        exact okSt (h.fs (hp.b c hc))
  · rw [used_is h hp]
    have h1 := flat_len (l := p.2.2.2.2.1) (f := fun c => (m_claim_names c).1) (k := 3) fun c _ => (cn_len c).1
    have h2 := flat_len (l := p.2.2.2.2.2.1) (f := fun c => (m_claim_names c).1) (k := 3) fun c _ => (cn_len c).1
    have h3 := flat_len (l := p.2.2.2.2.2.2) (f := fun z => (m_simple_names z).1) (k := 6) fun z hz => (sn_len (hk.o z hz)).1
    have h4 := hk.n
    have h5 := hk.g
    have h6 := hk.b
    rw [List.length_append, List.length_append]
    omega
theorem filt_eq {zs ys : List Str} {q : Str → Bool} (hq : ∀ y, q y = true → (y ∈ zs ↔ y ∈ ys)) : (sortT zs).filter q = (sortT ys).filter q := by
  have e1 : (sortT zs).filter q = sortT (ys.filter q) := sortT_uniq ((sortT_ok zs).1.filter q) fun y => by
    rw [List.mem_filter, List.mem_filter, (sortT_ok zs).2]
    exact ⟨fun o => ⟨(hq y o.2).mp o.1, o.2⟩, fun o => ⟨(hq y o.2).mpr o.1, o.2⟩⟩
  have e2 : (sortT ys).filter q = sortT (ys.filter q) := sortT_uniq ((sortT_ok ys).1.filter q) fun y => by
    rw [List.mem_filter, List.mem_filter, (sortT_ok ys).2]
  rw [e1, e2]
theorem first_eq (hp : ProcC pool R p) : m_first_way p = way0 p pool := by
  show ((m_numbers_of p).filter fun (y : Str) => (!memB y p.2.2.1)).map _ ++ _ = _
  unfold way0
  rw [numbers_is, used_is h hp, body_is]
  congr 2
  refine filt_eq h fun y hy => ?_
  have hy2 : y ∉ p.2.2.1 := fun z => by
    rw [memB_true.mpr z] at hy
    cases hy
  simp only [List.mem_append, List.flatMap_append]
  constructor
  · rintro (((o | o) | o) | (o | o))
    · exact absurd o hy2
    · exact .inr o
    · exact .inl (.inr (.inr o))
    · exact .inl (.inl o)
    · exact .inl (.inr (.inl o))
  · rintro ((o | (o | o)) | o)
    · exact .inr (.inl o)
    · exact .inr (.inr o)
    · exact .inl (.inr o)
    · exact .inl (.inl (.inr o))
end
/-! ### the duties are fit to be looked at -/
def RwOk : Row → Prop
  | .set x t _ => sO x ∧ TmOk sO sO t
  | .put r p t _ => sO r ∧ sO p.1 ∧ TmOk sO sO t
  | .any x => sO x
  | .know c => ClOk sO sO c
  | .lose r => sO r
def DyOk (d : DutyT) : Prop := sO d.1 ∧ sO d.2.1 ∧ (∀ r ∈ d.2.2.2.2.1, RwOk r) ∧ ClOk sO sO d.2.2.2.2.2
theorem dk_row {r : Row} (h : RwOk r) : dkD 4 r.D = true := by
  refine dk0_dkD ?_
  cases r with
  | set x t k => exact Dok_of (fa_cons (show PyData.strOk "set" = true by decide +kernel) (fa_cons h.1 (fa_cons (okTm h.2) (fa_cons trivial fa_nil))))
  | put r p t k => exact Dok_of (fa_cons (show PyData.strOk "put" = true by decide +kernel) (fa_cons h.1 (fa_cons (okPl h.2.1) (fa_cons (okTm h.2.2) (fa_cons trivial fa_nil)))))
  | any x => exact Dok_of (fa_cons (show PyData.strOk "any" = true by decide +kernel) (fa_cons h fa_nil))
  | know c => exact Dok_of (fa_cons (show PyData.strOk "know" = true by decide +kernel) (fa_cons (okCl h) fa_nil))
  | lose r => exact Dok_of (fa_cons (show PyData.strOk "lose" = true by decide +kernel) (fa_cons h fa_nil))
theorem dk_duty {d : DutyT} (h : DyOk d) : dkD 6 (e_tup_str_str_tupl_int_int_lst_Row_Clm d) = true := by
  show [PyData.str d.1, .str d.2.1, .tuple (d.2.2.1.map .int), .int d.2.2.2.1, .list (d.2.2.2.2.1.map Row.D), d.2.2.2.2.2.D].all (dkD 5) = true
  rw [List.all_eq_true]
  refine fa_cons h.1 (fa_cons h.2.1 (fa_cons ?_ (fa_cons rfl (fa_cons ?_ (fa_cons ?_ fa_nil)))))
  · show (d.2.2.1.map PyData.int).all (dkD 4) = true
    rw [List.all_eq_true]
    intro x hx
    obtain ⟨y, _, rfl⟩ := List.mem_map.mp hx
    rfl
  · show (d.2.2.2.2.1.map Row.D).all (dkD 4) = true
    rw [List.all_eq_true]
    intro x hx
    obtain ⟨y, hy, rfl⟩ := List.mem_map.mp hx
    exact dk_row (h.2.2.1 y hy)
  · exact dk0_dkD (okCl h.2.2.2)
theorem dk_dues {l : List DutyT} (h : ∀ d ∈ l, DyOk d) : dkD 7 (.list (l.map e_tup_str_str_tupl_int_int_lst_Row_Clm)) = true := by
  show (l.map _).all (dkD 6) = true
  rw [List.all_eq_true]
  intro x hx
  obtain ⟨y, hy, rfl⟩ := List.mem_map.mp hx
  exact dk_duty (h y hy)
theorem fa_app {α : Type} {p : α → Prop} {a b : List α} (h1 : ∀ x ∈ a, p x) (h2 : ∀ x ∈ b, p x) : ∀ x ∈ a ++ b, p x := fun x hx => (List.mem_append.mp hx).elim (h1 x) (h2 x)
theorem fa_map {α β : Type} {p : β → Prop} {f : α → β} {l : List α} (h : ∀ x ∈ l, p (f x)) : ∀ y ∈ l.map f, p y := fun y hy => by
  obtain ⟨x, hx, rfl⟩ := List.mem_map.mp hy
  exact h x hx
/-- the way and the duties met stay fit -/
def WmOk (s : List Row × List DutyT) : Prop := (∀ r ∈ s.1, RwOk r) ∧ ∀ d ∈ s.2, DyOk d
theorem gD_ok {f : Str} (hf : sO f) {s : List Row × List DutyT} (hs : WmOk s) {q : Nat × Fst} (hz : FsOk sO sO sO q.2) : WmOk (gD f s q) := by
  obtain ⟨i, z⟩ := q
  obtain ⟨w, met⟩ := s
  cases z with
  | set x t k => exact ⟨fa_app hs.1 (fa_cons (p := RwOk) hz fa_nil), hs.2⟩
  | put r p t k => exact ⟨fa_app hs.1 (fa_cons (p := RwOk) hz fa_nil), hs.2⟩
  | any x => exact ⟨fa_app hs.1 (fa_cons (p := RwOk) hz fa_nil), hs.2⟩
  | claim c => exact ⟨hs.1, fa_app hs.2 (fa_cons (p := DyOk) ⟨hf, claim_s, hs.1, hz⟩ fa_nil)⟩
theorem fold_ok {f : Str} (hf : sO f) : ∀ (l : List (Nat × Fst)) {s : List Row × List DutyT}, WmOk s → (∀ q ∈ l, FsOk sO sO sO q.2) → WmOk (l.foldl (gD f) s)
  | [], _, hs, _ => hs
  | q :: l, s, hs, hz => fold_ok hf l (gD_ok hf hs (hz q List.mem_cons_self)) fun x hx => hz x (List.mem_cons_of_mem _ hx)
/-! ### what is drawn, and all that the walk asks of it -/
def WsOk (W : List Str) : Prop := W.length = 8 ∧ W.Nodup ∧ ∀ w ∈ W, WOk w
abbrev poolW (W : List Str) : List Str := ((W.drop 1).take (6 - 1)) ++ [("out" : Str)]
def RW (W : List Str) (r : Str) : Prop := r ∈ W.take 1 ∨ r ∈ W.drop 6
theorem WOk.out {w : Str} (h : WOk w) : w ≠ "out" := fun e => h.2.2 (by rw [e]; decide +kernel)
theorem pool_ok {W : List Str} (h : WsOk W) : PoolOk (poolW W) (RW W) := by
  obtain ⟨hl, hn, hw⟩ := h
  have e1 : W = W.take 1 ++ W.drop 1 := (List.take_append_drop 1 W).symm
  have e2 : W.drop 1 = (W.drop 1).take (6 - 1) ++ W.drop 6 := by
    have := (List.take_append_drop (6 - 1) (W.drop 1)).symm
    rwa [List.drop_drop] at this
  have hm2 : ∀ x ∈ (W.drop 1).take (6 - 1), x ∈ W.drop 1 := fun x hx => List.mem_of_mem_take hx
  have hmW : ∀ x ∈ W.drop 1, x ∈ W := fun x hx => List.mem_of_mem_drop hx
  have n1 := hn
  rw [e1, List.nodup_append] at n1
  have n2 := n1.2.1
  rw [e2, List.nodup_append] at n2
  refine ⟨fun t ht ho hm => ?_, fun r hr hm => ?_, fun x hx => ?_, fun r hr => ?_⟩
  · rcases List.mem_append.mp hm with e | e
    · exact (hw t (hmW t (hm2 t e))).2.2 ht
    · exact ho (List.mem_singleton.mp e)
  · rcases List.mem_append.mp hm with e | e
    · rcases hr with o | o
      · exact n1.2.2 r o r (hm2 r e) rfl
      · exact n2.2.2 r e r o rfl
    · have e := List.mem_singleton.mp e
      rcases hr with o | o
      · exact (hw r (List.mem_of_mem_take o)).out e
      · exact (hw r (List.mem_of_mem_drop o)).out e
  · rcases List.mem_append.mp hx with e | e
    · exact (hw x (hmW x (hm2 x e))).1
    · rw [List.mem_singleton.mp e]
      decide +kernel
  · rcases hr with o | o
    · exact (hw r (List.mem_of_mem_take o)).1
    · exact (hw r (List.mem_of_mem_drop o)).1
theorem st_in {nums free rows pool : List Str} {R : Str → Prop} (hN : ∀ x ∈ nums, x ∈ pool) (hF : ∀ x ∈ free, x ∈ pool) (lf : free.length ≠ 0) (hR : ∀ r ∈ rows, R r) (c : Int) : FsOk (inP pool) (inE pool) R (m_law_statement c nums free rows) := by
  have hx : ixD free (c / 5 % (free.length : Int)) ∈ pool := ix_rows hF lf _
  have hN2 : ∀ x ∈ nums, inE pool x := fun x hx => .inr (hN x hx)
  unfold m_law_statement
  dsimp only [letF]
  split
  · exact hx
  · split
    · rename_i h
      rw [Bool.and_eq_true, decide_eq_true_eq, decide_eq_true_eq] at h
      exact ⟨ix_rows hR (by omega) _, place_ok hN2 (.inl rfl) _, term_ok hN2 (.inl rfl) hR _⟩
    · split
      · exact ⟨hx, term_ok hN2 (.inl rfl) hR _⟩
      · exact claim_okN hN2 (.inl rfl) hR _
theorem proc_is (S : Scr) (W : List Str) : ∃ (needs gives : List Clm) (n m k : Nat) (g : Nat → Int), n ≤ 3 ∧ m ≤ 2 ∧ k ≤ 30 ∧ m_law_proc S W = (("proc" : Str), ixD W 0, (W.drop 1).take n, (W.drop 6).take m, needs, gives, (List.range k).map fun y => m_law_statement (g y) ((W.drop 1).take n ++ (((W.drop 4).take (6 - 4)) ++ [("out" : Str)])) (((W.drop 4).take (6 - 4)) ++ [("out" : Str)]) ((W.drop 6).take m)) ∧ needs.length ≤ 3 ∧ gives.length ≤ 3 ∧ (∀ c ∈ needs, ∃ k, c = m_law_claim k ((W.drop 1).take n) ((W.drop 6).take m)) ∧ ∀ c ∈ gives, ∃ k, c = m_law_claim k ((W.drop 1).take n ++ [("out" : Str)]) ((W.drop 6).take m) := by
  unfold m_law_proc
  dsimp only [letF]
  refine ⟨(List.range (m_law_cell S 2 % 4).toNat).map (fun x : Nat => m_law_claim (m_law_cell S (14 + x)) ((W.drop 1).take ((1 + m_law_cell S 0 % 4).toNat - 1)) ((W.drop 6).take ((6 + m_law_cell S 1 % 3).toNat - 6))), (List.range (m_law_cell S 3 % 4).toNat).map (fun x : Nat => m_law_claim (m_law_cell S (18 + x)) ((W.drop 1).take ((1 + m_law_cell S 0 % 4).toNat - 1) ++ [("out" : Str)]) ((W.drop 6).take ((6 + m_law_cell S 1 % 3).toNat - 6))), (1 + m_law_cell S 0 % 4).toNat - 1, (6 + m_law_cell S 1 % 3).toNat - 6, (m_law_cell S 4 % 31).toNat, fun y => m_law_cell S (22 + y), by omega, by omega, by omega, ?_, ?_, ?_, ?_, ?_⟩
  · refine (forL_of (g := fun (s : List Clm) (x : Nat) => s ++ [m_law_claim (m_law_cell S (14 + x)) ((W.drop 1).take ((1 + m_law_cell S 0 % 4).toNat - 1)) ((W.drop 6).take ((6 + m_law_cell S 1 % 3).toNat - 6))]) (fun x s n => rfl) _ _ _).trans ?_
    refine (forL_of (g := fun (s : List Clm) (x : Nat) => s ++ [m_law_claim (m_law_cell S (18 + x)) ((W.drop 1).take ((1 + m_law_cell S 0 % 4).toNat - 1) ++ [("out" : Str)]) ((W.drop 6).take ((6 + m_law_cell S 1 % 3).toNat - 6))]) (fun x s n => rfl) _ _ _).trans ?_
    rw [fold_snoc, fold_snoc]
    rfl
  · rw [List.length_map, List.length_range]
    omega
  · rw [List.length_map, List.length_range]
    omega
  · intro c hc
    obtain ⟨x, _, rfl⟩ := List.mem_map.mp hc
    exact ⟨_, rfl⟩
  · intro c hc
    obtain ⟨x, _, rfl⟩ := List.mem_map.mp hc
    exact ⟨_, rfl⟩
structure Good61 (p : PrcT) (pool : List Str) : Prop where
  ok : PrcOk p
  ps : ∀ x ∈ p.2.2.1, PyData.strOk x = true
  uo : UOk p pool
  eq : m_duties_of [p] p = m_law_due p pool
  fit : ∀ d ∈ m_law_due p pool, DyOk d
  len : (m_law_due p pool).length ≤ 610
  fl : (way0 p pool).length ≤ 290
theorem FOk_all (z : Fst) : FOk z := by
  cases z <;> trivial
theorem oneD_sub {nums : List Str} : ∀ (d : Nat) (x : PyData) (y : Str), y ∈ oneD d nums x → y ∈ nums
  | d, .str x, y, h => by
    have h : y ∈ (if memB x nums then [x] else []) := h
    split at h
    · rename_i hm
      rw [List.mem_singleton.mp h]
      exact memB_true.mp hm
    · exact absurd h List.not_mem_nil
  | 0, .tuple ts, y, h => absurd h List.not_mem_nil
  | d + 1, .tuple ts, y, h => by
    have h : y ∈ usedD (d + 1) ts nums := h
    rw [usedD_is] at h
    obtain ⟨l, hl, hy⟩ := List.mem_flatten.mp h
    obtain ⟨x, _, rfl⟩ := List.mem_map.mp hl
    exact oneD_sub d x y hy
  | d, .int _, y, h => absurd h List.not_mem_nil
  | d, .bool _, y, h => absurd h List.not_mem_nil
  | d, .none, y, h => absurd h List.not_mem_nil
  | d, .list _, y, h => absurd h List.not_mem_nil
  | d, .dict _, y, h => absurd h List.not_mem_nil
theorem words8 : ∀ {W : List Str}, W.length = 8 → ∃ a b c d e f g h, W = [a, b, c, d, e, f, g, h]
  | [a, b, c, d, e, f, g, h], _ => ⟨a, b, c, d, e, f, g, h, rfl⟩
theorem good_of {pool : List Str} {R : Str → Prop} (hP : PoolOk pool R) {p : PrcT} (hk : PrcOk p) (hps : ∀ x ∈ p.2.2.1, x ∈ pool) (hf : sO p.2.1) (hp : ProcC pool R p) (ho : ("out" : Str) ∈ pool) : Good61 p pool := by
  have he := duties_of_eq (P := [p]) (first_eq hP hp)
  refine ⟨hk, fun x hx => hP.okP x (hps x hx), UOk_of hP hp hk, he, ?_, by rw [← he]; exact do_len hk, by rw [← first_eq hP hp]; exact fw_len hk⟩
  rw [due_is]
  have hw0 : ∀ r ∈ way0 p pool, RwOk r := by
    refine fa_app (fa_map (p := RwOk) fun y hy => ⟨?_, hP.okE _ (.inl rfl)⟩) (fa_map (p := RwOk) fun c hc => hP.cl (hp.n c hc))
    have := (List.mem_filter.mp hy).1
    rw [(sortT_ok _).2] at this
    rcases List.mem_append.mp this with h | h
    · refine hP.okP y ?_
      have h : y ∈ usedD 8 (bodyT p) pool := h
      rw [usedD_is] at h
      obtain ⟨l, hl, hy2⟩ := List.mem_flatten.mp h
      obtain ⟨x, _, rfl⟩ := List.mem_map.mp hl
      exact oneD_sub _ _ _ hy2
    · exact hP.okP y (by rw [List.mem_singleton.mp h]; exact ho)
  have hw := fold_ok hf (enumL p.2.2.2.2.2.2) (s := (way0 p pool, [])) ⟨hw0, fun d hd => absurd hd (by simp)⟩ fun q hq => hP.fs (hp.b q.2 (enumL_mem (i := q.1) hq))
  exact fa_app hw.2 (fa_map (p := DyOk) fun q hq => ⟨hf, give_s, hw.1, hP.cl (hp.g q.2 (enumL_mem (i := q.1) hq))⟩)
theorem good61 (S : Scr) {W : List Str} (hW : WsOk W) : Good61 (m_law_proc S W) (poolW W) := by
  have hP := pool_ok hW
  obtain ⟨needs, gives, n, m, k, g, hn, hm, hk, e, h1, h2, h3, h4⟩ := proc_is S W
  rw [e]
  have hout : ("out" : Str) ∈ poolW W := List.mem_append.mpr (.inr List.mem_cons_self)
  have hps : ∀ x ∈ (W.drop 1).take n, x ∈ poolW W := fun x hx => by
    refine List.mem_append.mpr (.inl ?_)
    have : ((W.drop 1).take n).Sublist ((W.drop 1).take (6 - 1)) := List.take_sublist_take_left (by omega)
    exact this.subset hx
  have hfree : ∀ x ∈ ((W.drop 4).take (6 - 4)) ++ [("out" : Str)], x ∈ poolW W := by
    obtain ⟨w0, w1, w2, w3, w4, w5, w6, w7, rfl⟩ := words8 hW.1
    show ∀ x ∈ [w4, w5, ("out" : Str)], x ∈ [w1, w2, w3, w4, w5, ("out" : Str)]
    simp
  have hR : ∀ r ∈ (W.drop 6).take m, RW W r := fun r hr => .inr (List.mem_of_mem_take hr)
  have hf0 : RW W (ixD W 0) := by
    obtain ⟨a, b, c, d, e, f, g, h, rfl⟩ := words8 hW.1
    exact .inl List.mem_cons_self
  refine good_of hP ⟨?_, ?_, ?_, ?_, ?_, fun z _ => FOk_all z⟩ hps (hP.okR _ hf0) ⟨fun c hc => ?_, fun c hc => ?_, fun z hz => ?_⟩ hout
  · show ((W.drop 1).take n).length ≤ 5
    rw [List.length_take]
    omega
  · show ((W.drop 6).take m).length ≤ 5
    rw [List.length_take]
    omega
  · exact Nat.le_trans h1 (by decide)
  · exact Nat.le_trans h2 (by decide)
  · show (List.map _ (List.range k)).length ≤ 40
    rw [List.length_map, List.length_range]
    omega
  · obtain ⟨k, rfl⟩ := h3 c hc
    exact claim_okN (N := inE (poolW W)) (fun x hx => .inr (hps x hx)) (.inl rfl) hR k
  · obtain ⟨k, rfl⟩ := h4 c hc
    exact claim_okN (N := inE (poolW W)) (fa_app (fun x hx => .inr (hps x hx)) (fa_cons (.inr hout) fa_nil)) (.inl rfl) hR k
  · obtain ⟨y, _, rfl⟩ := List.mem_map.mp hz
    exact st_in (fa_app hps hfree) hfree (by rw [List.length_append, List.length_singleton]; omega) hR _
/-! ### the cells of the law's own walk -/
def addR (x : PyData) (d : D5) : D5 := (d.1, d.2.1, d.2.2.1 ++ [x], d.2.2.2)
def lawC (xs : List SV) (es : List D5) (g : Cs) : Cs := CC.lst xs :: CC.lst (refs 2 es) :: (lay 2 es ++ g)
theorem refs_of_len : ∀ (n : Nat) (ds es : List D5), ds.length = es.length → refs n ds = refs n es
  | _, [], [], _ => rfl
  | n, _ :: ds, _ :: es, h => by
    show _ :: refs (n + 3) ds = _ :: refs (n + 3) es
    rw [refs_of_len (n + 3) ds es (by simpa using h)]
theorem dutC_nil (ds : List DutyT) : dutC [] ds = lawC (refs 2 (ds.map dq)) (ds.map dq) [] := by
  unfold lawC
  rw [List.append_nil]
  rfl
theorem lay_put (x : PyData) (d : D5) (b : List D5) : ∀ (n : Nat) (a : List D5), (lay n (a ++ d :: b)).set (3 * a.length) (.lst (d.2.2.1.map SV.val ++ [.val x])) = lay n (a ++ addR x d :: b)
  | n, [] => by
    show CC.lst (d.2.2.1.map SV.val ++ [.val x]) :: _ = CC.lst ((d.2.2.1 ++ [x]).map SV.val) :: _
    rw [List.map_append]
    rfl
  | n, e :: a => by
    show (trip n e ++ lay (n + 3) (a ++ d :: b)).set (3 * (a.length + 1)) _ = trip n e ++ lay (n + 3) (a ++ addR x d :: b)
    rw [List.set_append_right _ _ (by show 3 ≤ _; omega), show 3 * (a.length + 1) - (trip n e).length = 3 * a.length from by show 3 * (a.length + 1) - 3 = _; omega, lay_put x d b]
theorem lawC_put (xs : List SV) (a : List D5) (d : D5) (b : List D5) (g : Cs) (x : PyData) : PutC (lawC xs (a ++ d :: b) g) (2 + 3 * a.length) (.lst (d.2.2.1.map SV.val ++ [.val x])) (lawC xs (a ++ addR x d :: b) g) := by
  have hl : 3 * a.length < (lay 2 (a ++ d :: b)).length := by
    rw [lay_len, List.length_append, List.length_cons]
    omega
  have e : lawC xs (a ++ addR x d :: b) g = (lawC xs (a ++ d :: b) g).set (2 + 3 * a.length) (.lst (d.2.2.1.map SV.val ++ [.val x])) := by
    rw [Nat.add_comm 2]
    unfold lawC
    rw [refs_of_len 2 (a ++ addR x d :: b) (a ++ d :: b) (by rw [List.length_append, List.length_append]; rfl)]
    show _ = CC.lst xs :: CC.lst _ :: ((lay 2 (a ++ d :: b) ++ g).set (3 * a.length) _)
    rw [List.set_append_left _ _ hl, lay_put]
  rw [e]
  refine PutC.of ?_
  unfold lawC
  show _ < (lay 2 (a ++ d :: b) ++ g).length + 1 + 1
  rw [List.length_append]
  omega
theorem lawC_stand (xs : List SV) (es : List D5) (g h : Cs) : Stand (lawC xs es g ++ h) 2 (lay 2 es) := fun i c e => by
  have hi := (List.getElem?_eq_some_iff.mp e).1
  rw [Nat.add_comm 2]
  show ((lay 2 es ++ g) ++ h)[i]? = some c
  rw [List.append_assoc, List.getElem?_append_left hi]
  exact e
theorem stand_at {C : Cs} {n : Nat} {a b : List D5} {d : D5} (h : Stand C n (lay n (a ++ d :: b))) : C[n + 3 * a.length]? = some (.lst (d.2.2.1.map SV.val)) ∧ C[n + 3 * a.length + 2]? = some (.tup (d.1.map SV.val ++ [.val d.2.1, .cell (n + 3 * a.length), .val d.2.2.2])) := by
  rw [lay_app] at h
  have h2 := h.app.2
  rw [lay_len] at h2
  exact ⟨h2 0 _ rfl, h2 2 _ rfl⟩
theorem ref_at (n : Nat) (a b : List D5) (d : D5) : (refs n (a ++ d :: b))[a.length]? = some (.cell (n + 3 * a.length + 2)) := by
  rw [refs_app, List.getElem?_append_right (by rw [refs_len]; exact Nat.le_refl _), refs_len, Nat.sub_self]
  rfl
theorem pd_dropP {α β : Type} {F : α → β → Prop} (n : Nat) {l : List α} {m : List β} (h : Paired F l m) : Paired F (l.drop n) (m.drop n) := pd_drop n h
/-- so many lists changed -/
def mutD (x : PyData) (i : Nat) (es : List D5) : List D5 := (es.take i).map (addR x) ++ es.drop i
theorem mutD_len (x : PyData) (i : Nat) (es : List D5) : (mutD x i es).length = es.length := by
  unfold mutD
  rw [List.length_append, List.length_map, List.length_take, List.length_drop]
  omega
theorem mutD_at {x : PyData} {i : Nat} {es : List D5} (h : i < es.length) : ∃ a d b, a.length = i ∧ mutD x i es = a ++ d :: b ∧ mutD x (i + 1) es = a ++ addR x d :: b ∧ d = es[i] ∧ b = es.drop (i + 1) := by
  refine ⟨(es.take i).map (addR x), es[i], es.drop (i + 1), by rw [List.length_map, List.length_take]; omega, ?_, ?_, rfl, rfl⟩
  · unfold mutD
    rw [List.drop_eq_getElem_cons h]
  · unfold mutD
    rw [List.take_add_one, List.getElem?_eq_getElem h, Option.toList_some, List.map_append, List.append_assoc]
    rfl
theorem mutD_drop {x : PyData} {i : Nat} {es : List D5} (h : i ≤ es.length) : (mutD x i es).drop i = es.drop i := by
  unfold mutD
  rw [List.drop_append_of_le_length (by rw [List.length_map, List.length_take]; omega), List.drop_of_length_le (by rw [List.length_map, List.length_take]; omega)]
  rfl
def gar (R : List SV) (i : Nat) : Cs := (List.range i).map fun k => CC.lst (R.drop (k + 1))
theorem gar_succ (R : List SV) (i : Nat) : gar R (i + 1) = gar R i ++ [CC.lst (R.drop (i + 1))] := by
  unfold gar
  rw [List.range_succ, List.map_append]
  rfl
theorem dq_D (d : DutyT) : D5.D (dq d) = e_tup_str_str_tupl_int_int_lst_Row_Clm d := rfl
theorem dqs_D (ds : List DutyT) : (ds.map dq).map D5.D = ds.map e_tup_str_str_tupl_int_int_lst_Row_Clm := by
  rw [List.map_map]
  rfl
theorem lawC_gar (R : List SV) (es : List D5) (i : Nat) : lawC R es (gar R (i + 1)) = lawC R es (gar R i) ++ [CC.lst (R.drop (i + 1))] := by
  rw [gar_succ]
  unfold lawC
  show _ = CC.lst R :: CC.lst _ :: ((lay 2 es ++ gar R i) ++ [_])
  rw [List.append_assoc]
theorem dutC_dat (cs : Cs) (ds : List DutyT) : IsDat4 (dutC cs ds) (.cell cs.length) (.list (ds.map e_tup_str_str_tupl_int_int_lst_Row_Clm)) := by
  have hl : ((cs ++ [CC.lst []]) ++ [CC.lst []]).length = cs.length + 2 := by rw [List.length_append, List.length_append]; rfl
  have hst : Stand (dutC cs ds) (cs.length + 2) (lay (cs.length + 2) (ds.map dq)) := fun i c e => by
    unfold dutC
    rw [List.getElem?_set_ne (by omega)]
    have := grow_stand ((cs ++ [CC.lst []]) ++ [CC.lst []]) (cs.length + 1) [] (ds.map dq) []
    rw [List.append_nil, hl] at this
    exact this i c e
  have := refs_dat hst
  rw [dqs_D] at this
  refine .lst ?_ this
  unfold dutC
  rw [List.getElem?_set_self]
  unfold growD
  rw [grow_len]
  omega
/-! ### how a text is gone through -/
local macro_rules | `(tactic| wtm_at "d.lk") => `(tactic| first | exact Lk.here | (apply Lk.there; wtm_at "d.lk"))
local macro_rules | `(tactic| wtm_at "d.put") => `(tactic| first | exact Put.here | (apply Put.there; wtm_at "d.put"))
local macro_rules | `(tactic| wtm_at "d.putC") => `(tactic| first | exact PutC.here | (apply PutC.there; wtm_at "d.putC"))
local macro_rules | `(tactic| wtm_at "d.appC") => `(tactic| first | exact AppC.nil | (apply AppC.cons; wtm_at "d.appC"))
local macro_rules | `(tactic| wtm_at "d.le") => `(tactic| first | exact Le.nil | (apply Le.same; wtm_at "d.le") | (apply Le.lose; wtm_at "d.le"))
local macro_rules | `(tactic| wtm_at "d.isL") => `(tactic| first | exact IsL.val | exact IsL.cell rfl | assumption)
local macro_rules | `(tactic| wtm_at "d.isQ") => `(tactic| first | exact IsQ.t | exact IsQ.l IsL.val | exact IsQ.l (IsL.cell rfl))
local macro_rules | `(tactic| wtm_at "d.isD") => `(tactic| first | exact IsD.val | exact IsD.cell rfl | assumption)
local macro_rules | `(tactic| wtm_at "d.isDat") => `(tactic| first | exact IsDat.val | exact IsDat.cell rfl rfl | assumption)
local macro_rules | `(tactic| wtm_at "d.flat") => `(tactic| first | rfl | exact flat_map _ | exact flat_svK _ | exact all_flat1 (flat_map _) | exact all_flat1 (flat_svK _) | assumption | (simp [CC.flat, SV.isVal]; done))
local macro_rules | `(tactic| wtm_at "d.sel") => `(tactic| first | exact Sel.nil | (refine' Sel.cons rfl (by wtm_at "d.flat") (by intro z; cases z) ?t; (case t => wtm_at "d.sel")))
local macro_rules | `(tactic| wtm_at "d.ren") => `(tactic| first | exact RenA.nil | (apply RenA.val; wtm_at "d.ren") | (refine' RenA.cell rfl ?t; (case t => wtm_at "d.ren")))
local macro_rules | `(tactic| wtm_at "d.setA") => `(tactic| first | exact SetA.nil | (refine' SetA.cons ?h ?t; (case h => wtm_at "d.putC"); (case t => wtm_at "d.setA")))
local macro_rules | `(tactic| wtm_at "d.args") => `(tactic| first | exact av_nil | (refine' av_cons ?h ?t; (case h => wtm_at "d.ev"); (case t => wtm_at "d.args")))
local macro_rules | `(tactic| wtm_at "d.argsD") => `(tactic| first | exact ad_nil | (refine' ad_cons ?h ?t; (case h => wtm_at "d.ev"); (case t => wtm_at "d.argsD")))
local macro_rules | `(tactic| wtm_at "d.argsC") => `(tactic| first | exact av_nil | (refine' av_cons ?h ?t; (case h => first | wtm_at "d.evC" | wtm_at "d.ev"); (case t => wtm_at "d.argsC")))
local macro_rules | `(tactic| wtm_at "d.side") => `(tactic| first | with_reducible assumption | omega | decide | rfl)
local macro_rules | `(tactic| wtm_at "d.mul") => `(tactic| first | with_reducible assumption | exact small_mul (by omega) (by omega) | exact bd_mul_small (by assumption) (by omega) | exact bd_mul_small (Deal.bd _) (by omega) | exact small_mul (by decide) (by decide))
local macro_rules | `(tactic| wtm_at "d.div") => `(tactic| exact small_div (by omega) (by omega))
local macro_rules | `(tactic| wtm_at "d.pow") => `(tactic| exact ⟨by decide, by decide, by decide⟩)
local macro_rules | `(tactic| wtm_at "d.at") => `(tactic| first | with_reducible assumption | exact at_if | rfl | exact at_zero | (apply atI_nat; assumption))
local macro_rules | `(tactic| wtm_at "d.lt") => `(tactic| first | rfl | (simp [CC.lt, SV.lt]; done))
local macro_rules | `(tactic| wtm_at "d.ret") => `(tactic| first
  | (refine RetOk.val ?_ rfl ?_; (exact ⟨_, rfl⟩); wtm_at "d.lt")
  | (refine RetOk.frz ?_ rfl ?_ ?_ rfl ?_; (exact Nat.le_of_ble_eq_true rfl); (first | rfl | (simp [CC.data, svData_map, kvData_map]; done)); (exact ⟨_, rfl⟩); wtm_at "d.lt")
  | (refine RetOk.new ?_ rfl ?_ ?_ ?_ rfl ?_; (exact Nat.le_of_ble_eq_true rfl); (first | rfl | (simp [CC.flat, SV.isVal]; done)); (intro z; cases z); (exact ⟨_, rfl⟩); wtm_at "d.lt"))
local macro_rules | `(tactic| wtm_at "d.dget") => `(tactic| (refine' ev_dget (by assumption) ?ha ?hb ?hd ?hk ?hl; (case ha => wtm_at "d.ev"); (case hb => wtm_at "d.ev"); (case hd => wtm_at "d.isD"); (case hk => constructor); (case hl => first | assumption | rfl)))
local macro_rules | `(tactic| wtm_at "d.dg2") => `(tactic| first | assumption | rfl)
local macro_rules | `(tactic| wtm_at "d.dget2") => `(tactic| (refine' ev_dget2 (by assumption) ?hf ?ha ?hb ?hd1 ?hd ?hk ?hl; (case ha => wtm_at "d.ev"); (case hb => wtm_at "d.ev"); (case hf => wtm_at "d.ev"); (case hd1 => exact ⟨_, by wtm_at "d.isD"⟩); (case hd => wtm_at "d.isD"); (case hk => constructor); (case hl => wtm_at "d.dg2")))
local macro_rules | `(tactic| wtm_at "d.two") => `(tactic| ((case ha => wtm_at "d.ev"); (case hb => wtm_at "d.ev")))
local macro_rules | `(tactic| wtm_at "d.nelist") => `(tactic| (refine' tv_neD (by assumption) ?ha ?hb ?hd ?he ?sd ?se; (case ha => wtm_at "d.ev"); (case hb => wtm_at "d.ev"); (case hd => wtm_at "d.isDat"); (case he => wtm_at "d.isDat"); (case sd => assumption); (case se => assumption)))
local macro_rules | `(tactic| wtm_at "d.eqDD") => `(tactic| first
  | (refine' tv_eqDD (by assumption) ?ha ?hb ?hd ?he ?hf ?nd; (case ha => wtm_at "d.ev"); (case hb => wtm_at "d.ev"); (case hd => wtm_at "d.isD"); (case he => wtm_at "d.isD"); (case hf => assumption); (case nd => assumption))
  | (refine' tv_neDD (by assumption) ?ha ?hb ?hd ?he ?hf ?nd; (case ha => wtm_at "d.ev"); (case hb => wtm_at "d.ev"); (case hd => wtm_at "d.isD"); (case he => wtm_at "d.isD"); (case hf => assumption); (case nd => assumption)))
local macro_rules | `(tactic| wtm_at "d.eqD") => `(tactic| first
  | (refine' ev_eqDD (by assumption) ?ha ?hb ?hd ?he ?hf ?nd; (case ha => wtm_at "d.ev"); (case hb => wtm_at "d.ev"); (case hd => wtm_at "d.isD"); (case he => wtm_at "d.isD"); (case hf => assumption); (case nd => assumption))
  | (refine' ev_eqD (by assumption) ?ha ?hb ?hd ?he ?sd ?se; (case ha => wtm_at "d.ev"); (case hb => wtm_at "d.ev"); (case hd => wtm_at "d.isDat"); (case he => wtm_at "d.isDat"); (case sd => first | rfl | assumption); (case se => first | rfl | assumption)))
local macro_rules | `(tactic| wtm_at "d.catL") => `(tactic| (refine' ev_catL ?ha ?hb ?hl ?hm ?hz; (case ha => wtm_at "d.ev"); (case hb => wtm_at "d.ev"); (case hl => wtm_at "d.isL"); (case hm => wtm_at "d.isL"); (case hz => first | assumption | decide)))
local macro_rules | `(tactic| wtm_at "d.slF") => `(tactic| (refine' ev_slFrom (k := 1) ?ha ?hb ?hl _; (case ha => wtm_at "d.ev"); (case hb => wtm_at "d.ev"); (case hl => wtm_at "d.isL")))
local macro_rules | `(tactic| wtm_at "d.tv") => `(tactic| first
  | (refine' tv_w ?h; (case h => wtm_at "d.wv"))
  | (refine' tv_not ?h; (case h => wtm_at "d.tv"))
  | (refine' tv_lt ?ha ?hb; (case ha => wtm_at "d.ev"); (case hb => wtm_at "d.ev")) | (refine' tv_le ?ha ?hb; (case ha => wtm_at "d.ev"); (case hb => wtm_at "d.ev")) | (refine' tv_gt ?ha ?hb; (case ha => wtm_at "d.ev"); (case hb => wtm_at "d.ev")) | (refine' tv_ge ?ha ?hb; (case ha => wtm_at "d.ev"); (case hb => wtm_at "d.ev"))
  | (refine' tv_eqI ?ha ?hb; (case ha => wtm_at "d.ev"); (case hb => wtm_at "d.ev")) | (refine' tv_eqS ?ha ?hb; (case ha => wtm_at "d.ev"); (case hb => wtm_at "d.ev")) | (refine' tv_neI ?ha ?hb; (case ha => wtm_at "d.ev"); (case hb => wtm_at "d.ev")) | (refine' tv_neS ?ha ?hb; (case ha => wtm_at "d.ev"); (case hb => wtm_at "d.ev"))
  | (refine' tv_isN ?ha ?hb; (case ha => wtm_at "d.ev"); (case hb => wtm_at "d.ev")) | (refine' tv_notN ?ha ?hb; (case ha => wtm_at "d.ev"); (case hb => wtm_at "d.ev"))
  | (refine' tv_din (by assumption) ?ha ?hb ?hd ?hk; (case ha => wtm_at "d.ev"); (case hb => wtm_at "d.ev"); (case hd => wtm_at "d.isD"); (case hk => constructor))
  | (refine' tv_dnin (by assumption) ?ha ?hb ?hd ?hk; (case ha => wtm_at "d.ev"); (case hb => wtm_at "d.ev"); (case hd => wtm_at "d.isD"); (case hk => constructor))
  | wtm_at "d.nelist"
  | (refine' tv_isnotB ?ha ?hb; (case ha => wtm_at "d.ev"); (case hb => wtm_at "d.ev"))
  | wtm_at "d.eqDD"
  | (refine' tv_neDF (by assumption) ?ha ?hb ?hd ?he ?hf ?nd; (case ha => wtm_at "d.ev"); (case hb => wtm_at "d.ev"); (case hd => wtm_at "d.isD"); (case he => wtm_at "d.isD"); (case hf => assumption); (case nd => assumption))
  | (refine' tv_val ?h; (case h => wtm_at "d.ev")))
local macro_rules | `(tactic| wtm_at "d.wv") => `(tactic| first
  | (refine' wv_and1 ?h; (case h => wtm_at "d.tv")) | (refine' wv_or1 ?h; (case h => wtm_at "d.tv"))
  | (refine' wv_and ?h (fun hk => ?t); (case h => wtm_at "d.tv"); (case t => wtm_at "d.wv"))
  | (refine' wv_or ?h (fun hk => ?t); (case h => wtm_at "d.tv"); (case t => wtm_at "d.wv"))
  | (refine' wv_or0 ?h ?t; (case h => wtm_at "d.tv"); (case t => wtm_at "d.wv"))
  | (refine' wv_and0 ?h ?t; (case h => wtm_at "d.tv"); (case t => wtm_at "d.wv")))
local macro_rules | `(tactic| wtm_at "d.ev") => `(tactic| first
  | exact ev_int | exact ev_str | exact ev_bool | exact ev_none
  | (refine' ev_name (by assumption) rfl ?h ?hi; (case h => wtm_at "d.lk"); (case hi => exact rfl))
  | (refine' ev_nameV (by assumption) rfl ?h; (case h => wtm_at "d.lk"))
  | (refine' ev_add ?ha ?hb; (case ha => wtm_at "d.ev"); (case hb => wtm_at "d.ev"))
  | (refine' ev_sub ?ha ?hb; (case ha => wtm_at "d.ev"); (case hb => wtm_at "d.ev"))
  | (refine' ev_mul ?ha ?hb ?hc; (case ha => wtm_at "d.ev"); (case hb => wtm_at "d.ev"); (case hc => wtm_at "d.mul"))
  | (refine' ev_mod ?ha ?hb ?hc; (case ha => wtm_at "d.ev"); (case hb => wtm_at "d.ev"); (case hc => wtm_at "d.side"))
  | (refine' ev_div ?ha ?hb ?hc; (case ha => wtm_at "d.ev"); (case hb => wtm_at "d.ev"); (case hc => wtm_at "d.div"))
  | (refine' ev_pow ?ha ?hb ?hc; (case ha => wtm_at "d.ev"); (case hb => wtm_at "d.ev"); (case hc => wtm_at "d.pow"))
  | (refine' ev_neg ?ha; (case ha => wtm_at "d.ev"))
  | (refine' ev_lt ?ha ?hb; (case ha => wtm_at "d.ev"); (case hb => wtm_at "d.ev")) | (refine' ev_le ?ha ?hb; (case ha => wtm_at "d.ev"); (case hb => wtm_at "d.ev")) | (refine' ev_gt ?ha ?hb; (case ha => wtm_at "d.ev"); (case hb => wtm_at "d.ev")) | (refine' ev_ge ?ha ?hb; (case ha => wtm_at "d.ev"); (case hb => wtm_at "d.ev"))
  | (refine' ev_eqI ?ha ?hb; (case ha => wtm_at "d.ev"); (case hb => wtm_at "d.ev")) | (refine' ev_eqS ?ha ?hb; (case ha => wtm_at "d.ev"); (case hb => wtm_at "d.ev")) | (refine' ev_neI ?ha ?hb; (case ha => wtm_at "d.ev"); (case hb => wtm_at "d.ev")) | (refine' ev_neS ?ha ?hb; (case ha => wtm_at "d.ev"); (case hb => wtm_at "d.ev"))
  | (refine' ev_isN ?ha ?hb; (case ha => wtm_at "d.ev"); (case hb => wtm_at "d.ev")) | (refine' ev_notN ?ha ?hb; (case ha => wtm_at "d.ev"); (case hb => wtm_at "d.ev"))
  | (refine' ev_not ?ha; (case ha => wtm_at "d.ev"))
  | (refine' ev_tup ?ha ?hz; (case ha => wtm_at "d.argsD"); (case hz => exact rfl))
  | (refine' ev_lstV ?ha ?hz; (case ha => wtm_at "d.argsD"); (case hz => exact rfl))
  | (refine' ev_ixT ?ha ?hb ?hi; (case ha => wtm_at "d.ev"); (case hb => wtm_at "d.ev"); (case hi => wtm_at "d.at"))
  | (refine' ev_ixLv ?ha ?hb ?hi; (case ha => wtm_at "d.ev"); (case hb => wtm_at "d.ev"); (case hi => wtm_at "d.at"))
  | (refine' ev_ixL ?ha ?hb ?hl ?hi; (case ha => wtm_at "d.ev"); (case hb => wtm_at "d.ev"); (case hl => wtm_at "d.isL"); (case hi => wtm_at "d.at"))
  | wtm_at "d.dget"
  | wtm_at "d.dget2"
  | exact ev_dict0V
  | (refine' ev_dictDV (by assumption) rfl ?ha ?hl; (case ha => wtm_at "d.ev"); (case hl => wtm_at "d.isD"))
  | (refine' ev_len (by assumption) rfl ?ha ?hr; (case ha => wtm_at "d.ev"); (case hr => first | exact rc_lenT | exact rc_lenLv | exact rc_lenL (IsL.cell rfl)))
  | (refine' ev_tupleL (by assumption) rfl ?ha ?hl; (case ha => wtm_at "d.ev"); (case hl => wtm_at "d.isL"))
  | (refine' ev_tupleT (by assumption) rfl ?ha; (case ha => wtm_at "d.ev"))
  | (refine' ev_max2 rfl (by assumption) rfl ?ha ?hb; (case ha => wtm_at "d.ev"); (case hb => wtm_at "d.ev")) | (refine' ev_min2 rfl (by assumption) rfl ?ha ?hb; (case ha => wtm_at "d.ev"); (case hb => wtm_at "d.ev"))
  | (refine' ev_intB (by assumption) rfl ?ha; (case ha => wtm_at "d.ev"))
  | (refine' ev_isTup (by assumption) rfl ?ha (by assumption) rfl; (case ha => wtm_at "d.ev")) | (refine' ev_isInt (by assumption) rfl ?ha (by assumption) rfl; (case ha => wtm_at "d.ev")) | (refine' ev_isBool (by assumption) rfl ?ha (by assumption) rfl; (case ha => wtm_at "d.ev")) | (refine' ev_isStr (by assumption) rfl ?ha (by assumption) rfl; (case ha => wtm_at "d.ev")) | (refine' ev_isLst (by assumption) rfl ?ha (by assumption) rfl; (case ha => wtm_at "d.ev"))
  | (refine' ev_glo (by assumption) rfl)
  | wtm_at "d.eqD"
  | wtm_at "d.catL"
  | wtm_at "d.slF"
  | (refine' ev_sortedI (by assumption) rfl ?ha ?hl; (case ha => wtm_at "d.ev"); (case hl => first | assumption | wtm_at "d.isL"))
  | (refine' ev_and1 ?ha; (case ha => wtm_at "d.ev"))
  | (refine' ev_and ?ha ?hb; (case ha => wtm_at "d.ev"); (case hb => intro _; wtm_at "d.ev"))
  | (refine' ev_or ?ha ?hb; (case ha => wtm_at "d.ev"); (case hb => intro _; wtm_at "d.ev"))
  | (refine' ev_and0 ?ha ?hb; (case ha => wtm_at "d.ev"); (case hb => wtm_at "d.ev"))
  | (refine' ev_or0 ?ha ?hb; (case ha => wtm_at "d.ev"); (case hb => wtm_at "d.ev"))
  | (refine' ev_append ?ha ?hb ?hc ?hd ?hp ?hz; (case ha => wtm_at "d.ev"); (case hb => wtm_at "d.ev"); (case hc => exact rfl); (case hd => exact rfl); (case hp => wtm_at "d.putC"); (case hz => wtm_at "d.side"))
  | (refine' ev_listRg1 rfl (by assumption) rfl (by assumption) rfl ?ha ?ho ?hq; (case ha => wtm_at "d.ev"); (case ho => wtm_at "d.side"); (case hq => wtm_at "d.side"))
  | (refine' ev_listRg2 rfl (by assumption) rfl (by assumption) rfl ?ha ?hb ?ho ?hq; (case ha => wtm_at "d.ev"); (case hb => wtm_at "d.ev"); (case ho => wtm_at "d.side"); (case hq => wtm_at "d.side"))
  | (refine' ev_reverse ?ha ?hc ?hp; (case ha => wtm_at "d.ev"); (case hc => exact rfl); (case hp => wtm_at "d.putC"))
  | (refine' ev_sortedP (by assumption) rfl ?ha ?hl; (case ha => wtm_at "d.ev"); (case hl => wtm_at "d.isL"))
  | wtm_at "d.call")
/-- what makes a new cell -/
local macro_rules | `(tactic| wtm_at "d.evC") => `(tactic| first
  | (refine' ev_lstC ?ha ?hac ?hz; (case ha => wtm_at "d.args"); (case hac => wtm_at "d.appC"); (case hz => exact rfl))
  | (refine' ev_dict0 ?hac; (case hac => wtm_at "d.appC"))
  | (refine' ev_listC (by assumption) rfl ?ha ?hl ?hac; (case ha => wtm_at "d.ev"); (case hl => wtm_at "d.isQ"); (case hac => wtm_at "d.appC"))
  | (refine' ev_dictP rfl (by assumption) rfl ?ha ?hl ?hac; (case ha => wtm_at "d.ev"); (case hl => wtm_at "d.isL"); (case hac => wtm_at "d.appC"))
  | wtm_at "d.callC")
local macro_rules | `(tactic| wtm_at "d.setC") => `(tactic| (refine' s1_set (by assumption) rfl ?h ?p ?q ?hi; (case h => wtm_at "d.evC"); (case p => wtm_at "d.put"); (case hi => exact rfl); show SX _ _ _ _ _ _))
local macro_rules | `(tactic| wtm_at "d.returnC") => `(tactic| (refine' s1_ret ?h ?q; (case h => wtm_at "d.evC"); show RetOk _ _ _ _ _))
local macro_rules | `(tactic| wtm_at "d.stC") => `(tactic| (refine' sx_cons ?s; first | wtm_at "d.setC" | wtm_at "d.returnC"))
/-- statements without branches -/
local macro_rules | `(tactic| wtm_at "d.set") => `(tactic| (refine' s1_set (by assumption) rfl ?h ?p ?q ?hi; (case h => wtm_at "d.ev"); (case p => wtm_at "d.put"); (case hi => exact rfl); show SX _ _ _ _ _ _))
local macro_rules | `(tactic| wtm_at "d.return") => `(tactic| (refine' s1_ret ?h ?q; (case h => wtm_at "d.ev"); show RetOk _ _ _ _ _))
local macro_rules | `(tactic| wtm_at "d.expr") => `(tactic| (refine' s1_expr ?h ?q; (case h => wtm_at "d.ev"); show SX _ _ _ _ _ _))
local macro_rules | `(tactic| wtm_at "d.lput") => `(tactic| (refine' s1_lput ?hv ?ho ?hi ?hc ?hj ?p ?q; (case hv => wtm_at "d.ev"); (case ho => wtm_at "d.ev"); (case hi => wtm_at "d.ev"); (case hc => exact rfl); (case hj => exact rfl); (case p => wtm_at "d.putC"); show SX _ _ _ _ _ _))
local macro_rules | `(tactic| wtm_at "d.dput") => `(tactic| (refine' s1_dput (by assumption) ?hv ?ho ?hi ?hc ?hk ?hz ?nd ?p ?q; (case hv => wtm_at "d.ev"); (case ho => wtm_at "d.ev"); (case hi => wtm_at "d.ev"); (case hc => exact rfl); (case hk => constructor); (case hz => wtm_at "d.side"); (case nd => assumption); (case p => wtm_at "d.putC"); show SX _ _ _ _ _ _))
local macro_rules | `(tactic| wtm_at "d.st") => `(tactic| (refine' sx_cons ?s; first | wtm_at "d.set" | wtm_at "d.return" | wtm_at "d.expr" | wtm_at "d.lput" | wtm_at "d.dput"))
local macro_rules | `(tactic| wtm_at "d.if") => `(tactic| (refine' sx_cons ?s; refine' s1_if ?h ?y ?n; (case h => wtm_at "d.tv")))
local macro_rules | `(tactic| wtm_at "d.lv") => `(tactic| first | decide | omega)
/-- a, b = .. -/
local macro_rules | `(tactic| wtm_at "d.gxs") => `(tactic| first
  | (refine' gxs_cons (gx_name (by assumption) rfl ?p ?r ?i) ?hs; (case p => wtm_at "d.put"); (case i => exact rfl); (case hs => exact rfl); wtm_at "d.gxs")
  | refine' gxs_nil ?bd)
local macro_rules | `(tactic| wtm_at "d.unp") => `(tactic| (refine' sx_cons ?s; refine' s1_asg ?h ?g; (case h => wtm_at "d.ev"); (first | refine' gx_lst rfl IsL.val ?u rfl | refine' gx_tup rfl ?u rfl); wtm_at "d.gxs"; show SX _ _ _ _ _ _))
local macro_rules | `(tactic| wtm_at "g.len") => `(tactic| simp only [List.length_append, List.length_cons, List.length_nil, List.length_map, List.length_range, List.length_reverse, List.length_drop, List.length_take, List.length_set, List.length_replicate])
local macro_rules | `(tactic| wtm_at "g.lenA") => `(tactic| simp only [List.length_append, List.length_cons, List.length_nil, List.length_map, List.length_range, List.length_reverse, List.length_drop, List.length_take, List.length_set, List.length_replicate] at *)
local macro_rules | `(tactic| wtm_at "g.sd") => `(tactic| first | with_reducible assumption | omega | decide | (split <;> omega) | (wtm_at "g.len"; omega) | (wtm_at "g.lenA"; omega) | (subst_vars; first | with_reducible assumption | omega | (wtm_at "g.len"; omega) | (wtm_at "g.lenA"; omega)))
local macro_rules | `(tactic| wtm_at "g.pre") => `(tactic| wtm_at "g.sd")
local macro_rules | `(tactic| wtm_at "g.nd") => `(tactic| first | with_reducible assumption | exact List.Pairwise.nil | (refine putSt_nd _ _ _ ?_; wtm_at "g.nd") | (refine putI_nd _ _ _ ?_; wtm_at "g.nd") | (subst_vars; with_reducible assumption))
local macro_rules | `(tactic| wtm_at "g.str") => `(tactic| first | with_reducible assumption | omega | decide | (subst_vars; omega) | (subst_vars; decide))
local macro_rules | `(tactic| wtm_at "g.ixs") => `(tactic| first | with_reducible assumption | omega | (refine ⟨by omega, Int.lt_of_lt_of_le (b := 4) (by omega) (by decide)⟩))
local macro_rules | `(tactic| wtm_at "g.inv") => `(tactic| first | wtm_at "g.sd" | wtm_at "g.nd" | (refine ⟨?_, ?_⟩ <;> wtm_at "g.inv"))
local macro_rules | `(tactic| wtm_at "g.flat") => `(tactic| first | rfl | exact all_flat1 (flat_map _) | exact all_flat1 (flat_svK _) | (simp only [List.all_cons, List.all_nil, flat_svK, flat_map, Bool.and_self, Bool.and_true]; done) | (simp [CC.flat, SV.isVal]; done))
local macro_rules | `(tactic| wtm_at "g.data") => `(tactic| first | rfl | exact data_map _ | exact data_svK _ | (simp [CC.data, svData_map, kvData_map]; done))
local macro_rules | `(tactic| wtm_at "g.okS") => `(tactic| first | rfl | (simp [okS, SV.lt]; done))
local macro_rules | `(tactic| wtm_at "g.key") => `(tactic| first | with_reducible assumption | (subst_vars; with_reducible assumption))
local macro_rules | `(tactic| wtm_at "g.same") => `(tactic| first | rfl | (subst_vars; rfl))
local macro_rules | `(tactic| wtm_at "d.lt") => `(tactic| first | rfl | (simp only [List.all_cons, List.all_nil, lt_svK, lt_map, Bool.and_true, Bool.true_and]; first | done | rfl) | (simp [CC.lt, SV.lt]; done))
local macro_rules | `(tactic| wtm_at "g.some") => `(tactic| first | with_reducible assumption | exact some_of (by assumption) | (subst_vars; first | with_reducible assumption | exact some_of (by assumption)))
local macro_rules | `(tactic| wtm_at "g.wj") => `(tactic| (refine ⟨?_, ?_⟩ <;> wtm_at "g.inv"))
local macro_rules | `(tactic| wtm_at "g.shp") => `(tactic| first | exact dk_shaped (n := 0) rfl (by decide) | exact dk_shaped (n := 1) rfl (by decide) | exact dk_shaped (n := 0) (by assumption) (by decide) | exact dk_shaped (n := 1) (by decide) (by decide) | exact dk_shaped (n := 1) (by decide +kernel) (by decide))
local macro_rules | `(tactic| wtm_at "g.cj") => `(tactic| first | trivial | (intros; dsimp only at *; wtm_at "g.inv") | wtm_at "g.inv")
theorem gD_rows {f : Str} : ∀ (l : List (Nat × Fst)) {k : Nat} {s : List Row × List DutyT}, s.1.length ≤ k → (∀ d ∈ s.2, d.2.2.2.2.1.length ≤ k) → (l.foldl (gD f) s).1.length ≤ k + l.length ∧ ∀ d ∈ (l.foldl (gD f) s).2, d.2.2.2.2.1.length ≤ k + l.length
  | [], k, s, h1, h2 => ⟨h1, h2⟩
  | q :: l, k, s, h1, h2 => by
    have hs : (gD f s q).1.length ≤ k + 1 ∧ ∀ d ∈ (gD f s q).2, d.2.2.2.2.1.length ≤ k + 1 := by
      obtain ⟨i, z⟩ := q
      obtain ⟨w, met⟩ := s
      have h1 : w.length ≤ k := h1
      have h2 : ∀ d ∈ met, d.2.2.2.2.1.length ≤ k := h2
      have h3 : ∀ d ∈ met, d.2.2.2.2.1.length ≤ k + 1 := fun d hd => Nat.le_succ_of_le (h2 d hd)
      have h4 : ∀ r : Row, (w ++ [r]).length ≤ k + 1 := fun r => by rw [List.length_append]; exact Nat.succ_le_succ h1
      cases z with
      | set x t c => exact ⟨h4 _, h3⟩
      | put r p t c => exact ⟨h4 _, h3⟩
      | any x => exact ⟨h4 _, h3⟩
      | claim c => exact ⟨Nat.le_succ_of_le h1, fa_app h3 (fa_cons (Nat.le_succ_of_le h1) fa_nil)⟩
    have := gD_rows (f := f) l hs.1 hs.2
    rw [List.foldl_cons, List.length_cons]
    exact ⟨by omega, fun d hd => by have := this.2 d hd; omega⟩
theorem due_rows {p : PrcT} {pool : List Str} (hk : PrcOk p) (hw : (way0 p pool).length ≤ 290) : ∀ d ∈ m_law_due p pool, d.2.2.2.2.1.length ≤ 330 := by
  rw [due_is]
  have h := gD_rows (f := p.2.1) (enumL p.2.2.2.2.2.2) (k := 290) (s := (way0 p pool, [])) hw fun d hd => absurd hd (by simp)
  rw [enumL_len] at h
  have hb := hk.b
  exact fa_app (fun d hd => by have := h.2 d hd; omega) (fa_map (p := fun d : DutyT => d.2.2.2.2.1.length ≤ 330) fun q hq => by
    show ((enumL p.2.2.2.2.2.2).foldl (gD p.2.1) (way0 p pool, [])).1.length ≤ 330
    have := h.1
    omega)
section
variable {X : Cx} {na : NA} {sl : Sl} {cs cs1 cs2 : Cs} {s : SV} {pos : Pos}
/-- a and b: a is true, b makes new cells -/
theorem ev_andY {a b : Expr} {rest : List Expr} (ha : EV X na a sl cs (.val (.bool true)) cs1) (hb : EV X na (.BoolOp .And (b :: rest) pos) sl cs1 s cs2) : EV X na (.BoolOp .And (a :: b :: rest) pos) sl cs s cs2 :=
  ev_of (pe_and pe_any pe_any) fun B G ps σ H hn C S Q q => ha B G ps σ H hn C S _ fun v G1 ps1 H1 C1 u1 r1 => by
    cases (r1 : Rep _ _ _ _)
    exact ⟨true, rfl, hb B G1 ps1 σ H1 hn C1 (Slots.mono u1 S) Q fun v G2 ps2 H2 C2 u2 => q v G2 ps2 H2 C2 (u1.trans u2)⟩
end
section
variable {P : Program} {w : World} {K : PySem.W.Frag} {mg : Str → Option Value} {base : Heap}
inductive SpLaw : Spec
  | mk {S : Scr} : SpLaw [.val S.D] [] (.val (.bool true)) []
theorem fn_law {f : Addr} {fd : FuncData} (F : Fun K "law" "law" s_law f fd) (C_law_words : Cal P w K mg base 2 "_law_words" 3 Sp_law_words) (C_law_proc : Cal P w K mg base 6 "_law_proc" 2 Sp_law_proc) (C_law_due : Cal P w K mg base 10 "_law_due" 2 Sp_law_due) (C_duties1 : Cal P w K mg base 9 "duties" 1 Sp_duties1) (C_duties0 : Cal P w K mg base 9 "duties" 1 Sp_duties0) (z_len : mg "len" = none) (z_range : mg "range" = none) (z_isinstance : mg "isinstance" = none) (z_list : mg "list" = none) (z_tuple : mg "tuple" = none) : FnOk P w K mg base CX0 11 f fd P_law (spM K 1 SpLaw) := by
  refine fn_def F sc_law tb_law (fun f cdv A outer s0 H E hr T TL svs cs sv cs1 hsp hl => ?_)
  cases hsp with
  | @mk S_0 =>
  have hSl := S_0.len
  obtain ⟨r_1, er_1⟩ : ∃ r, m_law_words S_0 5 8 = r := ⟨_, rfl⟩
  have hW : WsOk r_1 := by rw [← er_1]; exact words_ok S_0 5 8 (by decide)
  have hW1 := hW.1
  obtain ⟨p_2, ep_2⟩ : ∃ r, m_law_proc S_0 r_1 = r := ⟨_, rfl⟩
  have hG : Good61 p_2 (poolW r_1) := by rw [← ep_2]; exact good61 S_0 hW
  obtain ⟨ds, eds⟩ : ∃ r, m_law_due p_2 (poolW r_1) = r := ⟨_, rfl⟩
  have hfit := hG.fit
  have hlen := hG.len
  have heq := hG.eq
  rw [eds] at hfit hlen heq
  have hrows : ∀ d ∈ ds, d.2.2.2.2.1.length ≤ 330 := by
    rw [← eds]
    exact due_rows hG.ok hG.fl
  have at6 : L2.atI (r_1.map PyData.str) 6 = some (.str (ixD r_1 6)) := at_ixD (f := PyData.str) (by omega) (by omega)
  show SX _ _ _ [some (.val (Scr.D S_0)), none, none, none, none, none] [] _
  refine sx_cons (s1_set TL rfl (ev_as (t := .val (.list (r_1.map PyData.str))) (cs2 := []) (ev_callM (κ := []) C_law_words hr (by first | decide | omega) rfl (av_cons (ev_name T rfl Lk.here rfl) (av_cons ev_int (av_cons ev_int av_nil))) Sel.nil (RenA.val (RenA.val (RenA.val RenA.nil))) (Sp_law_words.mk (script_0 := S_0) (start_0 := 5) (many_0 := 8) (by omega) (by omega)) SetA.nil (List.prefix_refl _) rfl (by decide) rfl) (by subst er_1; rfl) (by subst er_1; rfl)) (Put.there Put.here) ?_ rfl)
  show SX _ _ _ _ _ _
  refine sx_cons (s1_set TL rfl (ev_as (t := .val (prcD p_2)) (cs2 := []) (ev_callM (κ := []) C_law_proc hr (by first | decide | omega) rfl (av_cons (ev_name T rfl Lk.here rfl) (av_cons (ev_name T rfl (Lk.there Lk.here) rfl) av_nil)) Sel.nil (RenA.val (RenA.val RenA.nil)) (Sp_law_proc.mk (script_0 := S_0) (words_here_0 := r_1) hW1) SetA.nil (List.prefix_refl _) rfl (by decide) rfl) (by subst ep_2; rfl) (by subst ep_2; rfl)) (Put.there (Put.there Put.here)) ?_ rfl)
  show SX _ _ _ _ _ _
  have hz2 : ((r_1.drop 1).take (6 - 1)).length + ([("out" : Str)] : (List Str)).length ≤ 1000000 := by
    rw [List.length_take, List.length_drop]
    show _ + 1 ≤ _
    omega
  refine sx_cons (s1_set TL rfl (ev_as (t := .val (.list (ds.map e_tup_str_str_tupl_int_int_lst_Row_Clm))) (cs2 := []) (ev_callM (κ := []) C_law_due hr (by first | decide | omega) rfl (av_cons (ev_name T rfl (Lk.there (Lk.there Lk.here)) rfl) (av_cons (ev_is (t := .val (.list ((poolW r_1).map PyData.str))) (ev_catL (ds := ((r_1.drop 1).take (6 - 1)).map PyData.str) (es := ([("out" : Str)] : (List Str)).map PyData.str) (ev_is (t := .val (.list (((r_1.drop 1).take (6 - 1)).map PyData.str))) (ev_slFT (k := 1) (m := 6) (ds := r_1.map PyData.str) (ev_name T rfl (Lk.there Lk.here) rfl) ev_int ev_int IsL.val) (by rw [List.map_take, List.map_drop])) (ev_lstV (ad_cons ev_str ad_nil) rfl) IsL.val IsL.val (by simpa only [List.length_map] using hz2)) (by rw [← List.map_append])) av_nil)) Sel.nil (RenA.val (RenA.val RenA.nil)) (Sp_law_due.mk (proc_here_0 := p_2) (names_0 := poolW r_1) hG.ok hG.uo hG.ps) SetA.nil (List.prefix_refl _) rfl (by decide) rfl) (by subst eds; rfl) (by subst eds; rfl)) (Put.there (Put.there (Put.there Put.here))) ?_ rfl)
  show SX _ _ _ [some (.val (Scr.D S_0)), some (.val (.list (r_1.map PyData.str))), some (.val (prcD p_2)), some (.val (.list (ds.map e_tup_str_str_tupl_int_int_lst_Row_Clm))), none, none] [] _
  obtain ⟨es, ees⟩ : ∃ r, ds.map dq = r := ⟨_, rfl⟩
  have hel : es.length = ds.length := by rw [← ees, List.length_map]
  have hD : es.map D5.D = ds.map e_tup_str_str_tupl_int_int_lst_Row_Clm := by rw [← ees]; exact dqs_D ds
  obtain ⟨R, eR⟩ : ∃ r, refs 2 es = r := ⟨_, rfl⟩
  have hRl : R.length = es.length := by rw [← eR]; exact refs_len _ _
  have hrow : ∀ d ∈ es, d.2.2.1.length ≤ 1000000 := by
    rw [← ees]
    intro d hd
    obtain ⟨q, hq, rfl⟩ := List.mem_map.mp hd
    show (q.2.2.2.2.1.map Row.D).length ≤ 1000000
    rw [List.length_map]
    exact Nat.le_trans (hrows q hq) (by decide)
  have hC0 : dutC [] ds = lawC R es [] := by rw [dutC_nil, ees, eR]
  have shp : ∀ k, SeqAt.shaped (.list ((ds.drop k).map e_tup_str_str_tupl_int_int_lst_Row_Clm)) = true := fun k => dk_shaped (n := 7) (dk_dues fun d hd => hfit d (List.mem_of_mem_drop hd)) (by decide)
  have hdat : ∀ (i : Nat) (g h : Cs), i ≤ es.length → Paired (IsDat2 (lawC R (mutD (.tuple [.str ("lose" : Str), .str (ixD r_1 6)]) i es) g ++ h)) (R.drop i) ((ds.drop i).map e_tup_str_str_tupl_int_int_lst_Row_Clm) := fun i g h hi => by
    have h1 := refs_dat (lawC_stand R (mutD (.tuple [.str ("lose" : Str), .str (ixD r_1 6)]) i es) g h)
    rw [refs_of_len 2 _ es (mutD_len _ _ _), eR] at h1
    have h2 := pd_dropP i h1
    rw [← List.map_drop, mutD_drop hi, List.map_drop, hD, ← List.map_drop] at h2
    exact h2
  refine sx_cons (s1_set TL rfl (ev_as (t := .cell 0) (cs2 := lawC R es []) (ev_callI C_duties1 hr (by first | decide | omega) rfl (av_cons (ev_tup (ad_cons (ev_name T rfl (Lk.there (Lk.there Lk.here)) rfl) ad_nil) rfl) av_nil) (Sp_duties1.mk (cs := []) (p := p_2) hG.ok hG.ps) rfl) rfl (by rw [heq]; exact hC0)) (Put.there (Put.there (Put.there (Put.there Put.here)))) ?_ rfl)
  show SX _ _ _ [some (.val (Scr.D S_0)), some (.val (.list (r_1.map PyData.str))), some (.val (prcD p_2)), some (.val (.list (ds.map e_tup_str_str_tupl_int_int_lst_Row_Clm))), some (.cell 0), none] (lawC R es []) _
  have hdat0 : IsDat4 (lawC R es []) (.cell 0) (.list (ds.map e_tup_str_str_tupl_int_int_lst_Row_Clm)) := by
    have := hdat 0 [] [] (Nat.zero_le _)
    rw [List.append_nil] at this
    exact .lst rfl this
  have heqv : ∀ k, PyData.eqv (.list ((ds.drop k).map e_tup_str_str_tupl_int_int_lst_Row_Clm)) (.list ((ds.drop k).map e_tup_str_str_tupl_int_int_lst_Row_Clm)) = true := fun k => dk_refl (n := 7) (dk_dues fun d hd => hfit d (List.mem_of_mem_drop hd))
  have heqv0 : PyData.eqv (.list (ds.map e_tup_str_str_tupl_int_int_lst_Row_Clm)) (.list (ds.map e_tup_str_str_tupl_int_int_lst_Row_Clm)) = true := heqv 0
  refine sx_cons (s1_if (tv_w (wv_or (l := false) (tv_not (tv_val (ev_isiC (T' := "list") (ty := "list") (k := true) z_isinstance rfl (ev_name T rfl (Lk.there (Lk.there (Lk.there (Lk.there Lk.here)))) rfl) (Kind.cell rfl rfl) z_list rfl (by decide +kernel) (kit_ty (by decide +kernel))))) (fun _ => (by
    exact wv_or1 (tv_is (tv_neD4 hr (ev_name T rfl (Lk.there (Lk.there (Lk.there (Lk.there Lk.here)))) rfl) (ev_name T rfl (Lk.there (Lk.there (Lk.there Lk.here))) rfl) hdat0 (.base (.base .val)) (shp 0) (shp 0)) (congrArg not heqv0)))))) (fun z => absurd z (by decide)) (fun _ => ?_))
  refine sx_nil ?_
  show SX _ _ _ [some (.val (Scr.D S_0)), some (.val (.list (r_1.map PyData.str))), some (.val (prcD p_2)), some (.val (.list (ds.map e_tup_str_str_tupl_int_int_lst_Row_Clm))), some (.cell 0), none] (lawC R es []) _
  have hlenE : (R.length : Int) = ((es.length : Nat) : Int) := by rw [hRl]
  refine sx_cons (s1_forF PassesOwn.never rfl (iv_range1 (n := (R.length : Int)) z_range rfl (ev_len z_len rfl (ev_name T rfl (Lk.there (Lk.there (Lk.there (Lk.there Lk.here)))) rfl) (rc_lenL (IsL.cell rfl))) (by omega) (by omega)) (fun _ => [some (.val (Scr.D S_0)), some (.val (.list (r_1.map PyData.str))), some (.val (prcD p_2)), some (.val (.list (ds.map e_tup_str_str_tupl_int_int_lst_Row_Clm))), some (.cell 0), none]) (fun i => lawC R (mutD (.tuple [.str ("lose" : Str), .str (ixD r_1 6)]) i es) (gar R i)) (Le.refl _) rfl (fun _ _ => trivial) ?_ ?_)
  · intro i s hs
    have hi : i < es.length := by
      have := (List.getElem?_eq_some_iff.mp hs).1
      rw [List.length_map, List.length_range] at this
      omega
    have es' : s = .val (.int (i : Nat)) := by
      rw [List.getElem?_map, List.getElem?_range (by omega)] at hs
      cases hs
      rfl
    subst es'
    obtain ⟨a, d, b, ha, e1, e2, ed, eb⟩ := mutD_at (x := .tuple [.str ("lose" : Str), .str (ixD r_1 6)]) hi
    have hR : refs 2 (a ++ d :: b) = R := by rw [← eR]; exact refs_of_len _ _ _ (by rw [← e1, mutD_len])
    have hat : L2.atI R ((i : Nat) : Int) = some (.cell (2 + 3 * a.length + 2)) := atI_nat (by rw [← ha, ← hR]; exact ref_at 2 a b d)
    refine gx_name TL rfl (Put.there (Put.there (Put.there (Put.there (Put.there Put.here))))) ?_ rfl
    dsimp only
    rw [e1]
    show SX _ _ _ [some (.val (Scr.D S_0)), some (.val (.list (r_1.map PyData.str))), some (.val (prcD p_2)), some (.val (.list (ds.map e_tup_str_str_tupl_int_int_lst_Row_Clm))), some (.cell 0), some (.val (.int (i : Nat)))] (lawC R (a ++ d :: b) (gar R i)) _
    have hst := lawC_stand R (a ++ d :: b) (gar R i) []
    rw [List.append_nil] at hst
    obtain ⟨hat1, hat2⟩ := stand_at hst
    have h4 : L2.atI (d.1.map SV.val ++ [SV.val d.2.1, .cell (2 + 3 * a.length), .val d.2.2.2]) 4 = some (.cell (2 + 3 * a.length)) := by
      have : ∃ q, d = dq q := by
        have hm : d ∈ es := by rw [ed]; exact List.getElem_mem hi
        rw [← ees] at hm
        obtain ⟨q, _, rfl⟩ := List.mem_map.mp hm
        exact ⟨q, rfl⟩
      obtain ⟨q, rfl⟩ := this
      rfl
    refine sx_cons (s1_if (tv_w (wv_or (l := false) (tv_not (tv_val (ev_isiC (T' := "tuple") (ty := "tuple") (k := true) z_isinstance rfl (ev_ixL (ev_name T rfl (Lk.there (Lk.there (Lk.there (Lk.there Lk.here)))) rfl) (ev_name T rfl (Lk.there (Lk.there (Lk.there (Lk.there (Lk.there Lk.here))))) rfl) (IsL.cell rfl) hat) (Kind.cell hat2 rfl) z_tuple rfl (by decide +kernel) (kit_ty (by decide +kernel))))) (fun _ => (by
      exact wv_or1 (tv_is (k := !true) (tv_not (tv_val (ev_isiC (T' := "list") (ty := "list") (k := true) z_isinstance rfl (ev_ixC (ev_ixL (ev_name T rfl (Lk.there (Lk.there (Lk.there (Lk.there Lk.here)))) rfl) (ev_name T rfl (Lk.there (Lk.there (Lk.there (Lk.there (Lk.there Lk.here))))) rfl) (IsL.cell rfl) hat) ev_int hat2 h4) (Kind.cell hat1 rfl) z_list rfl (by decide +kernel) (kit_ty (by decide +kernel))))) rfl))))) (fun z => absurd z (by decide)) (fun _ => ?_))
    refine sx_nil ?_
    show SX _ _ _ [some (.val (Scr.D S_0)), some (.val (.list (r_1.map PyData.str))), some (.val (prcD p_2)), some (.val (.list (ds.map e_tup_str_str_tupl_int_int_lst_Row_Clm))), some (.cell 0), some (.val (.int (i : Nat)))] (lawC R (a ++ d :: b) (gar R i)) _
    refine sx_cons (s1_expr (ev_append (ev_ixC (ev_ixL (ev_name T rfl (Lk.there (Lk.there (Lk.there (Lk.there Lk.here)))) rfl) (ev_name T rfl (Lk.there (Lk.there (Lk.there (Lk.there (Lk.there Lk.here))))) rfl) (IsL.cell rfl) hat) ev_int hat2 h4) (ev_tup (ad_cons ev_str (ad_cons (ev_ixLv (ev_name T rfl (Lk.there Lk.here) rfl) ev_int at6) ad_nil)) rfl) hat1 hat1 (lawC_put R a d b (gar R i) _) (by rw [List.length_map]; exact hrow d (by rw [ed]; exact List.getElem_mem hi))) ?_)
    rw [← e2]
    show SX _ _ _ [some (.val (Scr.D S_0)), some (.val (.list (r_1.map PyData.str))), some (.val (prcD p_2)), some (.val (.list (ds.map e_tup_str_str_tupl_int_int_lst_Row_Clm))), some (.cell 0), some (.val (.int (i : Nat)))] (lawC R (mutD (.tuple [.str ("lose" : Str), .str (ixD r_1 6)]) (i + 1) es) (gar R i)) _
    obtain ⟨C, eC⟩ : ∃ C, lawC R (mutD (.tuple [.str ("lose" : Str), .str (ixD r_1 6)]) (i + 1) es) (gar R i) = C := ⟨_, rfl⟩
    have hC00 : C[0]? = some (.lst R) := by rw [← eC]; rfl
    have hti : (((i : Nat) : Int) + 1).toNat = i + 1 := by omega
    have ac : AppC C (.lst (R.drop (((i : Nat) : Int) + 1).toNat)) C.length (C ++ [.lst (R.drop (i + 1))]) := by rw [hti]; exact AppC.of _ _
    have hS : IsDat4 (C ++ [.lst (R.drop (i + 1))]) (.cell C.length) (.list ((ds.drop (i + 1)).map e_tup_str_str_tupl_int_int_lst_Row_Clm)) := .lst (snocAt _ _) (by rw [← eC]; exact hdat (i + 1) (gar R i) _ hi)
    rw [eC]
    refine sx_cons (s1_if (tv_is (l := false) (tv_neD4 hr (ev_slFC (ev_name T rfl (Lk.there (Lk.there (Lk.there (Lk.there Lk.here)))) rfl) (ev_add (ev_name T rfl (Lk.there (Lk.there (Lk.there (Lk.there (Lk.there Lk.here))))) rfl) ev_int) (IsL.cell hC00) (by omega) ac) (ev_is (t := .val (.list ((ds.drop (i + 1)).map e_tup_str_str_tupl_int_int_lst_Row_Clm))) (ev_slFr (ds := ds.map e_tup_str_str_tupl_int_int_lst_Row_Clm) (ev_name T rfl (Lk.there (Lk.there (Lk.there Lk.here))) rfl) (ev_add (ev_name T rfl (Lk.there (Lk.there (Lk.there (Lk.there (Lk.there Lk.here))))) rfl) ev_int) IsL.val (by omega)) (by rw [hti, List.map_drop])) hS (.base (.base .val)) (shp _) (shp _)) (congrArg not (heqv (i + 1)))) (fun z => absurd z (by decide)) (fun _ => ?_))
    refine sx_nil ?_
    show SX _ _ _ _ _ _
    refine sx_nil ?_
    show At _ _ (lawC R (mutD (.tuple [.str ("lose" : Str), .str (ixD r_1 6)]) (i + 1) es) (gar R (i + 1))) _ _
    rw [lawC_gar, eC]
    exact At.same (Le.same (Le.same (Le.same (Le.same (Le.same (Le.lose Le.nil))))))
  · intro slx hlx
    refine sx_weak hlx ?_
    generalize mutD (.tuple [.str ("lose" : Str), .str (ixD r_1 6)]) _ es = M
    generalize gar R _ = Gb
    show SX _ _ _ [some (.val (Scr.D S_0)), some (.val (.list (r_1.map PyData.str))), some (.val (prcD p_2)), some (.val (.list (ds.map e_tup_str_str_tupl_int_int_lst_Row_Clm))), some (.cell 0), none] (lawC R M Gb) _
    refine sx_cons (s1_expr (ev_append (xs := R) (ev_name T rfl (Lk.there (Lk.there (Lk.there (Lk.there Lk.here)))) rfl) (ev_tup ad_nil rfl) rfl rfl PutC.here (by omega)) ?_)
    show SX _ _ _ [some (.val (Scr.D S_0)), some (.val (.list (r_1.map PyData.str))), some (.val (prcD p_2)), some (.val (.list (ds.map e_tup_str_str_tupl_int_int_lst_Row_Clm))), some (.cell 0), none] (lawC (R ++ [.val (.tuple [])]) M Gb) _
    generalize lawC (R ++ [.val (.tuple [])]) M Gb = C2
    refine sx_cons (s1_ret (ev_andY (ev_is (t := .val (.bool true)) (ev_eqD4 hr (ev_as (t := .cell C2.length) (cs2 := dutC C2 ds) (ev_callI C_duties1 hr (by first | decide | omega) rfl (av_cons (ev_tup (ad_cons (ev_name T rfl (Lk.there (Lk.there Lk.here)) rfl) ad_nil) rfl) av_nil) (Sp_duties1.mk (cs := C2) (p := p_2) hG.ok hG.ps) rfl) rfl (by rw [heq])) (ev_name T rfl (Lk.there (Lk.there (Lk.there Lk.here))) rfl) (dutC_dat C2 ds) (.base (.base .val)) (shp 0) (shp 0)) (congrArg (fun b => SV.val (.bool b)) heqv0)) (by
      exact ev_and1 (ev_is (t := .val (.bool true)) (ev_eqD4 (d := .list []) (d2 := .list []) hr (ev_callI C_duties0 hr (by first | decide | omega) rfl (av_cons (ev_tup ad_nil rfl) av_nil) Sp_duties0.mk rfl) (ev_lstV ad_nil rfl) (.base (.base (.cell (snocAt _ (.lst [])) (data_map [])))) (.base (.base .val)) (dk_shaped (n := 1) rfl (by decide)) (dk_shaped (n := 1) rfl (by decide))) rfl))) ?_)
    exact .val (List.nil_prefix) rfl rfl
end
section
variable {P : Program} {w : World} {K : PySem.W.Frag} {mg : Str → Option Value} {base : Heap}
theorem chain (D_place_names : DefAt K mg "place_names" s_place_names P_place_names) (D_term_names : DefAt K mg "term_names" s_term_names P_term_names) (D_claim_names : DefAt K mg "claim_names" s_claim_names P_claim_names) (D_simple_names : DefAt K mg "simple_names" s_simple_names P_simple_names) (D_body_names : DefAt K mg "body_names" s_body_names P_body_names) (D_numbers_of : DefAt K mg "numbers_of" s_numbers_of P_numbers_of) (D_put_behind : DefAt K mg "put_behind" s_put_behind P_put_behind) (D_first_way : DefAt K mg "first_way" s_first_way P_first_way) (D_note : DefAt K mg "note" s_note P_note) (D_walk_statement : DefAt K mg "walk_statement" s_walk_statement P_walk_statement) (D_walk : DefAt K mg "walk" s_walk P_walk) (D_duties_of : DefAt K mg "duties_of" s_duties_of P_duties_of) (D_duties : DefAt K mg "duties" s_duties P_duties) (D_law_cell : DefAt K mg "_law_cell" s__law_cell P__law_cell) (D_law_word : DefAt K mg "_law_word" s__law_word P__law_word) (D_law_words : DefAt K mg "_law_words" s__law_words P__law_words) (D_law_used : DefAt K mg "_law_used" s__law_used P__law_used) (D_law_far : DefAt K mg "_law_far" s__law_far P__law_far) (D_law_place : DefAt K mg "_law_place" s__law_place P__law_place) (D_law_term : DefAt K mg "_law_term" s__law_term P__law_term) (D_law_claim : DefAt K mg "_law_claim" s__law_claim P__law_claim) (D_law_statement : DefAt K mg "_law_statement" s__law_statement P__law_statement) (D_law_proc : DefAt K mg "_law_proc" s__law_proc P__law_proc) (D_law_due : DefAt K mg "_law_due" s__law_due P__law_due) (z_list : mg "list" = none) (z_set : mg "set" = none) (z_sorted : mg "sorted" = none) (z_enumerate : mg "enumerate" = none) (z_len : mg "len" = none) (z_range : mg "range" = none) (z_isinstance : mg "isinstance" = none) (z_tuple : mg "tuple" = none) (G_OUT : Glo K mg "OUT" (.str ("out" : Str))) (G_MOST_WAYS : Glo K mg "MOST_WAYS" (.int 16)) {f : Addr} {fd : FuncData} (F : Fun K "law" "law" s_law f fd) : FnOk P w K mg base CX0 11 f fd P_law (spM K 1 SpLaw) := by
  have C_place_names := cal_place_names (P := P) (w := w) (base := base) D_place_names
  have C_term_names_t := cal_term_names_t (P := P) (w := w) (base := base) D_term_names C_place_names
  have C_term_names_b := cal_term_names_b (P := P) (w := w) (base := base) D_term_names C_place_names
  have C_claim_names := cal_claim_names (P := P) (w := w) (base := base) D_claim_names C_term_names_t C_place_names C_term_names_b
  have C_simple_names := cal_simple_names (P := P) (w := w) (base := base) D_simple_names C_term_names_t C_place_names C_claim_names
  have C_body_names := cal_body_names (P := P) (w := w) (base := base) D_body_names C_simple_names
  have C_numbers_of := cal_numbers_of (P := P) (w := w) (base := base) D_numbers_of C_body_names C_claim_names z_list z_set z_sorted G_OUT
  have C_put_behind := cal_put_behind (P := P) (w := w) (base := base) D_put_behind
  have C_first_way := cal_first_way (P := P) (w := w) (base := base) D_first_way C_numbers_of
  have C_note_t := cal_note_t (P := P) (w := w) (base := base) D_note z_enumerate z_list
  have C_note_l := cal_note_l (P := P) (w := w) (base := base) D_note z_enumerate z_list
  have C_walk_set_s := cal_walk_set_s (P := P) (w := w) (base := base) D_walk_statement C_put_behind
  have C_walk_put_s := cal_walk_put_s (P := P) (w := w) (base := base) D_walk_statement C_put_behind
  have C_walk_any_s := cal_walk_any_s (P := P) (w := w) (base := base) D_walk_statement C_put_behind
  have C_walk_claim_s := cal_walk_claim_s (P := P) (w := w) (base := base) D_walk_statement C_note_l
  have C_walk := cal_walk (P := P) (w := w) (base := base) D_walk C_walk_set_s C_walk_put_s C_walk_any_s C_walk_claim_s z_enumerate z_len G_MOST_WAYS
  have C_duties_of := cal_duties_of (P := P) (w := w) (base := base) D_duties_of C_first_way C_walk C_note_t
  have C_duties0 := cal_duties0 (P := P) (w := w) (base := base) D_duties
  have C_duties1 := cal_duties1 (P := P) (w := w) (base := base) D_duties C_duties_of
  have C_law_cell := cal_law_cell (P := P) (w := w) (base := base) D_law_cell z_len
  have C_law_word := cal_law_word (P := P) (w := w) (base := base) D_law_word
  have C_law_words := cal_law_words (P := P) (w := w) (base := base) D_law_words C_law_cell C_law_word z_range
  have C_law_used := cal_law_used8 (P := P) (w := w) (base := base) D_law_used z_isinstance z_tuple
  have C_law_far := cal_law_far (P := P) (w := w) (base := base) D_law_far
  have C_law_place := cal_law_place (P := P) (w := w) (base := base) D_law_place C_law_far z_len
  have C_law_term := cal_law_term (P := P) (w := w) (base := base) D_law_term C_law_place z_len
  have C_law_claim := cal_law_claim (P := P) (w := w) (base := base) D_law_claim C_law_term C_law_far C_law_place z_len
  have C_law_statement := cal_law_statement (P := P) (w := w) (base := base) D_law_statement C_law_place C_law_term C_law_far C_law_claim z_len
  have C_law_proc := cal_law_proc (P := P) (w := w) (base := base) D_law_proc C_law_cell C_law_claim C_law_statement z_range z_tuple
  have C_law_due := cal_law_due (P := P) (w := w) (base := base) D_law_due C_law_used z_enumerate z_list z_set z_sorted
  exact fn_law F C_law_words C_law_proc C_law_due C_duties1 C_duties0 z_len z_range z_isinstance z_list z_tuple
end
theorem fin {l : PySem.W.OpenLaw} {w : World} {K : PySem.W.Frag} {h : Heap} {mg : Str → Option Value} {fa f0 : Addr} (X : K.In h) (G : h.Ns mainGlobals mg) (hfa : mg "law" = some (.ref fa))
    {od an : Option Addr} {sl : Array (Option Value)} {oc kV dc pm cd ct : Value}
    (a0 : PySem.W.nsIn K mainGlobals "law" = some (some (.ref f0))) (l0 : K.lookup f0 = some ⟨oc, od, .func (PySem.W.fnOf "law" "law" (defArgs s_law) (defBody s_law) (defScope s_law) .none kV dc pm an cd ct), sl⟩) (c0 : PySem.W.codeIn K cd "law" = true) (k0 : PySem.W.keepIn K (.ref f0) = true)
    (D_place_names : DefAt K mg "place_names" s_place_names P_place_names)
    (D_term_names : DefAt K mg "term_names" s_term_names P_term_names)
    (D_claim_names : DefAt K mg "claim_names" s_claim_names P_claim_names)
    (D_simple_names : DefAt K mg "simple_names" s_simple_names P_simple_names)
    (D_body_names : DefAt K mg "body_names" s_body_names P_body_names)
    (D_numbers_of : DefAt K mg "numbers_of" s_numbers_of P_numbers_of)
    (D_put_behind : DefAt K mg "put_behind" s_put_behind P_put_behind)
    (D_first_way : DefAt K mg "first_way" s_first_way P_first_way)
    (D_note : DefAt K mg "note" s_note P_note)
    (D_walk_statement : DefAt K mg "walk_statement" s_walk_statement P_walk_statement)
    (D_walk : DefAt K mg "walk" s_walk P_walk)
    (D_duties_of : DefAt K mg "duties_of" s_duties_of P_duties_of)
    (D_duties : DefAt K mg "duties" s_duties P_duties)
    (D__law_cell : DefAt K mg "_law_cell" s__law_cell P__law_cell)
    (D__law_word : DefAt K mg "_law_word" s__law_word P__law_word)
    (D__law_words : DefAt K mg "_law_words" s__law_words P__law_words)
    (D__law_used : DefAt K mg "_law_used" s__law_used P__law_used)
    (D__law_far : DefAt K mg "_law_far" s__law_far P__law_far)
    (D__law_place : DefAt K mg "_law_place" s__law_place P__law_place)
    (D__law_term : DefAt K mg "_law_term" s__law_term P__law_term)
    (D__law_claim : DefAt K mg "_law_claim" s__law_claim P__law_claim)
    (D__law_statement : DefAt K mg "_law_statement" s__law_statement P__law_statement)
    (D__law_proc : DefAt K mg "_law_proc" s__law_proc P__law_proc)
    (D__law_due : DefAt K mg "_law_due" s__law_due P__law_due)
    (z0 : PySem.W.nsIn K mainGlobals "list" = some none)
    (z1 : PySem.W.nsIn K mainGlobals "set" = some none)
    (z2 : PySem.W.nsIn K mainGlobals "sorted" = some none)
    (z3 : PySem.W.nsIn K mainGlobals "enumerate" = some none)
    (z4 : PySem.W.nsIn K mainGlobals "len" = some none)
    (z5 : PySem.W.nsIn K mainGlobals "range" = some none)
    (z6 : PySem.W.nsIn K mainGlobals "isinstance" = some none)
    (z7 : PySem.W.nsIn K mainGlobals "tuple" = some none)
    (G_OUT : Glo K mg "OUT" (.str ("out" : Str)))
    (G_MOST_WAYS : Glo K mg "MOST_WAYS" (.int 16))
    : ∃ fd : FuncData, (∀ (s : Shared) (v : Value), BindsTo s fd ⟨[v], []⟩ [("_law_script", v)]) ∧ ∀ base : Heap, K.In base → base.Ns mainGlobals mg → FnOk l.prog w K mg base CX0 11 fa fd ["_law_script"] (spM K 1 SpLaw) := by
  have e := hfa.symm.trans (PySem.W.mg_of X G a0)
  cases e
  exact ⟨_, fun s v => .of_eq rfl, fun base _ _ => chain D_place_names D_term_names D_claim_names D_simple_names D_body_names D_numbers_of D_put_behind D_first_way D_note D_walk_statement D_walk D_duties_of D_duties D__law_cell D__law_word D__law_words D__law_used D__law_far D__law_place D__law_term D__law_claim D__law_statement D__law_proc D__law_due (PySem.W.mg_none_of X G z0) (PySem.W.mg_none_of X G z1) (PySem.W.mg_none_of X G z2) (PySem.W.mg_none_of X G z3) (PySem.W.mg_none_of X G z4) (PySem.W.mg_none_of X G z5) (PySem.W.mg_none_of X G z6) (PySem.W.mg_none_of X G z7) G_OUT G_MOST_WAYS (fun_mk (st := s_law) l0 c0 k0)⟩
end DL
open PySem PySem.W PyProof.Rows
set_option maxHeartbeats 0 in
theorem PySem.Challenge.cw_outlineward_k61_duties_of_straight_bodie_holds : PySem.Challenge.rw_outlineward_k61_duties_of_straight_bodie.Holds := by
  w_on; o_law; k_head; (case hw => w_witness2)
  k_fill
  refine L2.walk_ofB (l := PySem.Challenge.rw_outlineward_k61_duties_of_straight_bodie) (n := 63) (k := 11) (x := "_law_script") (CX := fun _ => L2.CX0) (sp := fun w => DL.spM _ 1 DL.SpLaw) rfl (by decide) rfl ⟨rfl, by decide, by decide⟩ (fun w h Y => PySem.W.kIn_of Y) ?F (fun w H a ns hl hb _ hS => DL.spM_law (DL.SpLaw.mk (S := ⟨ns, hl, DL.sbd_of hb⟩)) hS) (fun _ _ _ _ _ h => h)
  case F =>
    intro w mg fa h KX G hmg
    refine' DL.fin KX G hmg ?a0 ?l0 ?c0 ?k0 (DL.defAt_mk KX G ?a1 ?l1 ?c1 ?k1 (fun _ _ _ _ _ _ us hl => match us, hl with | [_], _ => rfl)) (DL.defAt_mk KX G ?a2 ?l2 ?c2 ?k2 (fun _ _ _ _ _ _ us hl => match us, hl with | [_], _ => rfl)) (DL.defAt_mk KX G ?a3 ?l3 ?c3 ?k3 (fun _ _ _ _ _ _ us hl => match us, hl with | [_], _ => rfl)) (DL.defAt_mk KX G ?a4 ?l4 ?c4 ?k4 (fun _ _ _ _ _ _ us hl => match us, hl with | [_], _ => rfl)) (DL.defAt_mk KX G ?a5 ?l5 ?c5 ?k5 (fun _ _ _ _ _ _ us hl => match us, hl with | [_], _ => rfl)) (DL.defAt_mk KX G ?a6 ?l6 ?c6 ?k6 (fun _ _ _ _ _ _ us hl => match us, hl with | [_], _ => rfl)) (DL.defAt_mk KX G ?a7 ?l7 ?c7 ?k7 (fun _ _ _ _ _ _ us hl => match us, hl with | [_, _], _ => rfl)) (DL.defAt_mk KX G ?a8 ?l8 ?c8 ?k8 (fun _ _ _ _ _ _ us hl => match us, hl with | [_], _ => rfl)) (DL.defAt_mk KX G ?a9 ?l9 ?c9 ?k9 (fun _ _ _ _ _ _ us hl => match us, hl with | [_, _, _, _], _ => rfl)) (DL.defAt_mk KX G ?a10 ?l10 ?c10 ?k10 (fun _ _ _ _ _ _ us hl => match us, hl with | [_, _, _, _, _, _], _ => rfl)) (DL.defAt_mk KX G ?a11 ?l11 ?c11 ?k11 (fun _ _ _ _ _ _ us hl => match us, hl with | [_, _, _, _, _, _], _ => rfl)) (DL.defAt_mk KX G ?a12 ?l12 ?c12 ?k12 (fun _ _ _ _ _ _ us hl => match us, hl with | [_, _], _ => rfl)) (DL.defAt_mk KX G ?a13 ?l13 ?c13 ?k13 (fun _ _ _ _ _ _ us hl => match us, hl with | [_], _ => rfl)) (DL.defAt_mk KX G ?a14 ?l14 ?c14 ?k14 (fun _ _ _ _ _ _ us hl => match us, hl with | [_, _], _ => rfl)) (DL.defAt_mk KX G ?a15 ?l15 ?c15 ?k15 (fun _ _ _ _ _ _ us hl => match us, hl with | [_], _ => rfl)) (DL.defAt_mk KX G ?a16 ?l16 ?c16 ?k16 (fun _ _ _ _ _ _ us hl => match us, hl with | [_, _, _], _ => rfl)) (DL.defAt_mk KX G ?a17 ?l17 ?c17 ?k17 (fun _ _ _ _ _ _ us hl => match us, hl with | [_, _], _ => rfl)) (DL.defAt_mk KX G ?a18 ?l18 ?c18 ?k18 (fun _ _ _ _ _ _ us hl => match us, hl with | [_], _ => rfl)) (DL.defAt_mk KX G ?a19 ?l19 ?c19 ?k19 (fun _ _ _ _ _ _ us hl => match us, hl with | [_, _], _ => rfl)) (DL.defAt_mk KX G ?a20 ?l20 ?c20 ?k20 (fun _ _ _ _ _ _ us hl => match us, hl with | [_, _, _], _ => rfl)) (DL.defAt_mk KX G ?a21 ?l21 ?c21 ?k21 (fun _ _ _ _ _ _ us hl => match us, hl with | [_, _, _], _ => rfl)) (DL.defAt_mk KX G ?a22 ?l22 ?c22 ?k22 (fun _ _ _ _ _ _ us hl => match us, hl with | [_, _, _, _], _ => rfl)) (DL.defAt_mk KX G ?a23 ?l23 ?c23 ?k23 (fun _ _ _ _ _ _ us hl => match us, hl with | [_, _], _ => rfl)) (DL.defAt_mk KX G ?a24 ?l24 ?c24 ?k24 (fun _ _ _ _ _ _ us hl => match us, hl with | [_, _], _ => rfl)) ?z0 ?z1 ?z2 ?z3 ?z4 ?z5 ?z6 ?z7 (DL.glo_strN KX G ?ga0) (DL.glo_intN KX G ?ga1)
    (case a0 => k_is); (case l0 => k_is); (case c0 => k_is); (case k0 => k_is)
    (case a1 => k_is); (case l1 => k_is); (case c1 => k_is); (case k1 => k_is)
    (case a2 => k_is); (case l2 => k_is); (case c2 => k_is); (case k2 => k_is)
    (case a3 => k_is); (case l3 => k_is); (case c3 => k_is); (case k3 => k_is)
    (case a4 => k_is); (case l4 => k_is); (case c4 => k_is); (case k4 => k_is)
    (case a5 => k_is); (case l5 => k_is); (case c5 => k_is); (case k5 => k_is)
    (case a6 => k_is); (case l6 => k_is); (case c6 => k_is); (case k6 => k_is)
    (case a7 => k_is); (case l7 => k_is); (case c7 => k_is); (case k7 => k_is)
    (case a8 => k_is); (case l8 => k_is); (case c8 => k_is); (case k8 => k_is)
    (case a9 => k_is); (case l9 => k_is); (case c9 => k_is); (case k9 => k_is)
    (case a10 => k_is); (case l10 => k_is); (case c10 => k_is); (case k10 => k_is)
    (case a11 => k_is); (case l11 => k_is); (case c11 => k_is); (case k11 => k_is)
    (case a12 => k_is); (case l12 => k_is); (case c12 => k_is); (case k12 => k_is)
    (case a13 => k_is); (case l13 => k_is); (case c13 => k_is); (case k13 => k_is)
    (case a14 => k_is); (case l14 => k_is); (case c14 => k_is); (case k14 => k_is)
    (case a15 => k_is); (case l15 => k_is); (case c15 => k_is); (case k15 => k_is)
    (case a16 => k_is); (case l16 => k_is); (case c16 => k_is); (case k16 => k_is)
    (case a17 => k_is); (case l17 => k_is); (case c17 => k_is); (case k17 => k_is)
    (case a18 => k_is); (case l18 => k_is); (case c18 => k_is); (case k18 => k_is)
    (case a19 => k_is); (case l19 => k_is); (case c19 => k_is); (case k19 => k_is)
    (case a20 => k_is); (case l20 => k_is); (case c20 => k_is); (case k20 => k_is)
    (case a21 => k_is); (case l21 => k_is); (case c21 => k_is); (case k21 => k_is)
    (case a22 => k_is); (case l22 => k_is); (case c22 => k_is); (case k22 => k_is)
    (case a23 => k_is); (case l23 => k_is); (case c23 => k_is); (case k23 => k_is)
    (case a24 => k_is); (case l24 => k_is); (case c24 => k_is); (case k24 => k_is)
    (case z0 => k_is)
    (case z1 => k_is)
    (case z2 => k_is)
    (case z3 => k_is)
    (case z4 => k_is)
    (case z5 => k_is)
    (case z6 => k_is)
    (case z7 => k_is)
    (case ga0 => k_is)
    (case ga1 => k_is)

