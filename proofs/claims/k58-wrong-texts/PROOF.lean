import PyProof.Rows.All
import Wide.All
import OpenK.AllK
import Wide.FinOn
import HandS.ForMost
import KE.KeyNested
import KE.KDictKeyed
import HandS.Property
import HandS.Defaults
import HandS.ClsMeth
import HandS.MakeKw
import HandS.Zip
import HandS.Deep
import HandS.TupAny
import HandS.TupLe
import HandS.TupMul
import HandS.WideBits
import HandS.Star
import HandS.OwnEq
import HandS.IsInst
import HandS.Style
import HandS.Conv
import HandS.StrMore
import HandS.RaiseMore
import KE.DataMinMax
import KE.SortData
import KE.SortCalls
import KE.KTupSum
import HandS.TryOnly
import HandS.Text
import HandS.SetFor
import KE.KDictSum
import KE.KDictCopyH
import HandS.TupSets
import HandS.FStr
import HandS.Iter
import HandS.HeadHook1
import HandS.HeadHook2
import HandS.HeadNt
import HandS.HeadEnd
import HandS.Exc
import HandS.ExcOwn
import HandS.ExcInit
import HandS.ExcField
import HandS.WordsExc
import HandS.Codes
import PyProof.ListStr
import KE.KStateDown
import Lean
import HandS.Head0
import HandS.Head1
import HandS.Head2
import KE.KIntText
import PySem.Challenge.RW_nearsettled_k58_wrong_texts
set_option Elab.async false
set_option linter.all false
set_option maxRecDepth 100000
/-! Pd0: data as trees (D), cells that may change, what represents what. -/
namespace Pd
open PySem PySem.Spec PyProof.Rows L2

/-- data; cell: an object that may still change, by its number -/
inductive D where
  | non
  | bl (b : Bool)
  | int (i : Int)
  | str (x : Str)
  | tup (xs : List D)
  | lst (xs : List D)
  | dic (ks vs : List D)
  | obj (c : Nat) (vs : List D)
  | cell (k : Nat)
  | scr (ns : List Int)
  | cls (c : Nat)

mutual
def D.beq : D → D → Bool
  | .non, .non => true
  | .bl a, .bl b => a == b
  | .int a, .int b => decide (a = b)
  | .str a, .str b => decide (a = b)
  | .tup a, .tup b => D.beqs a b
  | .lst a, .lst b => D.beqs a b
  | .dic a a', .dic b b' => D.beqs a b && D.beqs a' b'
  | .obj c a, .obj d b => Nat.beq c d && D.beqs a b
  | .cell a, .cell b => Nat.beq a b
  | .scr a, .scr b => decide (a = b)
  | .cls a, .cls b => Nat.beq a b
  | _, _ => false
def D.beqs : List D → List D → Bool
  | [], [] => true
  | a :: as, b :: bs => D.beq a b && D.beqs as bs
  | _, _ => false
end

mutual
/-- the key that a thing is, up to == -/
def nk : D → Option NestedKey
  | .non => some .none
  | .bl b => some (.num (if b = true then 1 else 0))
  | .int i => some (.num i)
  | .str x => some (.text x)
  | .tup xs => (nks xs).map .tup
  | _ => none
def nks : List D → Option (List NestedKey)
  | [] => some []
  | x :: xs => match nk x, nks xs with
    | some k, some ks => some (k :: ks)
    | _, _ => none
end

/-- the program's facts: the written part, the classes by number, their fields in the order of __init__ -/
structure Tb where
  K : PySem.W.Frag
  P : Program
  w : World
  mg : Str → Option Value
  base : Heap
  cl : Nat → Addr
  fl : Nat → List Str

def keyD : Key → D
  | .inl i => .int i
  | .inr x => .str x

/-- a dict's record at a: its entries are xs -/
def RawK (P : Program) (w : World) (a : Addr) (xs : List (NestedKey × Addr × Value)) : Heap → Prop := fun h =>
  (a == sysModules) = false ∧ ∃ o es ep, h.get? a = some o ∧ o.ExactDict ∧ o.data = .dict es ep ∧ es.toList = xs.map (entryOfKey (nestedKind P w)) ∧ (xs.map (·.1)).Nodup

mutual
/-- v is the datum d: G holds what never changes, al the places of the cells -/
inductive Rp (T : Tb) (G : Hp) (al : List Addr) : D → V → Prop
  | non : Rp T G al .non .non
  | bl (b : Bool) : Rp T G al (.bl b) (.bl b)
  | int (i : Int) : Rp T G al (.int i) (.int i)
  | str (x : Str) : Rp T G al (.str x) (.str x)
  | tup {a : Addr} {vs : List V} {ds : List D} : SqT T.K G a vs → RpL T G al ds vs → Rp T G al (.tup ds) (.ref a)
  | box {a : Addr} {o : HO} {d : D} : G a = some o → Bx T G al a o d → Rp T G al d (.ref a)
  | cell {k : Nat} {a : Addr} : al[k]? = some a → Rp T G al (.cell k) (.ref a)
  | scr {ns : List Int} {a : Addr} : SqL T.K G a (ns.map V.int) → Rp T G al (.scr ns) (.ref a)
  | cls (c : Nat) : Rp T G al (.cls c) (.ref (T.cl c))
inductive RpL (T : Tb) (G : Hp) (al : List Addr) : List D → List V → Prop
  | nil : RpL T G al [] []
  | cons {d : D} {v : V} {ds : List D} {vs : List V} : Rp T G al d v → RpL T G al ds vs → RpL T G al (d :: ds) (v :: vs)
/-- the object o at a is the list, the dict, the instance d -/
inductive Bx (T : Tb) (G : Hp) (al : List Addr) : Addr → HO → D → Prop
  | lst {a : Addr} {vs : List V} {ds : List D} : RpL T G al ds vs → Bx T G al a (.lst vs) (.lst ds)
  | dK {a : Addr} {kvs : List (Key × V)} {ks ds : List D} : ks = kvs.map (fun p => keyD p.1) → RpL T G al ds (kvs.map (·.2)) → Bx T G al a (.dK kvs) (.dic ks ds)
  | dN {a : Addr} {xs : List (NestedKey × Addr × Value)} {ks ds : List D} {vs : List V} : xs ≠ [] → ks.map nk = xs.map (fun x => some x.1) → (∀ x ∈ xs, x.1.depth ≤ 8) → RpL T G al ks (xs.map fun x => V.ref x.2.1) →
      RpL T G al ds vs → Vals vs (xs.map fun x => x.2.2) → (∀ k ∈ ks, ∃ es, k = .tup es) → Bx T G al a (.ext (RawK T.P T.w a xs)) (.dic ks ds)
  | obj {a dx : Addr} {c : Nat} {vs : List V} {ds : List D} : RpL T G al ds vs → ds.length ≤ (T.fl c).length → Bx T G al a (.ins (T.cl c) dx ((T.fl c).zip vs)) (.obj c ds)
end

/-- more is known -/
structure Le (G : Hp) (al : List Addr) (G' : Hp) (al' : List Addr) : Prop where
  g : ∀ a o, G a = some o → G' a = some o
  a : al <+: al'
theorem Le.refl (G : Hp) (al : List Addr) : Le G al G al := ⟨fun _ _ h => h, List.prefix_refl _⟩
theorem Le.trans {G1 G2 G3 : Hp} {a1 a2 a3 : List Addr} (x : Le G1 a1 G2 a2) (y : Le G2 a2 G3 a3) : Le G1 a1 G3 a3 := ⟨fun a o h => y.g a o (x.g a o h), x.a.trans y.a⟩
theorem Le.get {G G' : Hp} {al al' : List Addr} (x : Le G al G' al') {k : Nat} {a : Addr} (h : al[k]? = some a) : al'[k]? = some a := by
  obtain ⟨r, e⟩ := x.a
  subst e
  obtain ⟨hl, _⟩ := List.getElem?_eq_some_iff.mp h
  rw [List.getElem?_append_left hl]; exact h
theorem Le.upd {G : Hp} {al : List Addr} {p : Addr} {o : HO} (h : G p = none) : Le G al (upd G p o) al := ⟨fun a u e => by rw [upd_ne (ne_of_none e h)]; exact e, List.prefix_refl _⟩
theorem sqT_le {K : PySem.W.Frag} {G G' : Hp} {a : Addr} {xs : List V} (g : ∀ a o, G a = some o → G' a = some o) (h : SqT K G a xs) : SqT K G' a xs := by
  rcases h with (h | ⟨o, h⟩) | h
  · exact .inl (.inl (g _ _ h))
  · exact .inl (.inr ⟨o, g _ _ h⟩)
  · exact .inr h
theorem sqL_le {K : PySem.W.Frag} {G G' : Hp} {a : Addr} {xs : List V} (g : ∀ a o, G a = some o → G' a = some o) (h : SqL K G a xs) : SqL K G' a xs := by
  rcases h with (h | ⟨o, h⟩) | h
  · exact .inl (.inl (g _ _ h))
  · exact .inl (.inr ⟨o, g _ _ h⟩)
  · exact .inr h

section
variable {T : Tb} {G G' : Hp} {al al' : List Addr}
mutual
theorem Rp.mono (l : Le G al G' al') : ∀ {d : D} {v : V}, Rp T G al d v → Rp T G' al' d v
  | _, _, .non => .non
  | _, _, .bl b => .bl b
  | _, _, .int b => .int b
  | _, _, .str b => .str b
  | _, _, .tup h r => .tup (sqT_le l.g h) (RpL.mono l r)
  | _, _, .box h r => .box (l.g _ _ h) (Bx.mono l r)
  | _, _, .cell h => .cell (l.get h)
  | _, _, .scr h => .scr (sqL_le l.g h)
  | _, _, .cls c => .cls c
theorem RpL.mono (l : Le G al G' al') : ∀ {ds : List D} {vs : List V}, RpL T G al ds vs → RpL T G' al' ds vs
  | _, _, .nil => .nil
  | _, _, .cons h r => .cons (Rp.mono l h) (RpL.mono l r)
theorem Bx.mono (l : Le G al G' al') : ∀ {a : Addr} {o : HO} {d : D}, Bx T G al a o d → Bx T G' al' a o d
  | _, _, _, .lst r => .lst (RpL.mono l r)
  | _, _, _, .dK e r => .dK e (RpL.mono l r)
  | _, _, _, .dN e0 e e2 r1 r2 v k => .dN e0 e e2 (RpL.mono l r1) (RpL.mono l r2) v k
  | _, _, _, .obj r h => .obj (RpL.mono l r) h
end
theorem RpL.length : ∀ {ds : List D} {vs : List V}, RpL T G al ds vs → ds.length = vs.length
  | _, _, .nil => rfl
  | _, _, .cons _ r => by rw [List.length_cons, List.length_cons, RpL.length r]
theorem RpL.get : ∀ {ds : List D} {vs : List V} {i : Nat} {d : D}, RpL T G al ds vs → ds[i]? = some d → ∃ v, vs[i]? = some v ∧ Rp T G al d v
  | _, _, _, _, .nil, e => by simp at e
  | _, _, 0, _, .cons r _, e => by simp at e; subst e; exact ⟨_, rfl, r⟩
  | _, _, i + 1, d, .cons _ t, e => by
    obtain ⟨u, h1, h2⟩ := RpL.get (i := i) (d := d) t (by simpa using e)
    exact ⟨u, by simpa using h1, h2⟩
theorem RpL.append : ∀ {ds es : List D} {vs ws : List V}, RpL T G al ds vs → RpL T G al es ws → RpL T G al (ds ++ es) (vs ++ ws)
  | _, _, _, _, .nil, s => s
  | _, _, _, _, .cons r t, s => .cons r (RpL.append t s)
theorem RpL.set {d : D} {v : V} (r : Rp T G al d v) : ∀ {ds : List D} {vs : List V} (i : Nat), RpL T G al ds vs → RpL T G al (ds.set i d) (vs.set i v)
  | _, _, _, .nil => .nil
  | _, _, 0, .cons _ t => .cons r t
  | _, _, i + 1, .cons q t => .cons q (RpL.set r i t)
theorem RpL.take : ∀ {ds : List D} {vs : List V} (n : Nat), RpL T G al ds vs → RpL T G al (ds.take n) (vs.take n)
  | _, _, 0, _ => .nil
  | _, _, _ + 1, .nil => .nil
  | _, _, n + 1, .cons r t => .cons r (RpL.take n t)
theorem RpL.drop : ∀ {ds : List D} {vs : List V} (n : Nat), RpL T G al ds vs → RpL T G al (ds.drop n) (vs.drop n)
  | _, _, 0, r => r
  | _, _, _ + 1, .nil => .nil
  | _, _, n + 1, .cons _ t => RpL.drop n t
theorem RpL.reverse {ds : List D} {vs : List V} (h : RpL T G al ds vs) : RpL T G al ds.reverse vs.reverse := by
  induction h using RpL.rec (motive_1 := fun _ _ _ => True) (motive_3 := fun _ _ _ _ => True) with
  | nil => exact .nil
  | cons r t _ ih => rw [List.reverse_cons, List.reverse_cons]; exact RpL.append ih (.cons r .nil)
  | _ => trivial
theorem RpL.one {d : D} {vs : List V} : RpL T G al [d] vs → ∃ v, vs = [v] ∧ Rp T G al d v
  | .cons r .nil => ⟨_, rfl, r⟩
theorem RpL.two {d e : D} {vs : List V} : RpL T G al [d, e] vs → ∃ v u, vs = [v, u] ∧ Rp T G al d v ∧ Rp T G al e u
  | .cons r (.cons q .nil) => ⟨_, _, rfl, r, q⟩
theorem RpL.ints : ∀ {ns : List Int} {vs : List V}, RpL T G al (ns.map D.int) vs → vs = ns.map V.int
  | [], _, .nil => rfl
  | n :: ns, _, .cons r t => by
    cases r with
    | int => rw [RpL.ints t]; rfl
    | box _ b => cases b
theorem RpL.of_ints : ∀ {ns : List Int}, RpL T G al (ns.map D.int) (ns.map V.int)
  | [] => .nil
  | n :: ns => .cons (.int n) RpL.of_ints
end

/-- the heap H holds G and the cells: al their places, c what they are -/
structure HSt (T : Tb) (G : Hp) (al : List Addr) (c : List D) (H : Hp) : Prop where
  ex : ∀ a o, G a = some o → H a = some o
  len : al.length = c.length
  nd : al.Nodup
  at_ : ∀ (k : Nat) (a : Addr) (d : D), al[k]? = some a → c[k]? = some d → G a = none ∧ ∃ o, H a = some o ∧ Bx T G al a o d

/-- from one state to a later one: more is known, what lies apart stays -/
structure Stp (G : Hp) (al : List Addr) (H : Hp) (G' : Hp) (al' : List Addr) (H' : Hp) : Prop where
  le : Le G al G' al'
  fr : ∀ a o, G a = none → a ∉ al → H a = some o → G' a = none ∧ a ∉ al' ∧ H' a = some o
theorem Stp.refl (G : Hp) (al : List Addr) (H : Hp) : Stp G al H G al H := ⟨.refl _ _, fun _ _ g a h => ⟨g, a, h⟩⟩
theorem Stp.trans {G1 G2 G3 H1 H2 H3 : Hp} {a1 a2 a3 : List Addr} (x : Stp G1 a1 H1 G2 a2 H2) (y : Stp G2 a2 H2 G3 a3 H3) : Stp G1 a1 H1 G3 a3 H3 :=
  ⟨x.le.trans y.le, fun a o g n h => let ⟨g', n', h'⟩ := x.fr a o g n h; y.fr a o g' n' h'⟩

/-- v is the datum d, or an object of one's own that is -/
def Rq (T : Tb) (G : Hp) (al : List Addr) (H : Hp) (d : D) (v : V) : Prop :=
  Rp T G al d v ∨ ∃ a o, v = .ref a ∧ G a = none ∧ a ∉ al ∧ H a = some o ∧ Bx T G al a o d
theorem Rq.mono {T : Tb} {G G' H H' : Hp} {al al' : List Addr} (s : Stp G al H G' al' H') {d : D} {v : V} (h : Rq T G al H d v) : Rq T G' al' H' d v := by
  rcases h with h | ⟨a, o, e, g, n, hh, b⟩
  · exact .inl (h.mono s.le)
  · obtain ⟨g', n', h'⟩ := s.fr a o g n hh
    exact .inr ⟨a, o, e, g', n', h', b.mono s.le⟩

section
variable {T : Tb} {G : Hp} {al : List Addr} {c : List D} {H : Hp}
theorem HSt.free (h : HSt T G al c H) {p : Addr} (hp : H p = none) : G p = none := by
  cases q : G p with
  | none => rfl
  | some o => rw [h.ex p o q] at hp; cases hp
theorem HSt.has (h : HSt T G al c H) {k : Nat} {a : Addr} (hk : al[k]? = some a) : ∃ d, c[k]? = some d := by
  obtain ⟨hl, _⟩ := List.getElem?_eq_some_iff.mp hk
  exact ⟨c[k]'(by rw [← h.len]; exact hl), List.getElem?_eq_getElem _⟩
theorem HSt.apart (h : HSt T G al c H) {p : Addr} (hp : H p = none) : p ∉ al := fun hm => by
  obtain ⟨k, hk⟩ := List.mem_iff_getElem?.mp hm
  obtain ⟨d, hd⟩ := h.has hk
  obtain ⟨_, o, e, _⟩ := h.at_ k p d hk hd
  rw [e] at hp; cases hp
/-- a new object, never to change -/
theorem HSt.freeze (h : HSt T G al c H) {p : Addr} {o : HO} (hp : H p = none) : HSt T (upd G p o) al c (upd H p o) := by
  have gp := h.free hp
  refine ⟨fun a u e => ?_, h.len, h.nd, fun k a d ha hd => ?_⟩
  · by_cases q : a = p
    · subst q; rw [upd_same] at e ⊢; exact e
    · rw [upd_ne q] at e ⊢; exact h.ex a u e
  · obtain ⟨g, u, e, b⟩ := h.at_ k a d ha hd
    have q : a ≠ p := ne_of_none e hp
    exact ⟨by rw [upd_ne q]; exact g, u, by rw [upd_ne q]; exact e, b.mono (.upd gp)⟩
theorem Stp.freeze (h : HSt T G al c H) {p : Addr} {o : HO} (hp : H p = none) : Stp G al H (upd G p o) al (upd H p o) :=
  ⟨.upd (h.free hp), fun a u g n e => by
    have q : a ≠ p := ne_of_none e hp
    exact ⟨by rw [upd_ne q]; exact g, n, by rw [upd_ne q]; exact e⟩⟩
/-- an object of the heap that is no cell's, never to change from here on -/
theorem HSt.fix (h : HSt T G al c H) {p : Addr} {o : HO} (hg : G p = none) (ha : p ∉ al) (hp : H p = some o) : HSt T (upd G p o) al c H := by
  refine ⟨fun a u e => ?_, h.len, h.nd, fun k a d hk hd => ?_⟩
  · by_cases q : a = p
    · subst q; rw [upd_same] at e; cases e; exact hp
    · rw [upd_ne q] at e; exact h.ex a u e
  · obtain ⟨g, u, e, b⟩ := h.at_ k a d hk hd
    have q : a ≠ p := fun z => ha (z ▸ List.mem_of_getElem? hk)
    exact ⟨by rw [upd_ne q]; exact g, u, e, b.mono (.upd hg)⟩
/-- .. as a new cell -/
theorem HSt.cell (h : HSt T G al c H) {p : Addr} {o : HO} {d : D} (hg : G p = none) (ha : p ∉ al) (hp : H p = some o) (hb : Bx T G al p o d) : HSt T G (al ++ [p]) (c ++ [d]) H := by
  have le : Le G al G (al ++ [p]) := ⟨fun _ _ h => h, List.prefix_append _ _⟩
  refine ⟨h.ex, by simp [h.len], ?_, fun k a e hk hd => ?_⟩
  · rw [List.nodup_append]
    refine ⟨h.nd, by simp, fun x hx y hy => ?_⟩
    have : y = p := by simpa using hy
    subst this
    exact fun z => ha (z ▸ hx)
  · by_cases hl : k < al.length
    · rw [List.getElem?_append_left hl] at hk
      rw [List.getElem?_append_left (by rw [← h.len]; exact hl)] at hd
      obtain ⟨g, u, e', b⟩ := h.at_ k a e hk hd
      exact ⟨g, u, e', b.mono le⟩
    · have hk' : k = al.length := by
        obtain ⟨z, _⟩ := List.getElem?_eq_some_iff.mp hk
        rw [List.length_append, List.length_singleton] at z
        omega
      subst hk'
      rw [List.getElem?_append_right (Nat.le_refl _)] at hk
      rw [h.len, List.getElem?_append_right (Nat.le_refl _)] at hd
      simp at hk hd
      subst hk; subst hd
      exact ⟨hg, o, hp, hb.mono le⟩
/-- a cell changes -/
theorem HSt.put (h : HSt T G al c H) {k : Nat} {p : Addr} {o : HO} {d : D} (hk : al[k]? = some p) (hb : Bx T G al p o d) : HSt T G al (c.set k d) (upd H p o) := by
  obtain ⟨hl, hke⟩ := List.getElem?_eq_some_iff.mp hk
  have hl' : k < c.length := by rw [← h.len]; exact hl
  obtain ⟨gp, _⟩ := h.at_ k p c[k] hk (List.getElem?_eq_getElem hl')
  refine ⟨fun a u e => ?_, by simp [h.len], h.nd, fun j a e hj hd => ?_⟩
  · have q : a ≠ p := fun z => by rw [z, gp] at e; cases e
    rw [upd_ne q]; exact h.ex a u e
  · by_cases hjk : j = k
    · subst hjk
      rw [hk] at hj; cases hj
      rw [List.getElem?_set_self hl'] at hd
      cases hd
      exact ⟨gp, o, upd_same, hb⟩
    · rw [List.getElem?_set_ne (Ne.symm hjk)] at hd
      obtain ⟨g, u, e', b⟩ := h.at_ j a e hj hd
      have q : a ≠ p := fun z => by
        subst z
        obtain ⟨hlj, hje⟩ := List.getElem?_eq_some_iff.mp hj
        exact hjk ((List.getElem_inj h.nd).mp (hje.trans hke.symm))
      exact ⟨g, u, by rw [upd_ne q]; exact e', b⟩
theorem Stp.put {k : Nat} {p : Addr} {o : HO} (hk : al[k]? = some p) : Stp G al H G al (upd H p o) :=
  ⟨.refl _ _, fun a u g n e => ⟨g, n, by rw [upd_ne (show a ≠ p from fun z => n (z ▸ List.mem_of_getElem? hk))]; exact e⟩⟩
/-- what lies apart may change -/
theorem HSt.other (h : HSt T G al c H) {H' : Hp} (e1 : ∀ a o, G a = some o → H' a = some o) (e2 : ∀ a ∈ al, ∀ o, H a = some o → H' a = some o) : HSt T G al c H' :=
  ⟨e1, h.len, h.nd, fun k a d hk hd => let ⟨g, u, e, b⟩ := h.at_ k a d hk hd; ⟨g, u, e2 a (List.mem_of_getElem? hk) u e, b⟩⟩
theorem HSt.apartPut (h : HSt T G al c H) {p : Addr} {o : HO} (hg : G p = none) (ha : p ∉ al) : HSt T G al c (upd H p o) :=
  h.other (fun a u e => by rw [upd_ne (ne_of_none e hg)]; exact h.ex a u e) fun a m u e => by rw [upd_ne (show a ≠ p from fun z => ha (z ▸ m))]; exact e
/-- a new object that nothing speaks of -/
theorem HSt.junk (h : HSt T G al c H) {p : Addr} {o : HO} (hp : H p = none) : HSt T G al c (upd H p o) := h.apartPut (h.free hp) (h.apart hp)
theorem Stp.junk {p : Addr} {o : HO} (hp : H p = none) : Stp G al H G al (upd H p o) :=
  ⟨.refl _ _, fun a u g n e => ⟨g, n, by rw [upd_ne (ne_of_none e hp)]; exact e⟩⟩
end
end Pd
set_option Elab.async false
set_option linter.all false
set_option maxRecDepth 100000
/-! Pd1: what an expression, a statement does to data. -/
namespace Pd
open PySem PySem.Spec PyProof.Rows L2

/-! ### a piece of syntax as its own reading -/
def SemE (X : Cx) (e : Expr) : TE := fun σ H Q => ∀ (pins : List (Addr × Obj)) (s : Shared), Inv X pins σ H s → wpAny (model X.prog X.w) X.A (eval e X.env) (EP X pins σ Q) X.xe s
def SemT (X : Cx) (e : Expr) : TT := fun σ H Q => ∀ (pins : List (Addr × Obj)) (s : Shared), Inv X pins σ H s → wpAny (model X.prog X.w) X.A (isTrue e X.env (eval e X.env)) (TP X pins σ Q) X.xe s
def SemW (X : Cx) (e : Expr) : TT := fun σ H Q => ∀ (whole : Sem Value) (pins : List (Addr × Obj)) (s : Shared), Inv X pins σ H s → wpAny (model X.prog X.w) X.A (isTrue e X.env whole) (TP X pins σ Q) X.xe s
def SemA (X : Cx) (es : List Expr) : TA := fun σ H Q => ∀ (pos : Pos) (pins : List (Addr × Obj)) (s : Shared), Inv X pins σ H s → wpAny (model X.prog X.w) X.A (spliced (backTo pos (starEach es X.env))) (AP X pins σ Q) X.xe s
def SemS (X : Cx) (st : Stmt) : TS := fun D σ H => ∀ (pins : List (Addr × Obj)) (s : Shared), Inv X pins σ H s → wpAny (model X.prog X.w) X.A (exec st X.env) (SP X pins D) X.xe s
def SemB (X : Cx) (st : List Stmt) : TS := fun D σ H => ∀ (pins : List (Addr × Obj)) (s : Shared), Inv X pins σ H s → wpAny (model X.prog X.w) X.A (execs st X.env) (SP X pins D) X.xe s
def SemG (X : Cx) (tg : Expr) : TG := fun v σ H Q => ∀ (pins : List (Addr × Obj)) (s : Shared) (u : Value), Inv X pins σ H s → RelV v u →
  wpAny (model X.prog X.w) X.A (assign tg X.env u) (fun _ s' => ∃ σ' H', Inv X pins σ' H' s' ∧ Q σ' H') X.xe s
def SemGs (X : Cx) (ts : List Expr) : TGs := fun vs σ H Q => ∀ (pins : List (Addr × Obj)) (s : Shared) (us : List Value), Inv X pins σ H s → Vals vs us →
  wpAny (model X.prog X.w) X.A (assignInOrder ((assignEach ts X.env).map (·.2)) us) (fun _ s' => ∃ σ' H', Inv X pins σ' H' s' ∧ Q σ' H') X.xe s
def SemI (X : Cx) (tg iter : Expr) : TI := fun σ H R => ∀ (pins : List (Addr × Obj)) (s : Shared), Inv X pins σ H s →
  wpAny (model X.prog X.w) X.A (eval iter X.env) (fun v s1 => wpAny (model X.prog X.w) X.A (pyIter v) (PIE X pins σ tg R) X.xe s1) X.xe s
def SemTs (X : Cx) (ifs : List Expr) : TT := fun σ H Q => ∀ (pins : List (Addr × Obj)) (s : Shared), Inv X pins σ H s →
  wpAny (model X.prog X.w) X.A (forIn ifs true fun c r => if r = true then do let ok ← isTrue c X.env (eval c X.env); pure (ForInStep.yield ok) else pure (ForInStep.yield r)) (TP X pins σ Q) X.xe s
section
variable {X : Cx}
theorem peS (e : Expr) : PE X e (SemE X e) := ⟨fun pins s σ H Q I h => h pins s I⟩
theorem ptS (e : Expr) : PT X e (SemT X e) := ⟨fun pins s σ H Q I h => h pins s I⟩
theorem pwS (e : Expr) : PW X e (SemW X e) := ⟨fun wh pins s σ H Q I h => h wh pins s I⟩
theorem paS (es : List Expr) : PA X es (SemA X es) := ⟨fun pos pins s σ H Q I h => h pos pins s I⟩
theorem psS (st : Stmt) : PS X st (SemS X st) := ⟨fun pins s σ H D I h => h pins s I⟩
theorem pbS (st : List Stmt) : PSs X st (SemB X st) := ⟨fun pins s σ H D I h => h pins s I⟩
theorem pgS (tg : Expr) : PG X tg (SemG X tg) := ⟨fun pins s σ H v u Q I r h => h pins s u I r⟩
theorem pgsS (ts : List Expr) : PGs X ts (SemGs X ts) := ⟨fun pins s σ H vs us Q I r h => h pins s us I r⟩
theorem piS (tg iter : Expr) : PI X tg iter (SemI X tg iter) := ⟨fun pins s σ H R I h => h pins s I⟩
theorem ptsS (ifs : List Expr) : PTs X ifs (SemTs X ifs) := ⟨fun pins s σ H Q I h => h pins s I⟩
theorem ofE {e : Expr} {t : TE} (p : PE X e t) {σ : L2.St} {H : Hp} {Q : VK} (h : t σ H Q) : SemE X e σ H Q := fun pins s I => p.run pins s σ H Q I h
theorem ofT {e : Expr} {t : TT} (p : PT X e t) {σ : L2.St} {H : Hp} {Q : Bool → Hp → Prop} (h : t σ H Q) : SemT X e σ H Q := fun pins s I => p.run pins s σ H Q I h
theorem ofW {e : Expr} {t : TT} (p : PW X e t) {σ : L2.St} {H : Hp} {Q : Bool → Hp → Prop} (h : t σ H Q) : SemW X e σ H Q := fun wh pins s I => p.run wh pins s σ H Q I h
theorem ofA {es : List Expr} {t : TA} (p : PA X es t) {σ : L2.St} {H : Hp} {Q : List V → Hp → Prop} (h : t σ H Q) : SemA X es σ H Q := fun pos pins s I => p.run pos pins s σ H Q I h
theorem ofS {st : Stmt} {t : TS} (p : PS X st t) {σ : L2.St} {H : Hp} {D : Ends} (h : t D σ H) : SemS X st D σ H := fun pins s I => p.run pins s σ H D I h
theorem ofB {st : List Stmt} {t : TS} (p : PSs X st t) {σ : L2.St} {H : Hp} {D : Ends} (h : t D σ H) : SemB X st D σ H := fun pins s I => p.run pins s σ H D I h
theorem ofG {tg : Expr} {t : TG} (p : PG X tg t) {v : V} {σ : L2.St} {H : Hp} {Q : L2.St → Hp → Prop} (h : t v σ H Q) : SemG X tg v σ H Q := fun pins s u I r => p.run pins s σ H v u Q I r h
theorem ofGs {ts : List Expr} {t : TGs} (p : PGs X ts t) {vs : List V} {σ : L2.St} {H : Hp} {Q : L2.St → Hp → Prop} (h : t vs σ H Q) : SemGs X ts vs σ H Q := fun pins s us I r => p.run pins s σ H vs us Q I r h
theorem ofI {tg iter : Expr} {t : TI} (p : PI X tg iter t) {σ : L2.St} {H : Hp} {R : It → Hp → Prop} (h : t σ H R) : SemI X tg iter σ H R := fun pins s I => p.run pins s σ H R I h
theorem ofTs {ifs : List Expr} {t : TT} (p : PTs X ifs t) {σ : L2.St} {H : Hp} {Q : Bool → Hp → Prop} (h : t σ H Q) : SemTs X ifs σ H Q := fun pins s I => p.run pins s σ H Q I h
end

/-! ### names -/
abbrev Cs := List D
/-- what a name stands for: a datum; an object of one's own, that may change -/
inductive Sl where
  | f (d : D)
  | o (d : D)
abbrev En := List (Option Sl)
structure EOk (T : Tb) (G : Hp) (al : List Addr) (H : Hp) (env : En) (σ : L2.St) : Prop where
  len : env.length = σ.length
  frz : ∀ (i : Nat) (d : D), env[i]? = some (some (.f d)) → ∃ v, σ[i]? = some (some v) ∧ Rp T G al d v
  own : ∀ (i : Nat) (d : D), env[i]? = some (some (.o d)) → ∃ a o, σ[i]? = some (some (.ref a)) ∧ G a = none ∧ a ∉ al ∧ H a = some o ∧ Bx T G al a o d
  dis : ∀ (i j : Nat) (d e : D) (a : Addr), env[i]? = some (some (.o d)) → env[j]? = some (some (.o e)) → σ[i]? = some (some (.ref a)) → σ[j]? = some (some (.ref a)) → i = j
section
variable {T : Tb} {G G' H H' : Hp} {al al' : List Addr} {env : En} {σ : L2.St}
theorem EOk.mono (l : Stp G al H G' al' H') (h : EOk T G al H env σ) : EOk T G' al' H' env σ :=
  ⟨h.len, fun i d e => let ⟨v, a, r⟩ := h.frz i d e; ⟨v, a, r.mono l.le⟩,
    fun i d e => let ⟨a, o, s, g, n, hh, b⟩ := h.own i d e; let ⟨g', n', h'⟩ := l.fr a o g n hh; ⟨a, o, s, g', n', h', b.mono l.le⟩, h.dis⟩
/-- a name stored -/
theorem EOk.set (h : EOk T G al H env σ) (i : Nat) {d : D} {v : V} (r : Rp T G al d v) : EOk T G al H (env.set i (some (.f d))) (σ.set i (some v)) := by
  have key : ∀ (j : Nat) (s : Sl), (env.set i (some (.f d)))[j]? = some (some s) → (j = i ∧ s = .f d ∧ i < env.length) ∨ (j ≠ i ∧ env[j]? = some (some s)) := fun j s q => by
    by_cases hj : j = i
    · subst hj
      by_cases hl : j < env.length
      · rw [List.getElem?_set_self hl] at q
        cases q
        exact .inl ⟨rfl, rfl, hl⟩
      · rw [List.getElem?_eq_none (by simpa using hl)] at q; cases q
    · rw [List.getElem?_set_ne (Ne.symm hj)] at q
      exact .inr ⟨hj, q⟩
  refine ⟨by simp [h.len], fun j e q => ?_, fun j e q => ?_, fun j k e f a q1 q2 s1 s2 => ?_⟩
  · rcases key j _ q with ⟨rfl, e1, hl⟩ | ⟨hj, q⟩
    · cases e1
      exact ⟨v, by rw [List.getElem?_set_self (by rw [← h.len]; exact hl)], r⟩
    · obtain ⟨u, a, s⟩ := h.frz j e q
      exact ⟨u, by rw [List.getElem?_set_ne (Ne.symm hj)]; exact a, s⟩
  · rcases key j _ q with ⟨rfl, e1, hl⟩ | ⟨hj, q⟩
    · cases e1
    · obtain ⟨a, o, s, z⟩ := h.own j e q
      exact ⟨a, o, by rw [List.getElem?_set_ne (Ne.symm hj)]; exact s, z⟩
  · rcases key j _ q1 with ⟨rfl, e1, hl⟩ | ⟨hj, q1⟩
    · cases e1
    · rcases key k _ q2 with ⟨rfl, e1, hl⟩ | ⟨hk, q2⟩
      · cases e1
      · rw [List.getElem?_set_ne (Ne.symm hj)] at s1
        rw [List.getElem?_set_ne (Ne.symm hk)] at s2
        exact h.dis j k e f a q1 q2 s1 s2
/-- a name stored: an object of one's own, which no other name has -/
theorem EOk.setO (h : EOk T G al H env σ) (i : Nat) {d : D} {p : Addr} {o : HO} (hg : G p = none) (ha : p ∉ al) (hp : H p = some o) (hb : Bx T G al p o d)
    (hn : ∀ (j : Nat) (e : D), j ≠ i → env[j]? = some (some (.o e)) → σ[j]? ≠ some (some (.ref p))) : EOk T G al H (env.set i (some (.o d))) (σ.set i (some (.ref p))) := by
  have key : ∀ (j : Nat) (s : Sl), (env.set i (some (.o d)))[j]? = some (some s) → (j = i ∧ s = .o d ∧ i < env.length) ∨ (j ≠ i ∧ env[j]? = some (some s)) := fun j s q => by
    by_cases hj : j = i
    · subst hj
      by_cases hl : j < env.length
      · rw [List.getElem?_set_self hl] at q
        cases q
        exact .inl ⟨rfl, rfl, hl⟩
      · rw [List.getElem?_eq_none (by simpa using hl)] at q; cases q
    · rw [List.getElem?_set_ne (Ne.symm hj)] at q
      exact .inr ⟨hj, q⟩
  refine ⟨by simp [h.len], fun j e q => ?_, fun j e q => ?_, fun j k e f a q1 q2 s1 s2 => ?_⟩
  · rcases key j _ q with ⟨rfl, e1, hl⟩ | ⟨hj, q⟩
    · cases e1
    · obtain ⟨u, a, s⟩ := h.frz j e q
      exact ⟨u, by rw [List.getElem?_set_ne (Ne.symm hj)]; exact a, s⟩
  · rcases key j _ q with ⟨rfl, e1, hl⟩ | ⟨hj, q⟩
    · cases e1
      exact ⟨p, o, by rw [List.getElem?_set_self (by rw [← h.len]; exact hl)], hg, ha, hp, hb⟩
    · obtain ⟨a, o', s, z⟩ := h.own j e q
      exact ⟨a, o', by rw [List.getElem?_set_ne (Ne.symm hj)]; exact s, z⟩
  · rcases key j _ q1 with ⟨ej, e1, hl⟩ | ⟨hj, q3⟩
    · rcases key k _ q2 with ⟨ek, e2, _⟩ | ⟨hk, q4⟩
      · rw [ej, ek]
      · rw [ej, List.getElem?_set_self (by rw [← h.len]; exact hl)] at s1
        rw [List.getElem?_set_ne (Ne.symm hk)] at s2
        cases s1
        exact absurd s2 (hn k _ hk q4)
    · rcases key k _ q2 with ⟨ek, e2, hl⟩ | ⟨hk, q4⟩
      · rw [ek, List.getElem?_set_self (by rw [← h.len]; exact hl)] at s2
        rw [List.getElem?_set_ne (Ne.symm hj)] at s1
        cases s2
        exact absurd s1 (hn j _ hj q3)
      · rw [List.getElem?_set_ne (Ne.symm hj)] at s1
        rw [List.getElem?_set_ne (Ne.symm hk)] at s2
        exact h.dis j k e f a q3 q4 s1 s2
/-- an object of one's own changes -/
theorem EOk.putO (h : EOk T G al H env σ) {i : Nat} {d d' : D} {p : Addr} {o : HO} (hi : env[i]? = some (some (.o d))) (hp : σ[i]? = some (some (.ref p))) (hb : Bx T G al p o d') : EOk T G al (upd H p o) (env.set i (some (.o d'))) σ := by
  have hl : i < env.length := (List.getElem?_eq_some_iff.mp hi).1
  obtain ⟨a, o0, hs, hg, ha, hh, b0⟩ := h.own i d hi
  rw [hp] at hs; cases hs
  have key : ∀ (j : Nat) (s : Sl), (env.set i (some (.o d')))[j]? = some (some s) → (j = i ∧ s = .o d') ∨ (j ≠ i ∧ env[j]? = some (some s)) := fun j s q => by
    by_cases hj : j = i
    · subst hj
      rw [List.getElem?_set_self hl] at q
      cases q
      exact .inl ⟨rfl, rfl⟩
    · rw [List.getElem?_set_ne (Ne.symm hj)] at q
      exact .inr ⟨hj, q⟩
  refine ⟨by simp [h.len], fun j e q => ?_, fun j e q => ?_, fun j k e f b q1 q2 s1 s2 => ?_⟩
  · rcases key j _ q with ⟨rfl, e1⟩ | ⟨hj, q⟩
    · cases e1
    · exact h.frz j e q
  · rcases key j _ q with ⟨rfl, e1⟩ | ⟨hj, q⟩
    · cases e1
      exact ⟨p, o, hp, hg, ha, upd_same, hb⟩
    · obtain ⟨b, ob, s, g, n, hb', z⟩ := h.own j e q
      have : b ≠ p := fun z' => hj (h.dis j i e d p q hi (z' ▸ s) hp)
      exact ⟨b, ob, s, g, n, by rw [upd_ne this]; exact hb', z⟩
  · rcases key j _ q1 with ⟨ej, e1⟩ | ⟨hj, q3⟩
    · rcases key k _ q2 with ⟨ek, e2⟩ | ⟨hk, q4⟩
      · rw [ej, ek]
      · subst ej; exact h.dis j k d f b hi q4 s1 s2
    · rcases key k _ q2 with ⟨ek, e2⟩ | ⟨hk, q4⟩
      · subst ek; exact h.dis j k e d b q3 hi s1 s2
      · exact h.dis j k e f b q3 q4 s1 s2
/-- .. will never change from here on -/
theorem EOk.fix (h : EOk T G al H env σ) {i : Nat} {d : D} {p : Addr} {o : HO} (hi : env[i]? = some (some (.o d))) (hp : σ[i]? = some (some (.ref p))) (ho : H p = some o) : EOk T (upd G p o) al H (env.set i (some (.f d))) σ := by
  have hl : i < env.length := (List.getElem?_eq_some_iff.mp hi).1
  obtain ⟨a, o0, hs, hg, ha, hh, b0⟩ := h.own i d hi
  rw [hp] at hs; cases hs
  rw [ho] at hh; cases hh
  have key : ∀ (j : Nat) (s : Sl), (env.set i (some (.f d)))[j]? = some (some s) → (j = i ∧ s = .f d) ∨ (j ≠ i ∧ env[j]? = some (some s)) := fun j s q => by
    by_cases hj : j = i
    · subst hj
      rw [List.getElem?_set_self hl] at q
      cases q
      exact .inl ⟨rfl, rfl⟩
    · rw [List.getElem?_set_ne (Ne.symm hj)] at q
      exact .inr ⟨hj, q⟩
  refine ⟨by simp [h.len], fun j e q => ?_, fun j e q => ?_, fun j k e f b q1 q2 s1 s2 => ?_⟩
  · rcases key j _ q with ⟨rfl, e1⟩ | ⟨hj, q⟩
    · cases e1
      exact ⟨_, hp, .box upd_same (b0.mono (.upd hg))⟩
    · obtain ⟨v, s, r⟩ := h.frz j e q
      exact ⟨v, s, r.mono (.upd hg)⟩
  · rcases key j _ q with ⟨rfl, e1⟩ | ⟨hj, q⟩
    · cases e1
    · obtain ⟨b, ob, s, g, n, hb', z⟩ := h.own j e q
      have : b ≠ p := fun z' => hj (h.dis j i e d p q hi (z' ▸ s) hp)
      exact ⟨b, ob, s, by rw [upd_ne this]; exact g, n, hb', z.mono (.upd hg)⟩
  · rcases key j _ q1 with ⟨rfl, e1⟩ | ⟨hj, q1⟩
    · cases e1
    · rcases key k _ q2 with ⟨rfl, e2⟩ | ⟨hk, q2⟩
      · cases e2
      · exact h.dis j k e f b q1 q2 s1 s2
def wipeD (env : En) : List Nat → En
  | [] => env
  | v :: vs => (wipeD env vs).set v none
theorem EOk.wipe1 (h : EOk T G al H env σ) (v : Nat) : EOk T G al H (env.set v none) (σ.set v none) := by
  have key : ∀ (j : Nat) (s : Sl), (env.set v none)[j]? = some (some s) → j ≠ v ∧ env[j]? = some (some s) := fun j s q => by
    by_cases hj : j = v
    · subst hj
      by_cases hl : j < env.length
      · rw [List.getElem?_set_self hl] at q; cases q
      · rw [List.getElem?_eq_none (by simpa using hl)] at q; cases q
    · rw [List.getElem?_set_ne (Ne.symm hj)] at q
      exact ⟨hj, q⟩
  refine ⟨by simp [h.len], fun j e q => ?_, fun j e q => ?_, fun j k e f a q1 q2 s1 s2 => ?_⟩
  · obtain ⟨hj, q⟩ := key j _ q
    obtain ⟨u, a, s⟩ := h.frz j e q
    exact ⟨u, by rw [List.getElem?_set_ne (Ne.symm hj)]; exact a, s⟩
  · obtain ⟨hj, q⟩ := key j _ q
    obtain ⟨a, o, s, z⟩ := h.own j e q
    exact ⟨a, o, by rw [List.getElem?_set_ne (Ne.symm hj)]; exact s, z⟩
  · obtain ⟨hj, q1⟩ := key j _ q1
    obtain ⟨hk, q2⟩ := key k _ q2
    rw [List.getElem?_set_ne (Ne.symm hj)] at s1
    rw [List.getElem?_set_ne (Ne.symm hk)] at s2
    exact h.dis j k e f a q1 q2 s1 s2
theorem EOk.wipe (h : EOk T G al H env σ) : ∀ vs : List Nat, EOk T G al H (wipeD env vs) (L2.wipe σ vs)
  | [] => h
  | v :: vs => (EOk.wipe h vs).wipe1 v
end

/-- where code runs: n calls deep at most from here -/
structure Tied (T : Tb) (n : Nat) (X : Cx) : Prop where
  K : X.K = T.K
  P : X.prog = T.P
  w : X.w = T.w
  mg : X.mg = T.mg
  base : X.base = T.base
  calm : X.calm = true
  nd : X.N.Nodup
  room : Room n X.A

/-- what is wanted behind a value; behind one that is looked at alone; behind a new object -/
abbrev Aft (T : Tb) (G : Hp) (al : List Addr) (H : Hp) (d : D) (c' : Cs) (Q : VK) : Prop :=
  ∀ (G' : Hp) (al' : List Addr) (H' : Hp) (v : V), Stp G al H G' al' H' → HSt T G' al' c' H' → Rp T G' al' d v → Q v H'
abbrev AftQ (T : Tb) (G : Hp) (al : List Addr) (H : Hp) (d : D) (c' : Cs) (Q : VK) : Prop :=
  ∀ (G' : Hp) (al' : List Addr) (H' : Hp) (v : V), Stp G al H G' al' H' → HSt T G' al' c' H' → Rq T G' al' H' d v → Q v H'
abbrev AftN (T : Tb) (G : Hp) (al : List Addr) (H : Hp) (d : D) (c' : Cs) (Q : VK) : Prop :=
  ∀ (G' : Hp) (al' : List Addr) (H' : Hp) (a : Addr) (o : HO), Stp G al H G' al' H' → HSt T G' al' c' H' → G' a = none → a ∉ al' → H a = none → H' a = some o → Bx T G' al' a o d → Q (.ref a) H'
abbrev AftT (T : Tb) (G : Hp) (al : List Addr) (H : Hp) (b : Bool) (c' : Cs) (Q : Bool → Hp → Prop) : Prop :=
  ∀ (G' : Hp) (al' : List Addr) (H' : Hp), Stp G al H G' al' H' → HSt T G' al' c' H' → Q b H'
abbrev AftA (T : Tb) (G : Hp) (al : List Addr) (H : Hp) (ds : List D) (c' : Cs) (Q : List V → Hp → Prop) : Prop :=
  ∀ (G' : Hp) (al' : List Addr) (H' : Hp) (vs : List V), Stp G al H G' al' H' → HSt T G' al' c' H' → RpL T G' al' ds vs → Q vs H'

abbrev FE := En → Cs → Option (D × Cs)
abbrev FT := En → Cs → Option (Bool × Cs)
abbrev FA := En → Cs → Option (List D × Cs)
structure TrE (T : Tb) (n : Nat) (X : Cx) (e : Expr) (f : FE) : Prop where
  run : Tied T n X → ∀ (G : Hp) (al : List Addr) (c : Cs) (env : En) (σ : L2.St) (H : Hp) (Q : VK) (d : D) (c' : Cs), HSt T G al c H → EOk T G al H env σ → f env c = some (d, c') → Aft T G al H d c' Q → SemE X e σ H Q
/-- .. looked at alone: an object of one's own too -/
structure TrQ (T : Tb) (n : Nat) (X : Cx) (e : Expr) (f : FE) : Prop where
  run : Tied T n X → ∀ (G : Hp) (al : List Addr) (c : Cs) (env : En) (σ : L2.St) (H : Hp) (Q : VK) (d : D) (c' : Cs), HSt T G al c H → EOk T G al H env σ → f env c = some (d, c') → AftQ T G al H d c' Q → SemE X e σ H Q
/-- a new list, dict, instance -/
structure TrN (T : Tb) (n : Nat) (X : Cx) (e : Expr) (f : FE) : Prop where
  run : Tied T n X → ∀ (G : Hp) (al : List Addr) (c : Cs) (env : En) (σ : L2.St) (H : Hp) (Q : VK) (d : D) (c' : Cs), HSt T G al c H → EOk T G al H env σ → f env c = some (d, c') → AftN T G al H d c' Q → SemE X e σ H Q
structure TrT (T : Tb) (n : Nat) (X : Cx) (e : Expr) (f : FT) : Prop where
  run : Tied T n X → ∀ (G : Hp) (al : List Addr) (c : Cs) (env : En) (σ : L2.St) (H : Hp) (Q : Bool → Hp → Prop) (b : Bool) (c' : Cs), HSt T G al c H → EOk T G al H env σ → f env c = some (b, c') → AftT T G al H b c' Q → SemT X e σ H Q
structure TrW (T : Tb) (n : Nat) (X : Cx) (e : Expr) (f : FT) : Prop where
  run : Tied T n X → ∀ (G : Hp) (al : List Addr) (c : Cs) (env : En) (σ : L2.St) (H : Hp) (Q : Bool → Hp → Prop) (b : Bool) (c' : Cs), HSt T G al c H → EOk T G al H env σ → f env c = some (b, c') → AftT T G al H b c' Q → SemW X e σ H Q
structure TrTs (T : Tb) (n : Nat) (X : Cx) (es : List Expr) (f : FT) : Prop where
  run : Tied T n X → ∀ (G : Hp) (al : List Addr) (c : Cs) (env : En) (σ : L2.St) (H : Hp) (Q : Bool → Hp → Prop) (b : Bool) (c' : Cs), HSt T G al c H → EOk T G al H env σ → f env c = some (b, c') → AftT T G al H b c' Q → SemTs X es σ H Q
structure TrA (T : Tb) (n : Nat) (X : Cx) (es : List Expr) (f : FA) : Prop where
  run : Tied T n X → ∀ (G : Hp) (al : List Addr) (c : Cs) (env : En) (σ : L2.St) (H : Hp) (Q : List V → Hp → Prop) (ds : List D) (c' : Cs), HSt T G al c H → EOk T G al H env σ → f env c = some (ds, c') → AftA T G al H ds c' Q → SemA X es σ H Q
/-- arguments that are looked at alone -/
inductive RqL (T : Tb) (G : Hp) (al : List Addr) (H : Hp) : List D → List V → Prop
  | nil : RqL T G al H [] []
  | cons {d : D} {v : V} {ds : List D} {vs : List V} : Rq T G al H d v → RqL T G al H ds vs → RqL T G al H (d :: ds) (v :: vs)
theorem RqL.mono {T : Tb} {G G' H H' : Hp} {al al' : List Addr} (s : Stp G al H G' al' H') : ∀ {ds : List D} {vs : List V}, RqL T G al H ds vs → RqL T G' al' H' ds vs
  | _, _, .nil => .nil
  | _, _, .cons h t => .cons (h.mono s) (RqL.mono s t)
theorem RqL.one {T : Tb} {G H : Hp} {al : List Addr} {d : D} {vs : List V} : RqL T G al H [d] vs → ∃ v, vs = [v] ∧ Rq T G al H d v
  | .cons r .nil => ⟨_, rfl, r⟩
theorem RqL.two {T : Tb} {G H : Hp} {al : List Addr} {d e : D} {vs : List V} : RqL T G al H [d, e] vs → ∃ v u, vs = [v, u] ∧ Rq T G al H d v ∧ Rq T G al H e u
  | .cons r (.cons q .nil) => ⟨_, _, rfl, r, q⟩
structure TrQA (T : Tb) (n : Nat) (X : Cx) (es : List Expr) (f : FA) : Prop where
  run : Tied T n X → ∀ (G : Hp) (al : List Addr) (c : Cs) (env : En) (σ : L2.St) (H : Hp) (Q : List V → Hp → Prop) (ds : List D) (c' : Cs), HSt T G al c H → EOk T G al H env σ → f env c = some (ds, c') →
    (∀ (G' : Hp) (al' : List Addr) (H' : Hp) (vs : List V), Stp G al H G' al' H' → HSt T G' al' c' H' → RqL T G' al' H' ds vs → Q vs H') → SemA X es σ H Q

/-! ### operators by data -/
abbrev F2 := D → D → Cs → Option (D × Cs)
abbrev FC := List D → Cs → Option (D × Cs)
def rD (T : Tb) (g : F2) : R2 := fun x y H Q => ∃ (G : Hp) (al : List Addr) (c : Cs) (dx dy d : D) (c' : Cs), HSt T G al c H ∧ Rq T G al H dx x ∧ Rq T G al H dy y ∧ g dx dy c = some (d, c') ∧ Aft T G al H d c' Q
def rDN (T : Tb) (g : F2) : R2 := fun x y H Q => ∃ (G : Hp) (al : List Addr) (c : Cs) (dx dy d : D) (c' : Cs), HSt T G al c H ∧ Rq T G al H dx x ∧ Rq T G al H dy y ∧ g dx dy c = some (d, c') ∧ AftN T G al H d c' Q
def rC (T : Tb) (g : FC) : List V → Hp → VK → Prop := fun xs H Q => ∃ (G : Hp) (al : List Addr) (c : Cs) (ds : List D) (d : D) (c' : Cs), HSt T G al c H ∧ RqL T G al H ds xs ∧ g ds c = some (d, c') ∧ Aft T G al H d c' Q
def rCN (T : Tb) (g : FC) : List V → Hp → VK → Prop := fun xs H Q => ∃ (G : Hp) (al : List Addr) (c : Cs) (ds : List D) (d : D) (c' : Cs), HSt T G al c H ∧ RqL T G al H ds xs ∧ g ds c = some (d, c') ∧ AftN T G al H d c' Q

section
variable {T : Tb} {n : Nat} {X : Cx} {pos : Pos} {a b e : Expr} {es : List Expr} {fa fb fe : FE} {ft fu : FT}
theorem TrE.q (h : TrE T n X e fe) : TrQ T n X e fe := ⟨fun t G al c env σ H Q d c' hs he hf q => h.run t G al c env σ H Q d c' hs he hf fun G' al' H' v l s r => q G' al' H' v l s (.inl r)⟩
/-- the new object will never change -/
theorem TrN.fz (h : TrN T n X e fe) : TrE T n X e fe := by
  refine ⟨fun t G al c env σ H Q d c' hs he hf q => h.run t G al c env σ H Q d c' hs he hf ?_⟩
  intro G' al' H' p o le hs' hg ha hp0 hp hb
  refine q (upd G' p o) al' H' (.ref p) ⟨le.le.trans (.upd hg), fun a u g m e => ?_⟩ (hs'.fix hg ha hp) (.box upd_same (hb.mono (.upd hg)))
  obtain ⟨g', n', h'⟩ := le.fr a u g m e
  have na : a ≠ p := ne_of_none e hp0
  exact ⟨by rw [upd_ne na]; exact g', n', h'⟩
/-- the new object may change: it becomes the next cell -/
def fCell (f : FE) : FE := fun env c => match f env c with | some (d, c1) => some (.cell c1.length, c1 ++ [d]) | none => none
theorem TrN.cl (h : TrN T n X e fe) : TrE T n X e (fCell fe) := by
  refine ⟨fun t G al c env σ H Q d c' hs he hf q => ?_⟩
  unfold fCell at hf
  split at hf
  case h_2 => cases hf
  case h_1 d1 c1 e1 =>
    cases hf
    refine h.run t G al c env σ H Q d1 c1 hs he e1 ?_
    intro G' al' H' a o le hs' hg ha hp0 hp hb
    refine q G' (al' ++ [a]) H' (.ref a) ⟨⟨le.le.g, le.le.a.trans (List.prefix_append _ _)⟩, fun b u g m e => ?_⟩ (hs'.cell hg ha hp hb) (.cell ?_)
    · obtain ⟨g', n', h'⟩ := le.fr b u g m e
      have nb : b ≠ a := ne_of_none e hp0
      exact ⟨g', by simp [n', nb], h'⟩
    · rw [← hs'.len]
      simp

/-! ### names, constants -/
def fVar (i : Nat) : FE := fun env c => match env[i]? with | some (some (.f d)) => some (d, c) | _ => none
/-- a datum, or an object of one's own as it is -/
def fVarQ (i : Nat) : FE := fun env c => match env[i]? with | some (some (.f d)) => some (d, c) | some (some (.o d)) => some (d, c) | _ => none
def fC (d : D) : FE := fun _ c => some (d, c)
theorem tr_var (i : Nat) {x : Str} (hN : X.N[i]? = some x := by rfl) (hv : Vis X.env.scope x := by first | exact Or.inl rfl | exact Or.inr (Or.inl rfl) | exact Or.inr (Or.inr rfl)) (hd : (x == ("__debug__" : Str)) = false := by decide)
    (hcd : (x == ("__classdict__" : Str)) = false := by decide) : TrE T n X (.Name x pos) (fVar i) := by
  refine ⟨fun t G al c env σ H Q d c' hs he hf q => ofE (pe_var hN hv hd hcd) ?_⟩
  unfold fVar at hf
  split at hf
  case h_2 => cases hf
  case h_1 d' e1 =>
    cases hf
    obtain ⟨v, hv', r⟩ := he.frz i _ e1
    exact ⟨v, hv', q G al H v (.refl _ _ _) hs r⟩
theorem tq_var (i : Nat) {x : Str} (hN : X.N[i]? = some x := by rfl) (hv : Vis X.env.scope x := by first | exact Or.inl rfl | exact Or.inr (Or.inl rfl) | exact Or.inr (Or.inr rfl)) (hd : (x == ("__debug__" : Str)) = false := by decide)
    (hcd : (x == ("__classdict__" : Str)) = false := by decide) : TrQ T n X (.Name x pos) (fVarQ i) := by
  refine ⟨fun t G al c env σ H Q d c' hs he hf q => ofE (pe_var hN hv hd hcd) ?_⟩
  unfold fVarQ at hf
  split at hf
  case h_3 => cases hf
  case h_1 d' e1 =>
    cases hf
    obtain ⟨v, hv', r⟩ := he.frz i _ e1
    exact ⟨v, hv', q G al H v (.refl _ _ _) hs (.inl r)⟩
  case h_2 d' e1 =>
    cases hf
    obtain ⟨a, o, hv', g, m, hh, b⟩ := he.own i _ e1
    exact ⟨.ref a, hv', q G al H _ (.refl _ _ _) hs (.inr ⟨a, o, rfl, g, m, hh, b⟩)⟩
theorem tr_of {t : TE} {d : D} {v : V} (p : PE X e t) (ht : ∀ σ H Q, Q v H → t σ H Q) (r : ∀ G al, Rp T G al d v) : TrE T n X e (fC d) := by
  refine ⟨fun t' G al c env σ H Q d' c' hs he hf q => ofE p (ht σ H Q ?_)⟩
  cases hf
  exact q G al H v (.refl _ _ _) hs (r G al)
theorem tr_int {i : Int} {j} : TrE T n X (.Constant (.int i) j pos) (fC (.int i)) := tr_of pe_int (fun _ _ _ h => h) fun _ _ => .int i
theorem tr_bl {b : Bool} {j} : TrE T n X (.Constant (.bool b) j pos) (fC (.bl b)) := tr_of pe_bl (fun _ _ _ h => h) fun _ _ => .bl b
theorem tr_non {j} : TrE T n X (.Constant .none j pos) (fC .non) := tr_of pe_non (fun _ _ _ h => h) fun _ _ => .non
theorem tr_str {x : Str} {j} : TrE T n X (.Constant (.str x) j pos) (fC (.str x)) := tr_of pe_str (fun _ _ _ h => h) fun _ _ => .str x
theorem tr_gint {x : Str} {i : Int} (hm : ∃ t, X.mg x = some (.int i t)) (hg : Gl X x := by rfl) (hd : (x == ("__debug__" : Str)) = false := by decide) : TrE T n X (.Name x pos) (fC (.int i)) :=
  let ⟨t, hm⟩ := hm; tr_of (pe_glob (v := .int i) hg hm ⟨t, rfl⟩ hd) (fun _ _ _ h => h) fun _ _ => .int i
theorem tr_gstr {x y : Str} (hm : ∃ t, X.mg x = some (.str y t)) (hg : Gl X x := by rfl) (hd : (x == ("__debug__" : Str)) = false := by decide) : TrE T n X (.Name x pos) (fC (.str y)) :=
  let ⟨t, hm⟩ := hm; tr_of (pe_glob (v := .str y) hg hm ⟨t, rfl⟩ hd) (fun _ _ _ h => h) fun _ _ => .str y
theorem tr_gcls {x : Str} {k : Nat} (hm : X.mg x = some (.ref (T.cl k))) (hg : Gl X x := by rfl) (hd : (x == ("__debug__" : Str)) = false := by decide) : TrE T n X (.Name x pos) (fC (.cls k)) :=
  tr_of (pe_glob (v := .ref (T.cl k)) hg hm rfl hd) (fun _ _ _ h => h) fun _ _ => .cls k

/-! ### operators -/
def fOp (g : F2) (fa fb : FE) : FE := fun env c => match fa env c with
  | some (x, c1) => match fb env c1 with
    | some (y, c2) => g x y c2
    | none => none
  | none => none
theorem two {R : V → V → Hp → Prop} {G : Hp} {al : List Addr} {c : Cs} {env : En} {σ : L2.St} {H : Hp} {r : D × Cs} {g : F2} (t : Tied T n X) (ha : TrQ T n X a fa) (hb : TrQ T n X b fb) (hs : HSt T G al c H) (he : EOk T G al H env σ) (hf : fOp g fa fb env c = some r)
    (k : ∀ (G2 : Hp) (al2 : List Addr) (c2 : Cs) (H2 : Hp) (x y : D) (v u : V), Stp G al H G2 al2 H2 → HSt T G2 al2 c2 H2 → Rq T G2 al2 H2 x v → Rq T G2 al2 H2 y u → g x y c2 = some r → R v u H2) :
    SemE X a σ H fun v H1 => SemE X b σ H1 fun u H2 => R v u H2 := by
  unfold fOp at hf
  split at hf
  case h_2 => cases hf
  case h_1 x c1 e1 =>
    split at hf
    case h_2 => cases hf
    case h_1 y c2 e2 =>
      refine ha.run t G al c env σ H _ x c1 hs he e1 fun G1 al1 H1 v l1 hs1 r1 => ?_
      exact hb.run t G1 al1 c1 env σ H1 _ y c2 hs1 (he.mono l1) e2 fun G2 al2 H2 u l2 hs2 r2 => k G2 al2 c2 H2 x y v u (l1.trans l2) hs2 (r1.mono l2) r2 hf
theorem tr_op {op : Operator} {g : F2} (ho : Tied T n X → OpR X (binaryOp op) (rD T g)) (ha : TrQ T n X a fa) (hb : TrQ T n X b fb) : TrE T n X (.BinOp a op b pos) (fOp g fa fb) :=
  ⟨fun t G al c env σ H Q d c' hs he hf q => ofE (pe_op (ho t) (peS a) (peS b)) (two t ha hb hs he hf fun G2 al2 c2 H2 x y v u l hs2 rx ry hg =>
    ⟨G2, al2, c2, x, y, d, c', hs2, rx, ry, hg, fun G' al' H' v' l' => q G' al' H' v' (l.trans l')⟩)⟩
theorem tr_opN {op : Operator} {g : F2} (ho : Tied T n X → OpR X (binaryOp op) (rDN T g)) (ha : TrQ T n X a fa) (hb : TrQ T n X b fb) : TrN T n X (.BinOp a op b pos) (fOp g fa fb) := by
  refine ⟨fun t G al c env σ H Q d c' hs he hf q => ofE (pe_op (ho t) (peS a) (peS b)) (two t ha hb hs he hf fun G2 al2 c2 H2 x y v u l hs2 rx ry hg =>
    ⟨G2, al2, c2, x, y, d, c', hs2, rx, ry, hg, fun G' al' H' v' o l' hs' hg' ha' hp0 => q G' al' H' v' o (l.trans l') hs' hg' ha' ?_⟩)⟩
  cases hh : H v' with
  | none => rfl
  | some u =>
    by_cases hg0 : G v' = none
    · by_cases hm : v' ∈ al
      · exact absurd (l.le.a.subset hm) (fun z => hs2.apart hp0 z)
      · obtain ⟨_, _, z⟩ := l.fr v' u hg0 hm hh
        rw [z] at hp0; cases hp0
    · cases hq : G v' with
      | none => exact absurd hq hg0
      | some u' =>
        have z := hs2.ex v' u' (l.le.g _ _ hq)
        rw [z] at hp0; cases hp0
theorem tr_cmp {op : CmpOp} {g : F2} (ho : Tied T n X → OpR X (compareOp op) (rD T g)) (ha : TrQ T n X a fa) (hb : TrQ T n X b fb) (hm : behindInMarks op b = false := by first | exact nomark _ | rfl) : TrE T n X (.Compare a [op] [b] pos) (fOp g fa fb) :=
  ⟨fun t G al c env σ H Q d c' hs he hf q => ofE (pe_cmpR (ho t) (peS a) (peS b) hm) (two t ha hb hs he hf fun G2 al2 c2 H2 x y v u l hs2 rx ry hg =>
    ⟨G2, al2, c2, x, y, d, c', hs2, rx, ry, hg, fun G' al' H' v' l' => q G' al' H' v' (l.trans l')⟩)⟩
/-- an expression's value as a test's -/
def asB (f : FE) : FT := fun env c => match f env c with | some (.bl b, c') => some (b, c') | _ => none
theorem Rp.bl_inv {G : Hp} {al : List Addr} {b : Bool} {v : V} (r : Rp T G al (.bl b) v) : v = .bl b := by
  cases r with
  | bl => rfl
  | box _ z => cases z
theorem tt_cmp {op : CmpOp} {g : F2} (ho : Tied T n X → OpR X (compareOp op) (rD T g)) (ha : TrQ T n X a fa) (hb : TrQ T n X b fb) (hm : behindInMarks op b = false := by first | exact nomark _ | rfl) : TrT T n X (.Compare a [op] [b] pos) (asB (fOp g fa fb)) := by
  refine ⟨fun t G al c env σ H Q k c' hs he hf q => ofT (pt_cmpR (ho t) (peS a) (peS b) hm) ?_⟩
  unfold asB at hf
  split at hf
  case h_2 => cases hf
  case h_1 k' c1 e1 =>
    cases hf
    refine two t ha hb hs he e1 fun G2 al2 c2 H2 x y v u l hs2 rx ry hg => ?_
    exact ⟨G2, al2, c2, x, y, _, _, hs2, rx, ry, hg, fun G' al' H' v' l' hs' r => ⟨_, r.bl_inv, q G' al' H' (l.trans l') hs'⟩⟩
theorem tt_val (h : TrE T n X e fe) (he : ∀ whole, isTrue e X.env whole = (do let v ← whole; standAt e.pos; holding [v] (truthy v)) := by intro _; rfl) : TrT T n X e (asB fe) := by
  refine ⟨fun t G al c env σ H Q k c' hs heo hf q => ofT (pt_val (peS e) he) ?_⟩
  unfold asB at hf
  split at hf
  case h_2 => cases hf
  case h_1 k' c1 e1 =>
    cases hf
    exact h.run t G al c env σ H _ _ _ hs heo e1 fun G' al' H' v l hs' r => ⟨_, r.bl_inv, q G' al' H' l hs'⟩
/-- a < b < c: b is asked once -/
def fChain (g g' : F2) (fa fb fc : FE) : FE := fun env c => match fa env c with
  | some (x, c1) => match fb env c1 with
    | some (y, c2) => match g x y c2 with
      | some (.bl true, c3) => match fc env c3 with
        | some (z, c4) => g' y z c4
        | none => none
      | some (.bl false, c3) => some (.bl false, c3)
      | _ => none
    | none => none
  | none => none
theorem chain {R : VK} {e3 : Expr} {fc : FE} {op op' : CmpOp} {G : Hp} {al : List Addr} {c : Cs} {env : En} {σ : L2.St} {H : Hp} {d : D} {c' : Cs} {g g' : F2} (t : Tied T n X)
    (ha : TrQ T n X a fa) (hb : TrQ T n X b fb) (hc : TrQ T n X e3 fc) (hs : HSt T G al c H) (he : EOk T G al H env σ) (hf : fChain g g' fa fb fc env c = some (d, c')) (q : Aft T G al H d c' R) :
    tChain (rD T g) (rD T g') (SemE X a) (SemE X b) (SemE X e3) σ H R := by
  unfold fChain at hf
  split at hf
  case h_2 => cases hf
  case h_1 x c1 e1 =>
    split at hf
    case h_2 => cases hf
    case h_1 y c2 e2 =>
      refine ha.run t G al c env σ H _ x c1 hs he e1 fun G1 al1 H1 v l1 hs1 r1 => ?_
      refine hb.run t G1 al1 c1 env σ H1 _ y c2 hs1 (he.mono l1) e2 fun G2 al2 H2 u l2 hs2 r2 => ?_
      split at hf
      case h_3 => cases hf
      case h_1 c3 e4 =>
        split at hf
        case h_2 => cases hf
        case h_1 z c4 e5 =>
          refine ⟨G2, al2, c2, x, y, _, _, hs2, r1.mono l2, r2, e4, fun G3 al3 H3 v3 l3 hs3 r3 => ⟨true, r3.bl_inv, iteT ?_⟩⟩
          refine hc.run t G3 al3 c3 env σ H3 _ z c4 hs3 (he.mono ((l1.trans l2).trans l3)) e5 fun G4 al4 H4 w l4 hs4 r4 => ?_
          exact ⟨G4, al4, c4, y, z, d, c', hs4, (r2.mono l3).mono l4, r4, hf, fun G' al' H' v' l' => q G' al' H' v' ((((l1.trans l2).trans l3).trans l4).trans l')⟩
      case h_2 c3 e4 =>
        cases hf
        exact ⟨G2, al2, c2, x, y, _, _, hs2, r1.mono l2, r2, e4, fun G3 al3 H3 v3 l3 hs3 r3 => ⟨false, r3.bl_inv, iteF (q G3 al3 H3 _ ((l1.trans l2).trans l3) hs3 (.bl _))⟩⟩

/-! ### and, or, not -/
def fAnd (f g : FT) : FT := fun env c => match f env c with | some (true, c1) => g env c1 | some (false, c1) => some (false, c1) | none => none
def fOr (f g : FT) : FT := fun env c => match f env c with | some (false, c1) => g env c1 | some (true, c1) => some (true, c1) | none => none
def fNot (f : FT) : FT := fun env c => match f env c with | some (b, c1) => some (!b, c1) | none => none
variable {rest : List Expr}
theorem TrW.tt (h : TrW T n X e ft) : TrT T n X e ft := ⟨fun t G al c env σ H Q b c' hs he hf q => fun pins s I => (ofW (pwS e) (h.run t G al c env σ H Q b c' hs he hf q)) _ pins s I⟩
theorem tw_and1 (h : TrT T n X a ft) : TrW T n X (.BoolOp .And [a] pos) ft := ⟨fun t G al c env σ H Q b c' hs he hf q => ofW (pw_and1 (ptS a)) (h.run t G al c env σ H Q b c' hs he hf q)⟩
theorem tw_or1 (h : TrT T n X a ft) : TrW T n X (.BoolOp .Or [a] pos) ft := ⟨fun t G al c env σ H Q b c' hs he hf q => ofW (pw_or1 (ptS a)) (h.run t G al c env σ H Q b c' hs he hf q)⟩
theorem tw_and (h : TrT T n X a ft) (h2 : TrW T n X (.BoolOp .And (b :: rest) pos) fu) : TrW T n X (.BoolOp .And (a :: b :: rest) pos) (fAnd ft fu) := by
  refine ⟨fun t G al c env σ H Q k c' hs he hf q => ofW (pw_and (ptS a) (pwS _)) ?_⟩
  unfold fAnd at hf
  split at hf
  case h_1 c1 e1 =>
    exact h.run t G al c env σ H _ _ _ hs he e1 fun G1 al1 H1 l1 hs1 => iteT (h2.run t G1 al1 c1 env σ H1 _ _ _ hs1 (he.mono l1) hf fun G' al' H' l' hs' => q G' al' H' (l1.trans l') hs')
  case h_2 c1 e1 =>
    cases hf
    exact h.run t G al c env σ H _ _ _ hs he e1 fun G1 al1 H1 l1 hs1 => iteF (q G1 al1 H1 l1 hs1)
  case h_3 => cases hf
theorem tw_or (h : TrT T n X a ft) (h2 : TrW T n X (.BoolOp .Or (b :: rest) pos) fu) : TrW T n X (.BoolOp .Or (a :: b :: rest) pos) (fOr ft fu) := by
  refine ⟨fun t G al c env σ H Q k c' hs he hf q => ofW (pw_or (ptS a) (pwS _)) ?_⟩
  unfold fOr at hf
  split at hf
  case h_1 c1 e1 =>
    exact h.run t G al c env σ H _ _ _ hs he e1 fun G1 al1 H1 l1 hs1 => iteF (h2.run t G1 al1 c1 env σ H1 _ _ _ hs1 (he.mono l1) hf fun G' al' H' l' hs' => q G' al' H' (l1.trans l') hs')
  case h_2 c1 e1 =>
    cases hf
    exact h.run t G al c env σ H _ _ _ hs he e1 fun G1 al1 H1 l1 hs1 => iteT (q G1 al1 H1 l1 hs1)
  case h_3 => cases hf
theorem tt_not (h : TrT T n X a ft) : TrT T n X (.UnaryOp .Not a pos) (fNot ft) := by
  refine ⟨fun t G al c env σ H Q k c' hs he hf q => ofT (pt_not (ptS a)) ?_⟩
  unfold fNot at hf
  split at hf
  case h_2 => cases hf
  case h_1 b c1 e1 =>
    cases hf
    exact h.run t G al c env σ H _ _ _ hs he e1 fun G1 al1 H1 l1 hs1 => q G1 al1 H1 l1 hs1
/-- .. as values -/
def fAndV (f g : FE) : FE := fun env c => match f env c with | some (.bl true, c1) => g env c1 | some (.bl false, c1) => some (.bl false, c1) | _ => none
def fOrV (f g : FE) : FE := fun env c => match f env c with | some (.bl false, c1) => g env c1 | some (.bl true, c1) => some (.bl true, c1) | _ => none
def fNotV (f : FE) : FE := fun env c => match f env c with | some (.bl b, c1) => some (.bl (!b), c1) | _ => none
theorem tr_one {op} (h : TrE T n X a fa) : TrE T n X (.BoolOp op [a] pos) fa := ⟨fun t G al c env σ H Q d c' hs he hf q => ofE (pe_one (peS a)) (h.run t G al c env σ H Q d c' hs he hf q)⟩
theorem tr_and (h : TrE T n X a fa) (h2 : TrE T n X (.BoolOp .And (b :: rest) pos) fb) : TrE T n X (.BoolOp .And (a :: b :: rest) pos) (fAndV fa fb) := by
  refine ⟨fun t G al c env σ H Q d c' hs he hf q => ofE (pe_and (peS a) (peS _)) ?_⟩
  unfold fAndV at hf
  split at hf
  case h_1 c1 e1 =>
    refine h.run t G al c env σ H _ _ _ hs he e1 fun G1 al1 H1 v l1 hs1 r => ?_
    exact ⟨true, r.bl_inv, iteT (h2.run t G1 al1 c1 env σ H1 _ _ _ hs1 (he.mono l1) hf fun G' al' H' v' l' hs' r' => q G' al' H' v' (l1.trans l') hs' r')⟩
  case h_2 c1 e1 =>
    cases hf
    refine h.run t G al c env σ H _ _ _ hs he e1 fun G1 al1 H1 v l1 hs1 r => ?_
    exact ⟨false, r.bl_inv, iteF (q G1 al1 H1 _ l1 hs1 (.bl _))⟩
  case h_3 => cases hf
theorem tr_or (h : TrE T n X a fa) (h2 : TrE T n X (.BoolOp .Or (b :: rest) pos) fb) : TrE T n X (.BoolOp .Or (a :: b :: rest) pos) (fOrV fa fb) := by
  refine ⟨fun t G al c env σ H Q d c' hs he hf q => ofE (pe_or (peS a) (peS _)) ?_⟩
  unfold fOrV at hf
  split at hf
  case h_1 c1 e1 =>
    refine h.run t G al c env σ H _ _ _ hs he e1 fun G1 al1 H1 v l1 hs1 r => ?_
    exact ⟨false, r.bl_inv, iteF (h2.run t G1 al1 c1 env σ H1 _ _ _ hs1 (he.mono l1) hf fun G' al' H' v' l' hs' r' => q G' al' H' v' (l1.trans l') hs' r')⟩
  case h_2 c1 e1 =>
    cases hf
    refine h.run t G al c env σ H _ _ _ hs he e1 fun G1 al1 H1 v l1 hs1 r => ?_
    exact ⟨true, r.bl_inv, iteT (q G1 al1 H1 _ l1 hs1 (.bl _))⟩
  case h_3 => cases hf
theorem tr_not (h : TrE T n X a fa) : TrE T n X (.UnaryOp .Not a pos) (fNotV fa) := by
  refine ⟨fun t G al c env σ H Q d c' hs he hf q => ofE (pe_not (peS a)) ?_⟩
  unfold fNotV at hf
  split at hf
  case h_2 => cases hf
  case h_1 b c1 e1 =>
    cases hf
    refine h.run t G al c env σ H _ _ _ hs he e1 fun G1 al1 H1 v l1 hs1 r => ?_
    exact ⟨_, r.bl_inv, q G1 al1 H1 _ l1 hs1 (.bl _)⟩
def fIf (ft : FT) (f g : FE) : FE := fun env c => match ft env c with | some (true, c1) => f env c1 | some (false, c1) => g env c1 | none => none
theorem tr_if {t0 : Expr} (ht : TrT T n X t0 ft) (ha : TrE T n X a fa) (hb : TrE T n X b fb) : TrE T n X (.IfExp t0 a b pos) (fIf ft fa fb) := by
  refine ⟨fun t G al c env σ H Q d c' hs he hf q => ofE (pe_ifExp (ptS t0) (peS a) (peS b)) ?_⟩
  unfold fIf at hf
  split at hf
  case h_1 c1 e1 => exact ht.run t G al c env σ H _ _ _ hs he e1 fun G1 al1 H1 l1 hs1 => iteT (ha.run t G1 al1 c1 env σ H1 _ _ _ hs1 (he.mono l1) hf fun G' al' H' v' l' hs' r' => q G' al' H' v' (l1.trans l') hs' r')
  case h_2 c1 e1 => exact ht.run t G al c env σ H _ _ _ hs he e1 fun G1 al1 H1 l1 hs1 => iteF (hb.run t G1 al1 c1 env σ H1 _ _ _ hs1 (he.mono l1) hf fun G' al' H' v' l' hs' r' => q G' al' H' v' (l1.trans l') hs' r')
  case h_3 => cases hf

/-! ### argument lists, displays -/
def aNil : FA := fun _ c => some ([], c)
def aCons (f : FE) (g : FA) : FA := fun env c => match f env c with
  | some (d, c1) => match g env c1 with
    | some (ds, c2) => some (d :: ds, c2)
    | none => none
  | none => none
theorem ta_nil : TrA T n X [] aNil := ⟨fun t G al c env σ H Q ds c' hs he hf q => ofA pa_nil (by cases hf; exact q G al H [] (.refl _ _ _) hs .nil)⟩
theorem ta_cons {g : FA} (h : TrE T n X e fe) (hr : TrA T n X es g) (hs : starEach (e :: es) X.env = (false, eval e X.env) :: starEach es X.env := by rfl) : TrA T n X (e :: es) (aCons fe g) := by
  refine ⟨fun t G al c env σ H Q ds c' hst he hf q => ofA (pa_cons (peS e) (paS es) hs) ?_⟩
  unfold aCons at hf
  split at hf
  case h_2 => cases hf
  case h_1 d c1 e1 =>
    split at hf
    case h_2 => cases hf
    case h_1 ds' c2 e2 =>
      cases hf
      refine h.run t G al c env σ H _ _ _ hst he e1 fun G1 al1 H1 v l1 hs1 r1 => ?_
      exact hr.run t G1 al1 c1 env σ H1 _ _ _ hs1 (he.mono l1) e2 fun G2 al2 H2 vs l2 hs2 r2 => q G2 al2 H2 (v :: vs) (l1.trans l2) hs2 (.cons (r1.mono l2.le) r2)
theorem tqa_nil : TrQA T n X [] aNil := ⟨fun t G al c env σ H Q ds c' hs he hf q => ofA pa_nil (by cases hf; exact q G al H [] (.refl _ _ _) hs .nil)⟩
theorem tqa_cons {g : FA} (h : TrQ T n X e fe) (hr : TrQA T n X es g) (hs : starEach (e :: es) X.env = (false, eval e X.env) :: starEach es X.env := by rfl) : TrQA T n X (e :: es) (aCons fe g) := by
  refine ⟨fun t G al c env σ H Q ds c' hst he hf q => ofA (pa_cons (peS e) (paS es) hs) ?_⟩
  unfold aCons at hf
  split at hf
  case h_2 => cases hf
  case h_1 d c1 e1 =>
    split at hf
    case h_2 => cases hf
    case h_1 ds' c2 e2 =>
      cases hf
      refine h.run t G al c env σ H _ _ _ hst he e1 fun G1 al1 H1 v l1 hs1 r1 => ?_
      exact hr.run t G1 al1 c1 env σ H1 _ _ _ hs1 (he.mono l1) e2 fun G2 al2 H2 vs l2 hs2 r2 => q G2 al2 H2 (v :: vs) (l1.trans l2) hs2 (.cons (r1.mono l2) r2)
/-- a cell is no longer there behind a state that was before: what was not there before is new -/
theorem fresh_before {G H G2 H2 : Hp} {al al2 : List Addr} {c c2 : Cs} {p : Addr} (hs : HSt T G al c H) (hs2 : HSt T G2 al2 c2 H2) (l : Stp G al H G2 al2 H2) (hp0 : H2 p = none) : H p = none := by
  cases hh : H p with
  | none => rfl
  | some u =>
    by_cases hg0 : G p = none
    · by_cases hm : p ∈ al
      · exact absurd (l.le.a.subset hm) (fun z => hs2.apart hp0 z)
      · obtain ⟨_, _, z⟩ := l.fr p u hg0 hm hh
        rw [z] at hp0; cases hp0
    · cases hq : G p with
      | none => exact absurd hq hg0
      | some u' =>
        have z := hs2.ex p u' (l.le.g _ _ hq)
        rw [z] at hp0; cases hp0
/-- the most items of a list that is made -/
def lim : Nat := 1000000
theorem lim_line : lim ≤ sizeLine := by rw [sizeLine_eq]; decide
def fTup (g : FA) : FE := fun env c => match g env c with | some (ds, c1) => if ds.length ≤ lim then some (.tup ds, c1) else none | none => none
def fLst (g : FA) : FE := fun env c => match g env c with | some (ds, c1) => if ds.length ≤ lim then some (.lst ds, c1) else none | none => none
theorem tr_tup {g : FA} {k} (h : TrA T n X es g) : TrE T n X (.Tuple es k pos) (fTup g) := by
  refine ⟨fun t G al c env σ H Q d c' hs he hf q => ofE (pe_tup (paS es)) ?_⟩
  unfold fTup at hf
  split at hf
  case h_2 => cases hf
  case h_1 ds c1 e1 =>
    split at hf
    case isFalse => cases hf
    case isTrue hl =>
      cases hf
      refine h.run t G al c env σ H _ _ _ hs he e1 fun G1 al1 H1 vs l1 hs1 r1 => ⟨by rw [← r1.length]; exact Nat.le_trans hl lim_line, fun p hp => ?_⟩
      have gp := hs1.free hp
      exact q (upd G1 p (.tup vs)) al1 _ (.ref p) (l1.trans (.freeze hs1 hp)) (hs1.freeze hp) (.tup (.inl (.inl upd_same)) (r1.mono (.upd gp)))
theorem tr_lst {g : FA} (h : TrA T n X es g) : TrN T n X (.List es pos) (fLst g) := by
  refine ⟨fun t G al c env σ H Q d c' hs he hf q => ofE (pe_lst (paS es)) ?_⟩
  unfold fLst at hf
  split at hf
  case h_2 => cases hf
  case h_1 ds c1 e1 =>
    split at hf
    case isFalse => cases hf
    case isTrue hl =>
      cases hf
      refine h.run t G al c env σ H _ _ _ hs he e1 fun G1 al1 H1 vs l1 hs1 r1 => ⟨by rw [← r1.length]; exact Nat.le_trans hl lim_line, fun p hp => ?_⟩
      exact q G1 al1 (upd H1 p (.lst vs)) p (.lst vs) (l1.trans (.junk hp)) (hs1.junk hp) (hs1.free hp) (hs1.apart hp) (fresh_before hs hs1 l1 hp) upd_same (.lst r1)
end
end Pd
set_option Elab.async false
set_option linter.all false
set_option maxRecDepth 100000
/-! Pd2: statements, targets, loops. -/
namespace Pd
open PySem PySem.Spec PyProof.Rows L2

inductive Fl where
  | nx
  | rt (d : D)
  | bk
  | ct
abbrev FS := En → Cs → Option (Fl × En × Cs)
/-- the state at a def's entry -/
structure Base where
  G : Hp
  al : List Addr
  c : Cs
  H : Hp
  self : Option Addr := none
/-- all that is known where a statement begins -/
structure Ok (T : Tb) (B : Base) (G : Hp) (al : List Addr) (c : Cs) (H : Hp) (env : En) (σ : L2.St) : Prop where
  hs0 : HSt T B.G B.al B.c B.H
  hs : HSt T G al c H
  he : EOk T G al H env σ
  st : Stp B.G B.al B.H G al H
  nw : ∀ (i : Nat) (d : D) (a : Addr), env[i]? = some (some (.o d)) → σ[i]? = some (some (.ref a)) → B.H a = none
  se : ∀ (x : Addr) (d : D), B.self = some x → env[0]? = some (some (.o d)) → σ[0]? = some (some (.ref x))
section
variable {T : Tb} {B : Base} {G G' H H' : Hp} {al al' : List Addr} {c c' : Cs} {env : En} {σ : L2.St}
theorem Ok.step (k : Ok T B G al c H env σ) (l : Stp G al H G' al' H') (hs' : HSt T G' al' c' H') : Ok T B G' al' c' H' env σ := ⟨k.hs0, hs', k.he.mono l, k.st.trans l, k.nw, k.se⟩
theorem Ok.set (k : Ok T B G al c H env σ) (i : Nat) {d : D} {v : V} (r : Rp T G al d v) : Ok T B G al c H (env.set i (some (.f d))) (σ.set i (some v)) := by
  have key : ∀ (j : Nat) (e : D), (env.set i (some (.f d)))[j]? = some (some (.o e)) → j ≠ i ∧ env[j]? = some (some (.o e)) := fun j e q1 => by
    by_cases hj : j = i
    · subst hj
      by_cases hl : j < env.length
      · rw [List.getElem?_set_self hl] at q1; cases q1
      · rw [List.getElem?_eq_none (by simpa using hl)] at q1; cases q1
    · rw [List.getElem?_set_ne (Ne.symm hj)] at q1
      exact ⟨hj, q1⟩
  refine ⟨k.hs0, k.hs, k.he.set i r, k.st, fun j e a q1 q2 => ?_, fun x e hx q1 => ?_⟩
  · obtain ⟨hj, q⟩ := key j e q1
    rw [List.getElem?_set_ne (Ne.symm hj)] at q2
    exact k.nw j e a q q2
  · obtain ⟨hj, q⟩ := key 0 e q1
    rw [List.getElem?_set_ne (Ne.symm hj)]
    exact k.se x e hx q
end
/-- what is wanted behind a statement -/
abbrev AftS (T : Tb) (B : Base) (G : Hp) (al : List Addr) (r : Fl) (env' : En) (c' : Cs) (E : Ends) : Prop :=
  ∀ (G' : Hp) (al' : List Addr) (σ' : L2.St) (H' : Hp), Le G al G' al' → Ok T B G' al' c' H' env' σ' → (match r with | .nx => E.nx σ' H' | .bk => E.bk σ' H' | .ct => E.ct σ' H' | .rt d => ∀ v, Rp T G' al' d v → E.rt v H')
structure TrS (T : Tb) (n : Nat) (X : Cx) (st : Stmt) (f : FS) : Prop where
  run : Tied T n X → ∀ (B : Base) (G : Hp) (al : List Addr) (c : Cs) (env : En) (σ : L2.St) (H : Hp) (E : Ends) (r : Fl) (env' : En) (c' : Cs), Ok T B G al c H env σ → f env c = some (r, env', c') → AftS T B G al r env' c' E → SemS X st E σ H
structure TrB (T : Tb) (n : Nat) (X : Cx) (st : List Stmt) (f : FS) : Prop where
  run : Tied T n X → ∀ (B : Base) (G : Hp) (al : List Addr) (c : Cs) (env : En) (σ : L2.St) (H : Hp) (E : Ends) (r : Fl) (env' : En) (c' : Cs), Ok T B G al c H env σ → f env c = some (r, env', c') → AftS T B G al r env' c' E → SemB X st E σ H

/-- an assignment's target: the slots ws are set -/
abbrev FG := D → En → Option En
structure TrG (T : Tb) (n : Nat) (X : Cx) (tg : Expr) (ws : List Nat) (g : FG) : Prop where
  run : Tied T n X → ∀ (G : Hp) (al : List Addr) (c : Cs) (env : En) (σ : L2.St) (H : Hp) (d : D) (v : V) (env' : En) (Q : L2.St → Hp → Prop), HSt T G al c H → EOk T G al H env σ → Rp T G al d v → g d env = some env' →
    (∀ σ' : L2.St, EOk T G al H env' σ' → σ'.length = σ.length → (∀ j, j ∉ ws → σ'[j]? = σ[j]? ∧ env'[j]? = env[j]?) → (∀ (j : Nat) (e : D), env'[j]? = some (some (Sl.o e)) → env[j]? = some (some (Sl.o e)) ∧ σ'[j]? = σ[j]?) → Q σ' H) → SemG X tg v σ H Q
abbrev FGs := List D → En → Option En
structure TrGs (T : Tb) (n : Nat) (X : Cx) (tgs : List Expr) (ws : List Nat) (g : FGs) : Prop where
  run : Tied T n X → ∀ (G : Hp) (al : List Addr) (c : Cs) (env : En) (σ : L2.St) (H : Hp) (ds : List D) (vs : List V) (env' : En) (Q : L2.St → Hp → Prop), HSt T G al c H → EOk T G al H env σ → RpL T G al ds vs → g ds env = some env' →
    (∀ σ' : L2.St, EOk T G al H env' σ' → σ'.length = σ.length → (∀ j, j ∉ ws → σ'[j]? = σ[j]? ∧ env'[j]? = env[j]?) → (∀ (j : Nat) (e : D), env'[j]? = some (some (Sl.o e)) → env[j]? = some (some (Sl.o e)) ∧ σ'[j]? = σ[j]?) → Q σ' H) → SemGs X tgs vs σ H Q

section
variable {T : Tb} {n : Nat} {X : Cx} {pos : Pos} {e tg : Expr} {es : List Expr} {st : Stmt} {rest body : List Stmt} {fe : FE} {ft : FT} {f fr fb : FS} {g : FG} {gs : FGs} {ws : List Nat}

/-! ### targets -/
def gSet (i : Nat) : FG := fun d env => some (env.set i (some (.f d)))
theorem tg_name (i : Nat) {x : Str} (hi : X.N[i]? = some x := by rfl) (hx : Loc X.env.scope x := by first | exact Or.inl rfl | exact Or.inr rfl) (hf : X.fn x = true ∨ X.env.scope.names.lookup x = some .local := by first | exact .inl rfl | exact .inr rfl | assumption) :
    TrG T n X (.Name x pos) [i] (gSet i) := by
  refine ⟨fun t G al c env σ H d v env' Q hs he r hg q => ofG (pg_name t.nd hi hx hf) ?_⟩
  cases hg
  refine q _ (he.set i r) (by simp) (fun j hj => ?_) fun j e hje => ?_
  · have : j ≠ i := by simpa using hj
    exact ⟨List.getElem?_set_ne (Ne.symm this), List.getElem?_set_ne (Ne.symm this)⟩
  · by_cases hj : j = i
    · subst hj
      by_cases hl : j < env.length
      · rw [List.getElem?_set_self hl] at hje; cases hje
      · rw [List.getElem?_eq_none (by simpa using hl)] at hje; cases hje
    · rw [List.getElem?_set_ne (Ne.symm hj)] at hje
      exact ⟨hje, List.getElem?_set_ne (Ne.symm hj)⟩
def gsNil : FGs := fun ds env => match ds with | [] => some env | _ => none
def gsCons (g : FG) (gs : FGs) : FGs := fun ds env => match ds with
  | [] => none
  | d :: r => match g d env with
    | some env1 => gs r env1
    | none => none
theorem tgs_nil : TrGs T n X [] [] gsNil := by
  refine ⟨fun t G al c env σ H ds vs env' Q hs he r hg q => ofGs pgs_nil ?_⟩
  unfold gsNil at hg
  cases r with
  | nil =>
    cases hg
    exact ⟨rfl, q σ he rfl (fun _ _ => ⟨rfl, rfl⟩) fun _ _ h => ⟨h, rfl⟩⟩
  | cons _ _ => cases hg
theorem tgs_cons {ws' : List Nat} (h : TrG T n X e ws g) (h2 : TrGs T n X es ws' gs) (hs : (assignEach (e :: es) X.env).map (·.2) = assign e X.env :: (assignEach es X.env).map (·.2) := by rfl) : TrGs T n X (e :: es) (ws ++ ws') (gsCons g gs) := by
  refine ⟨fun t G al c env σ H ds vs env' Q hst he r hg q => ofGs (pgs_cons (pgS e) (pgsS es) hs) ?_⟩
  cases r with
  | nil => cases hg
  | cons r1 r2 =>
    unfold gsCons at hg
    simp only at hg
    split at hg
    case h_2 => cases hg
    case h_1 env1 e1 =>
      refine ⟨_, _, rfl, h.run t G al c env σ H _ _ env1 _ hst he r1 e1 fun σ1 he1 hl1 ho1 hx1 => ?_⟩
      refine h2.run t G al c env1 σ1 H _ _ env' _ hst he1 r2 hg fun σ2 he2 hl2 ho2 hx2 => q σ2 he2 (hl2.trans hl1) (fun j hj => ?_) fun j e hje => ?_
      · have h1 : j ∉ ws := fun z => hj (List.mem_append_left _ z)
        have h2 : j ∉ ws' := fun z => hj (List.mem_append_right _ z)
        exact ⟨(ho2 j h2).1.trans (ho1 j h1).1, (ho2 j h2).2.trans (ho1 j h1).2⟩
      · obtain ⟨a1, b1⟩ := hx2 j e hje
        obtain ⟨a2, b2⟩ := hx1 j e a1
        exact ⟨a2, b1.trans b2⟩
def gTup (k : Nat) (gs : FGs) : FG := fun d env => match d with
  | .tup ds => if ds.length = k then gs ds env else none
  | _ => none
theorem Rp.tup_inv {G : Hp} {al : List Addr} {ds : List D} {v : V} (r : Rp T G al (.tup ds) v) : ∃ a vs, v = .ref a ∧ SqT T.K G a vs ∧ RpL T G al ds vs := by
  cases r with
  | tup h q => exact ⟨_, _, rfl, h, q⟩
  | box _ z => cases z
theorem sqT_h {K : PySem.W.Frag} {G H : Hp} {a : Addr} {xs : List V} (g : ∀ a o, G a = some o → H a = some o) (h : SqT K G a xs) : SqT K H a xs := sqT_le g h
theorem tg_tup {k0 k : Nat} (h : TrGs T n X es ws gs) (hn : (assignEach es X.env).length = k := by rfl) (hst : (assignEach es X.env).findIdx? (·.1) = none := by rfl) : TrG T n X (.Tuple es k0 pos) ws (gTup k gs) := by
  refine ⟨fun t G al c env σ H d v env' Q hs he r hg q => ofG (pg_tup t.calm (pgsS es) hn hst) ?_⟩
  unfold gTup at hg
  split at hg
  case h_2 => cases hg
  case h_1 ds =>
    split at hg
    case isFalse => cases hg
    case isTrue hl =>
      obtain ⟨a, vs, rfl, hq, rl⟩ := r.tup_inv
      refine ⟨a, vs, rfl, ?_, rl.length.symm.trans hl, h.run t G al c env σ H ds vs env' Q hs he rl hg q⟩
      rw [t.K]
      exact sqT_h hs.ex hq

/-! ### blocks, small statements -/
def fNx : FS := fun env c => some (.nx, env, c)
def fSeq (f g : FS) : FS := fun env c => match f env c with
  | some (.nx, env1, c1) => g env1 c1
  | r => r
theorem tb_nil : TrB T n X [] fNx := ⟨fun t B G al c env σ H E r env' c' k hf q => ofB pss_nil (by cases hf; exact q G al σ H (.refl _ _) k)⟩
theorem tb_cons (h : TrS T n X st f) (h2 : TrB T n X rest fr) : TrB T n X (st :: rest) (fSeq f fr) := by
  refine ⟨fun t B G al c env σ H E r env' c' k hf q => ofB (pss_cons (psS st) (pbS rest)) ?_⟩
  unfold fSeq at hf
  cases e1 : f env c with
  | none => rw [e1] at hf; cases hf
  | some p =>
    obtain ⟨r1, env1, c1⟩ := p
    rw [e1] at hf
    refine h.run t B G al c env σ H _ r1 env1 c1 k e1 fun G1 al1 σ1 H1 l1 k1 => ?_
    cases r1 with
    | nx => exact h2.run t B G1 al1 c1 env1 σ1 H1 E r env' c' k1 hf fun G2 al2 σ2 H2 l2 => q G2 al2 σ2 H2 (l1.trans l2)
    | rt d => cases hf; exact q G1 al1 σ1 H1 l1 k1
    | bk => cases hf; exact q G1 al1 σ1 H1 l1 k1
    | ct => cases hf; exact q G1 al1 σ1 H1 l1 k1
theorem tb_one (h : TrS T n X st f) : TrB T n X [st] f := by
  refine ⟨fun t B G al c env σ H E r env' c' k hf q => ofB (pss_one (psS st)) ?_⟩
  exact h.run t B G al c env σ H E r env' c' k hf q
theorem ts_pass : TrS T n X (.Pass pos) fNx := ⟨fun t B G al c env σ H E r env' c' k hf q => ofS ps_pass (by cases hf; exact q G al σ H (.refl _ _) k)⟩
def fBk : FS := fun env c => some (.bk, env, c)
def fCt : FS := fun env c => some (.ct, env, c)
theorem ts_break : TrS T n X (.Break pos) fBk := ⟨fun t B G al c env σ H E r env' c' k hf q => ofS ps_break (by cases hf; exact q G al σ H (.refl _ _) k)⟩
theorem ts_continue : TrS T n X (.Continue pos) fCt := ⟨fun t B G al c env σ H E r env' c' k hf q => ofS ps_continue (by cases hf; exact q G al σ H (.refl _ _) k)⟩
/-- a statement that is never come to -/
def fNo : FS := fun _ _ => none
theorem ts_never : TrS T n X st fNo := ⟨fun t B G al c env σ H E r env' c' k hf q => by cases hf⟩
theorem tb_never : TrB T n X rest fNo := ⟨fun t B G al c env σ H E r env' c' k hf q => by cases hf⟩
def fDrop (f : FE) : FS := fun env c => match f env c with | some (_, c1) => some (.nx, env, c1) | none => none
theorem ts_expr (h : TrE T n X e fe) (hs : swapsWith e none pos.line X.env = pure false := by rfl) : TrS T n X (.Expr e pos) (fDrop fe) := by
  refine ⟨fun t B G al c env σ H E r env' c' k hf q => ofS (ps_expr (peS e) hs) ?_⟩
  unfold fDrop at hf
  split at hf
  case h_2 => cases hf
  case h_1 d c1 e1 =>
    cases hf
    exact h.run t G al c env σ H _ _ _ k.hs k.he e1 fun G1 al1 H1 v l hs1 r1 => q G1 al1 σ H1 l.le (k.step l hs1)
def fRet (f : FE) : FS := fun env c => match f env c with | some (d, c1) => some (.rt d, env, c1) | none => none
theorem ts_ret (h : TrE T n X e fe) : TrS T n X (.Return (some e) pos) (fRet fe) := by
  refine ⟨fun t B G al c env σ H E r env' c' k hf q => ofS (ps_ret (peS e)) ?_⟩
  unfold fRet at hf
  split at hf
  case h_2 => cases hf
  case h_1 d c1 e1 =>
    cases hf
    exact h.run t G al c env σ H _ _ _ k.hs k.he e1 fun G1 al1 H1 v l hs1 r1 => q G1 al1 σ H1 l.le (k.step l hs1) v r1
def fRetN : FS := fun env c => some (.rt .non, env, c)
theorem ts_retN : TrS T n X (.Return none pos) fRetN := ⟨fun t B G al c env σ H E r env' c' k hf q => ofS ps_retN (by cases hf; exact q G al σ H (.refl _ _) k .non .non)⟩
def fIte (ft : FT) (f g : FS) : FS := fun env c => match ft env c with
  | some (true, c1) => f env c1
  | some (false, c1) => g env c1
  | none => none
theorem ts_if {a b : List Stmt} {fa fb : FS} (ht : TrT T n X e ft) (ha : TrB T n X a fa) (hb : TrB T n X b fb) : TrS T n X (.If e a b pos) (fIte ft fa fb) := by
  refine ⟨fun t B G al c env σ H E r env' c' k hf q => ofS (ps_if (ptS e) (pbS a) (pbS b)) ?_⟩
  unfold fIte at hf
  split at hf
  case h_1 c1 e1 => exact ht.run t G al c env σ H _ _ _ k.hs k.he e1 fun G1 al1 H1 l hs1 => iteT (ha.run t B G1 al1 c1 env σ H1 E r env' c' (k.step l hs1) hf fun G2 al2 σ2 H2 l2 => q G2 al2 σ2 H2 (l.le.trans l2))
  case h_2 c1 e1 => exact ht.run t G al c env σ H _ _ _ k.hs k.he e1 fun G1 al1 H1 l hs1 => iteF (hb.run t B G1 al1 c1 env σ H1 E r env' c' (k.step l hs1) hf fun G2 al2 σ2 H2 l2 => q G2 al2 σ2 H2 (l.le.trans l2))
  case h_3 => cases hf

/-! ### assignments -/
def fSet (i : Nat) (f : FE) : FS := fun env c => match f env c with | some (d, c1) => some (.nx, env.set i (some (.f d)), c1) | none => none
theorem ts_set (i : Nat) {x : Str} {pos' : Pos} (h : TrE T n X e fe) (hi : X.N[i]? = some x := by rfl) (hx : Loc X.env.scope x := by first | exact Or.inl rfl | exact Or.inr rfl) (hs : swapsWith e (some (.Name x pos')) pos.line X.env = pure false := by rfl)
    (hf : X.fn x = true ∨ X.env.scope.names.lookup x = some .local := by first | exact .inl rfl | exact .inr rfl | assumption) : TrS T n X (.Assign [.Name x pos'] e pos) (fSet i fe) := by
  refine ⟨fun t B G al c env σ H E r env' c' k hf' q => ofS (ps_set t.nd hi hx (peS e) hs hf) ?_⟩
  unfold fSet at hf'
  split at hf'
  case h_2 => cases hf'
  case h_1 d c1 e1 =>
    cases hf'
    exact h.run t G al c env σ H _ _ _ k.hs k.he e1 fun G1 al1 H1 v l hs1 r1 => q G1 al1 _ H1 l.le ((k.step l hs1).set i r1)
/-- an object of one's own -/
def fSetO (i : Nat) (f : FE) : FS := fun env c => match f env c with | some (d, c1) => some (.nx, env.set i (some (.o d)), c1) | none => none
theorem Ok.setO {B : Base} {G G' H H' : Hp} {al al' : List Addr} {c c' : Cs} {env : En} {σ : L2.St} (k : Ok T B G al c H env σ) (i : Nat) {d : D} {p : Addr} {o : HO} (l : Stp G al H G' al' H') (hs' : HSt T G' al' c' H') (hg : G' p = none) (ha : p ∉ al') (hp0 : H p = none) (hp : H' p = some o) (hb : Bx T G' al' p o d) (h0 : i ≠ 0) :
    Ok T B G' al' c' H' (env.set i (some (.o d))) (σ.set i (some (.ref p))) := by
  have k' := k.step l hs'
  refine ⟨k.hs0, hs', k'.he.setO i hg ha hp hb fun j e hj q1 q2 => ?_, k'.st, fun j e a q1 q2 => ?_, fun x e hx q1 => ?_⟩
  · obtain ⟨a, u, s, _, _, hh, _⟩ := k.he.own j e q1
    rw [q2] at s; cases s
    rw [hp0] at hh; cases hh
  · by_cases hj : j = i
    · subst hj
      by_cases hl : j < env.length
      · rw [List.getElem?_set_self (by rw [← k.he.len]; exact hl)] at q2
        cases q2
        exact fresh_before k.hs0 k.hs k.st hp0
      · rw [List.getElem?_eq_none (by simpa using hl)] at q1; cases q1
    · rw [List.getElem?_set_ne (Ne.symm hj)] at q1 q2
      exact k.nw j e a q1 q2
  · rw [List.getElem?_set_ne h0] at q1 ⊢
    exact k.se x e hx q1
theorem ts_setO (i : Nat) {x : Str} {pos' : Pos} (h : TrN T n X e fe) (h0 : i ≠ 0 := by decide) (hi : X.N[i]? = some x := by rfl) (hx : Loc X.env.scope x := by first | exact Or.inl rfl | exact Or.inr rfl) (hs : swapsWith e (some (.Name x pos')) pos.line X.env = pure false := by rfl)
    (hf : X.fn x = true ∨ X.env.scope.names.lookup x = some .local := by first | exact .inl rfl | exact .inr rfl | assumption) : TrS T n X (.Assign [.Name x pos'] e pos) (fSetO i fe) := by
  refine ⟨fun t B G al c env σ H E r env' c' k hf' q => ofS (ps_set t.nd hi hx (peS e) hs hf) ?_⟩
  unfold fSetO at hf'
  split at hf'
  case h_2 => cases hf'
  case h_1 d c1 e1 =>
    cases hf'
    exact h.run t G al c env σ H _ _ _ k.hs k.he e1 fun G1 al1 H1 p o l hs1 hg ha hp0 hp hb => q G1 al1 _ H1 l.le (k.setO i l hs1 hg ha hp0 hp hb h0)
/-- target = e -/
def fAsg (f : FE) (g : FG) : FS := fun env c => match f env c with
  | some (d, c1) => match g d env with
    | some env1 => some (.nx, env1, c1)
    | none => none
  | none => none
theorem Ok.asg {B : Base} {G H : Hp} {al : List Addr} {c : Cs} {env env' : En} {σ σ' : L2.St} (k : Ok T B G al c H env σ) (he : EOk T G al H env' σ') (hx : ∀ (j : Nat) (e : D), env'[j]? = some (some (Sl.o e)) → env[j]? = some (some (Sl.o e)) ∧ σ'[j]? = σ[j]?) : Ok T B G al c H env' σ' :=
  ⟨k.hs0, k.hs, he, k.st, fun i d a q1 q2 => let ⟨h1, h2⟩ := hx i d q1; k.nw i d a h1 (h2 ▸ q2), fun x e hb q1 => let ⟨h1, h2⟩ := hx 0 e q1; h2.trans (k.se x e hb h1)⟩
theorem ts_asg (h : TrE T n X e fe) (hg : TrG T n X tg ws g) (hs : swapsWithSole [tg] e pos.line X.env = pure false := by rfl) (hw : swappedStores [tg] e X.env = pure none := by rfl) (h1 : (assignEach [tg] X.env).map (·.2) = [assign tg X.env] := by rfl) :
    TrS T n X (.Assign [tg] e pos) (fAsg fe g) := by
  refine ⟨fun t B G al c env σ H E r env' c' k hf' q => ofS (ps_asg (peS e) (pgS tg) hs hw h1) ?_⟩
  unfold fAsg at hf'
  split at hf'
  case h_2 => cases hf'
  case h_1 d c1 e1 =>
    split at hf'
    case h_2 => cases hf'
    case h_1 env1 e2 =>
      cases hf'
      refine h.run t G al c env σ H _ _ _ k.hs k.he e1 fun G1 al1 H1 v l hs1 r1 => ?_
      have k1 := k.step l hs1
      exact hg.run t G1 al1 _ env σ H1 d v _ _ hs1 k1.he r1 e2 fun σ' he' _ _ hx => q G1 al1 σ' H1 l.le (k1.asg he' hx)
/-- freezing a name's object ahead of a statement -/
def fzE (i : Nat) (env : En) : En := match env[i]? with | some (some (.o d)) => env.set i (some (.f d)) | _ => env
theorem Ok.fz {B : Base} {G H : Hp} {al : List Addr} {c : Cs} {env : En} {σ : L2.St} (k : Ok T B G al c H env σ) (i : Nat) : ∃ G', Le G al G' al ∧ Ok T B G' al c H (fzE i env) σ := by
  unfold fzE
  split
  case h_2 => exact ⟨G, .refl _ _, k⟩
  case h_1 d hi =>
    obtain ⟨a, o, s, hg, ha, hh, b⟩ := k.he.own i d hi
    have hn := k.nw i d a hi s
    refine ⟨upd G a o, .upd hg, k.hs0, k.hs.fix hg ha hh, k.he.fix hi s hh, ⟨k.st.le.trans (.upd hg), fun x u g m e => ?_⟩, fun j e x q1 q2 => ?_, fun x e hx q1 => ?_⟩
    · obtain ⟨g', m', e'⟩ := k.st.fr x u g m e
      have nx : x ≠ a := ne_of_none e hn
      exact ⟨by rw [upd_ne nx]; exact g', m', e'⟩
    · by_cases hj : j = i
      · subst hj
        rw [List.getElem?_set_self (List.getElem?_eq_some_iff.mp hi).1] at q1; cases q1
      · rw [List.getElem?_set_ne (Ne.symm hj)] at q1
        exact k.nw j e x q1 q2
    · by_cases hj : i = 0
      · subst hj
        rw [List.getElem?_set_self (List.getElem?_eq_some_iff.mp hi).1] at q1; cases q1
      · rw [List.getElem?_set_ne hj] at q1
        exact k.se x e hx q1
def fFz (i : Nat) (f : FS) : FS := fun env c => f (fzE i env) c
theorem ts_fz (i : Nat) (h : TrS T n X st f) : TrS T n X st (fFz i f) :=
  ⟨fun t B G al c env σ H E r env' c' k hf q => let ⟨G', l', k'⟩ := k.fz i; h.run t B G' al c (fzE i env) σ H E r env' c' k' hf fun G2 al2 σ2 H2 l2 => q G2 al2 σ2 H2 (l'.trans l2)⟩
theorem tb_fz (i : Nat) (h : TrB T n X rest f) : TrB T n X rest (fFz i f) :=
  ⟨fun t B G al c env σ H E r env' c' k hf q => let ⟨G', l', k'⟩ := k.fz i; h.run t B G' al c (fzE i env) σ H E r env' c' k' hf fun G2 al2 σ2 H2 l2 => q G2 al2 σ2 H2 (l'.trans l2)⟩

/-! ### what is walked -/
/-- the items ds come one after the other, whatever is done meanwhile -/
def ItOk (T : Tb) (G : Hp) (al : List Addr) (J : It) (ds : List D) : Prop := ∀ (i : Nat) (G2 : Hp) (al2 : List Addr) (c2 : Cs) (H2 : Hp), Le G al G2 al2 → HSt T G2 al2 c2 H2 →
  (∀ d, ds[i]? = some d → J.go i H2 ∧ ∀ x H3, J.yld i H2 x H3 → ∃ G3, Stp G2 al2 H2 G3 al2 H3 ∧ HSt T G3 al2 c2 H3 ∧ Rp T G3 al2 d x) ∧ (ds.length ≤ i → J.stop i H2)
/-- .. while what is one's own stays as it is -/
def ItOkQ (T : Tb) (G : Hp) (al : List Addr) (H : Hp) (J : It) (ds : List D) : Prop := ∀ (i : Nat) (G2 : Hp) (al2 : List Addr) (c2 : Cs) (H2 : Hp), Stp G al H G2 al2 H2 → HSt T G2 al2 c2 H2 →
  (∀ d, ds[i]? = some d → J.go i H2 ∧ ∀ x H3, J.yld i H2 x H3 → ∃ G3, Stp G2 al2 H2 G3 al2 H3 ∧ HSt T G3 al2 c2 H3 ∧ Rp T G3 al2 d x) ∧ (ds.length ≤ i → J.stop i H2)
structure TrI (T : Tb) (n : Nat) (X : Cx) (tg iter : Expr) (f : FA) : Prop where
  run : Tied T n X → ∀ (G : Hp) (al : List Addr) (c : Cs) (env : En) (σ : L2.St) (H : Hp) (R : It → Hp → Prop) (ds : List D) (c' : Cs), HSt T G al c H → EOk T G al H env σ → f env c = some (ds, c') →
    (∀ (G' : Hp) (al' : List Addr) (H' : Hp) (J : It), Stp G al H G' al' H' → HSt T G' al' c' H' → ItOk T G' al' J ds → R J H') → SemI X tg iter σ H R
structure TrIQ (T : Tb) (n : Nat) (X : Cx) (tg iter : Expr) (f : FA) : Prop where
  run : Tied T n X → ∀ (G : Hp) (al : List Addr) (c : Cs) (env : En) (σ : L2.St) (H : Hp) (R : It → Hp → Prop) (ds : List D) (c' : Cs), HSt T G al c H → EOk T G al H env σ → f env c = some (ds, c') →
    (∀ (G' : Hp) (al' : List Addr) (H' : Hp) (J : It), Stp G al H G' al' H' → HSt T G' al' c' H' → ItOkQ T G' al' H' J ds → R J H') → SemI X tg iter σ H R
theorem TrI.q {fa : FA} {iter : Expr} (h : TrI T n X tg iter fa) : TrIQ T n X tg iter fa :=
  ⟨fun t G al c env σ H R ds c' hs he hf q => h.run t G al c env σ H R ds c' hs he hf fun G' al' H' J l hs' it => q G' al' H' J l hs' fun i G2 al2 c2 H2 l2 => it i G2 al2 c2 H2 l2.le⟩

def forD (g : FG) (fb : FS) : List D → FS
  | [], env, c => some (.nx, env, c)
  | d :: ds, env, c => match g d env with
    | none => none
    | some env1 => match fb env1 c with
      | some (.nx, env2, c2) => forD g fb ds env2 c2
      | some (.ct, env2, c2) => forD g fb ds env2 c2
      | some (.bk, env2, c2) => some (.nx, env2, c2)
      | some (.rt d, env2, c2) => some (.rt d, env2, c2)
      | none => none
def fFor (fi : FA) (g : FG) (fb : FS) : FS := fun env c => match fi env c with
  | some (ds, c1) => forD g fb ds env c1
  | none => none
theorem ts_for {iter : Expr} {fi : FA} (hi : TrI T n X tg iter fi) (hg : TrG T n X tg ws g) (hb : TrB T n X body fb) (hp : Tied T n X → PassesOwn (model X.prog X.w) X.A X.env X.xe := by intro _; exact PassesOwn.never)
    (hs : ∀ x, foldedSetIterable iter X.env x = pure x := by intro _; rfl) : TrS T n X (.For tg iter body [] pos) (fFor fi g fb) := by
  refine ⟨fun t B G al c env σ H E r env' c' k hf q => ofS (ps_for (hp t) t.calm (piS tg iter) (pgS tg) (pbS body) hs) ?_⟩
  unfold fFor at hf
  split at hf
  case h_2 => cases hf
  case h_1 ds c1 e1 =>
    refine hi.run t G al c env σ H _ ds c1 k.hs k.he e1 fun G1 al1 H1 J l1 hs1 it => ?_
    have k1 := k.step l1 hs1
    -- at turn i the rest of the items leads to the same end
    refine ⟨fun i m σ2 H2 => m = ds.length - i ∧ i ≤ ds.length ∧ ∃ G2 al2 c2 env2, Le G1 al1 G2 al2 ∧ Ok T B G2 al2 c2 H2 env2 σ2 ∧ forD g fb (ds.drop i) env2 c2 = some (r, env', c'), ⟨_, rfl, Nat.zero_le _, G1, al1, c1, env, .refl _ _, k1, by simpa using hf⟩, ?_⟩
    rintro i m σ2 H2 ⟨rfl, hil, G2, al2, c2, env2, le2, k2, hr⟩
    by_cases hlt : i < ds.length
    · rw [List.drop_eq_getElem_cons hlt] at hr
      unfold forD at hr
      split at hr
      case h_1 => cases hr
      case h_2 env3 e3 =>
        obtain ⟨go, yl⟩ := (it i G2 al2 c2 H2 le2 k2.hs).1 ds[i] (List.getElem?_eq_getElem hlt)
        refine .inr ⟨go, fun σ' H' => ∃ G' al' cn en, Le G1 al1 G' al' ∧ Ok T B G' al' cn H' en σ' ∧ forD g fb (ds.drop (i + 1)) en cn = some (r, env', c'), fun σ' H' ⟨G', al', cn, en, le', k', hr'⟩ => ⟨ds.length - (i + 1), by omega, rfl, hlt, G', al', cn, en, le', k', hr'⟩, fun x H3 y => ?_⟩
        obtain ⟨G3, l3, hs3, r3⟩ := yl x H3 y
        have k3 := k2.step l3 hs3
        refine hg.run t G3 al2 c2 env2 σ2 H3 ds[i] x env3 _ hs3 k3.he r3 e3 fun σ4 he4 _ _ hx4 => ?_
        have k4 := k3.asg he4 hx4
        have le4 := le2.trans l3.le
        split at hr
        case h_1 en cn eb => exact hb.run t B G3 al2 c2 env3 σ4 H3 _ _ _ _ k4 eb fun G5 al5 σ5 H5 l5 k5 => ⟨G5, al5, cn, en, le4.trans l5, k5, hr⟩
        case h_2 en cn eb => exact hb.run t B G3 al2 c2 env3 σ4 H3 _ _ _ _ k4 eb fun G5 al5 σ5 H5 l5 k5 => ⟨G5, al5, cn, en, le4.trans l5, k5, hr⟩
        case h_3 en cn eb => cases hr; exact hb.run t B G3 al2 c2 env3 σ4 H3 _ _ _ _ k4 eb fun G5 al5 σ5 H5 l5 k5 => q G5 al5 σ5 H5 (l1.le.trans (le4.trans l5)) k5
        case h_4 dd en cn eb => cases hr; exact hb.run t B G3 al2 c2 env3 σ4 H3 _ _ _ _ k4 eb fun G5 al5 σ5 H5 l5 k5 => q G5 al5 σ5 H5 (l1.le.trans (le4.trans l5)) k5
        case h_5 => cases hr
    · have e : i = ds.length := by omega
      subst e
      rw [List.drop_length] at hr
      cases hr
      exact .inl ⟨(it _ G2 al2 _ H2 le2 k2.hs).2 (Nat.le_refl _), q G2 al2 σ2 H2 (l1.le.trans le2) k2⟩
end
end Pd
set_option Elab.async false
set_option linter.all false
set_option maxRecDepth 100000
/-! Pd3: defs and their calls, attributes, methods, properties, new instances. -/
namespace Pd
open PySem PySem.Spec PyProof.Rows L2

/-- a def's promise by data -/
def SpS (T : Tb) (k : Nat) (m : FC) : Sp := fun vs H Q _ => vs.length = k ∧ ∃ (G : Hp) (al : List Addr) (c : Cs) (ds : List D) (d : D) (c' : Cs), HSt T G al c H ∧ RpL T G al ds vs ∧ m ds c = some (d, c') ∧ Aft T G al H d c' Q
/-- a def that stands at f -/
structure FnAt (T : Tb) (n : Nat) (f : Addr) (fd : FuncData) (ps : List Str) (m : FC) : Prop where
  ok : FnOk T.P T.w T.K T.mg T.base CX0 n f fd ps (SpS T ps.length m)
  kp : PySem.W.keepIn T.K (.ref f) = true
  b : Binds T.K fd ps []
  len : ∀ ds c r, m ds c = some r → ds.length = ps.length
/-- a def of the module -/
structure Fn (T : Tb) (n : Nat) (x : Str) (ps : List Str) (m : FC) : Prop where
  ex : ∃ f fd, FnAt T n f fd ps m ∧ T.mg x = some (.ref f)
/-- the field f: of the classes ks, with its place -/
structure Acc (T : Tb) (f : Str) (ks : List (Nat × Nat)) : Prop where
  ok : ∀ k i, ks.lookup k = some i → Cls T.K (T.cl k) ∧ NoAttr T.K (T.cl k) f ∧ (T.fl k)[i]? = some f ∧ (T.fl k).Nodup
/-- a method of the class k -/
structure Mth (T : Tb) (n : Nat) (k : Nat) (x : Str) (ps : List Str) (m : FC) : Prop where
  ex : ∃ f fd, FnAt T n f fd ps m ∧ Meth T.K (T.cl k) x f
  cls : Cls T.K (T.cl k)
  no : x ∉ T.fl k
/-- a property of the class k -/
structure Prp (T : Tb) (n : Nat) (k : Nat) (x : Str) (m : FC) : Prop where
  ex : ∃ p f fd ps, FnAt T n f fd ps m ∧ PropOf T.K (T.cl k) x p f
  cls : Cls T.K (T.cl k)
/-- a staticmethod of the class k -/
structure Smt (T : Tb) (n : Nat) (k : Nat) (x : Str) (ps : List Str) (m : FC) : Prop where
  ex : ∃ p f fd, FnAt T n f fd ps m ∧ PySem.W.findCls T.K (.ref (T.cl k)) (.type "type") x = some (.get (.builtin "staticmethod.__get__") (.ref p) .none (.ref (T.cl k))) ∧ (∃ rest, PySem.W.recIn T.K p "staticmethod" = some (.ref f :: rest))
  rd : ClX.CRead T.K (T.cl k) (.type "type")
/-- what __init__ makes of the new instance -/
def SpI (T : Tb) (k : Nat) (j : Nat) (m : FC) : Sp := fun vs H Q _ => vs.length = j ∧ ∃ (x dx : Addr) (vs' : List V) (G : Hp) (al : List Addr) (c : Cs) (H0 : Hp) (ds : List D) (d : D) (c' : Cs), vs = .ref x :: vs' ∧ H0 x = none ∧ H0 dx = none ∧ dx ≠ x ∧
  H = upd (upd H0 dx (.own x)) x (.ins (T.cl k) dx []) ∧ HSt T G al c H0 ∧ RpL T G al ds vs' ∧ m ds c = some (d, c') ∧
  ∀ (G' : Hp) (al' : List Addr) (H' : Hp) (o : HO), Stp G al H0 G' al' H' → HSt T G' al' c' H' → G' x = none → x ∉ al' → H' x = some o → Bx T G' al' x o d → Q .non H'
structure Mkr (T : Tb) (n : Nat) (k : Nat) (x : Str) (ps : List Str) (m : FC) : Prop where
  ex : ∃ f fd, FnOk T.P T.w T.K T.mg T.base CX0 n f fd ps (SpI T k ps.length m) ∧ Mk T.K (T.cl k) f ∧ Binds T.K fd ps []
  len : ∀ ds c r, m ds c = some r → ds.length + 1 = ps.length
  mg : T.mg x = some (.ref (T.cl k))

theorem FnAt.mono {T : Tb} {n n' : Nat} {f : Addr} {fd : FuncData} {ps : List Str} {m : FC} (h : FnAt T n f fd ps m) (l : n ≤ n') : FnAt T n' f fd ps m := ⟨h.ok.mono l, h.kp, h.b, h.len⟩
theorem FnAt.sp {T : Tb} {n : Nat} {f : Addr} {fd : FuncData} {ps : List Str} {m : FC} (h : FnAt T n f fd ps m) {G : Hp} {al : List Addr} {c : Cs} {H : Hp} {Q : VK} {E : XK} {ds : List D} {vs : List V} {d : D} {c' : Cs} (hs : HSt T G al c H) (r : RpL T G al ds vs) (hm : m ds c = some (d, c')) (q : Aft T G al H d c' Q) :
    SpS T ps.length m vs H Q E := ⟨r.length.symm.trans (h.len _ _ _ hm), G, al, c, ds, d, c', hs, r, hm, q⟩

section
variable {T : Tb} {n k : Nat} {X : Cx} {pos p : Pos} {e o : Expr} {es : List Expr} {fe fo : FE} {fa : FA} {m : FC} {x : Str} {ps : List Str}
theorem Tied.fn {f : Addr} {fd : FuncData} {sp : Sp} (t : Tied T n X) (h : FnOk T.P T.w T.K T.mg T.base CX0 k f fd ps sp) : FnOk X.prog X.w X.K X.mg X.base CX0 k f fd ps sp := by
  rw [t.P, t.w, t.K, t.mg, t.base]; exact h
def fCall (m : FC) (fa : FA) : FE := fun env c => match fa env c with
  | some (ds, c1) => m ds c1
  | none => none
theorem tr_call (F : Fn T k x ps m) (ha : TrA T n X (e :: es) fa) (hk : k ≤ n := by decide) (hg : Gl X x := by rfl) (hdb : (x == ("__debug__" : Str)) = false := by decide) (he : starEach (e :: es) X.env = (false, eval e X.env) :: starEach es X.env := by rfl)
    (hpl : (backTo pos (starEach es X.env)).any (·.1) = false := by rfl) : TrE T n X (.Call (.Name x p) (e :: es) [] pos) (fCall m fa) := by
  obtain ⟨f, fd, A, g⟩ := F.ex
  refine ⟨fun t G al c env σ H Q d c' hs he' hf q => ofE (pe_call (t.fn A.ok) (t.room.mono hk) hg (by rw [t.mg]; exact g) (by rw [t.K]; exact A.kp) (by rw [t.K]; exact A.b) .nil pass0 (paS (e :: es)) hdb he hpl) ?_⟩
  unfold fCall at hf
  split at hf
  case h_2 => cases hf
  case h_1 ds c1 e1 =>
    refine ha.run t G al c env σ H _ ds c1 hs he' e1 fun G1 al1 H1 vs l1 hs1 r1 => ?_
    rw [List.append_nil]
    exact A.sp hs1 r1 hf fun G' al' H' v l => q G' al' H' v (l1.trans l)
theorem tr_call0 (F : Fn T k x ps m) (hk : k ≤ n := by decide) (hg : Gl X x := by rfl) (hdb : (x == ("__debug__" : Str)) = false := by decide) : TrE T n X (.Call (.Name x p) [] [] pos) (fCall m aNil) := by
  obtain ⟨f, fd, A, g⟩ := F.ex
  refine ⟨fun t G al c env σ H Q d c' hs he' hf q => ofE (pe_call0 (t.fn A.ok) (t.room.mono hk) hg (by rw [t.mg]; exact g) (by rw [t.K]; exact A.kp) (by rw [t.K]; exact A.b) .nil pass0 hdb) ?_⟩
  exact A.sp (E := E0) hs .nil hf q

/-! ### attributes -/
theorem zip_lookup : ∀ {fl : List Str} {vs : List V} {i : Nat} {f : Str} {v : V}, fl.Nodup → fl[i]? = some f → vs[i]? = some v → (fl.zip vs).lookup f = some v
  | [], _, _, _, _, _, h, _ => by simp at h
  | _ :: _, [], _, _, _, _, _, h => by simp at h
  | a :: fl, w :: vs, 0, f, v, nd, h1, h2 => by
    simp at h1 h2; subst h1; subst h2
    show List.lookup a ((a, w) :: fl.zip vs) = some w
    simp [List.lookup_cons]
  | a :: fl, w :: vs, i + 1, f, v, nd, h1, h2 => by
    have nd' := List.nodup_cons.mp nd
    have h1' : fl[i]? = some f := by simpa using h1
    have ne : f ≠ a := fun z => nd'.1 (z ▸ List.mem_of_getElem? h1')
    show List.lookup f ((a, w) :: fl.zip vs) = some v
    rw [List.lookup_cons]
    have : (f == a) = false := by simpa using ne
    rw [this]
    exact zip_lookup nd'.2 h1' (by simpa using h2)
/-- the instance that a datum stands for -/
theorem Rq.ins {G : Hp} {al : List Addr} {c : Cs} {H : Hp} {k : Nat} {ds : List D} {v : V} (hs : HSt T G al c H) (h : Rq T G al H (.obj k ds) v) : ∃ a dx vs, v = .ref a ∧ H a = some (.ins (T.cl k) dx ((T.fl k).zip vs)) ∧ RpL T G al ds vs ∧ ds.length ≤ (T.fl k).length := by
  rcases h with h | ⟨a, o, e, _, _, hh, b⟩
  · cases h with
    | box g b =>
      cases b with
      | obj r hl => exact ⟨_, _, _, rfl, hs.ex _ _ g, r, hl⟩
  · cases b with
    | obj r hl => exact ⟨a, _, _, e, hh, r, hl⟩
/-- a datum, or what its cell holds -/
def deref (c : Cs) : D → Option D
  | .cell k => c[k]?
  | d => some d
/-- .. in the heap -/
theorem Rq.ins' {G : Hp} {al : List Addr} {c : Cs} {H : Hp} {k : Nat} {d : D} {ds : List D} {v : V} (hs : HSt T G al c H) (h : Rq T G al H d v) (hd : deref c d = some (.obj k ds)) : ∃ a dx vs, v = .ref a ∧ H a = some (.ins (T.cl k) dx ((T.fl k).zip vs)) ∧ RpL T G al ds vs ∧ ds.length ≤ (T.fl k).length := by
  cases d with
  | cell j =>
    have hd : c[j]? = some (.obj k ds) := hd
    rcases h with h | ⟨a, o, e, _, _, hh, b⟩
    · cases h with
      | box g b => cases b
      | cell ha =>
        obtain ⟨_, o, ho, b⟩ := hs.at_ j _ _ ha hd
        cases b with
        | obj r hl => exact ⟨_, _, _, rfl, ho, r, hl⟩
    · cases b
  | obj k' ds' => cases hd; exact h.ins hs
  | _ => cases hd
def fFld (ks : List (Nat × Nat)) (f : FE) : FE := fun env c => match f env c with
  | some (d, c1) => match deref c1 d with
    | some (.obj k ds) => match ks.lookup k with
      | some i => match ds[i]? with
        | some y => some (y, c1)
        | none => none
      | none => none
    | _ => none
  | none => none
theorem tr_fld {f : Str} {ks : List (Nat × Nat)} (A : Acc T f ks) (h : TrQ T n X e fe) (hb : attributeBase e f X.env (eval e X.env) = eval e X.env := by rfl) : TrE T n X (.Attribute e f pos) (fFld ks fe) := by
  refine ⟨fun t G al c env σ H Q d c' hs he' hf q => ofE (pe_fld (peS e) hb) ?_⟩
  unfold fFld at hf
  split at hf
  case h_2 => cases hf
  case h_1 d1 c1 e1 =>
    split at hf
    case h_2 => cases hf
    case h_1 k ds e2 =>
      split at hf
      case h_2 => cases hf
      case h_1 i e3 =>
        split at hf
        case h_2 => cases hf
        case h_1 y e4 =>
          cases hf
          refine h.run t G al c env σ H _ d1 _ hs he' e1 fun G1 al1 H1 v l1 hs1 r1 => ?_
          obtain ⟨a, dx, vs, rfl, ha, rl, hl⟩ := r1.ins' hs1 e2
          obtain ⟨h1, h2, h3, h4⟩ := A.ok k i e3
          obtain ⟨u, hu, ru⟩ := rl.get e4
          exact ⟨a, _, dx, _, u, rfl, ha, by rw [t.K]; exact h1, by rw [t.K]; exact h2, zip_lookup h4 h3 hu, q G1 al1 H1 u l1 hs1 ru⟩

/-! ### methods, properties -/
theorem zip_none : ∀ {fl : List Str} {vs : List V} {f : Str}, f ∉ fl → (fl.zip vs).lookup f = none
  | [], _, _, _ => rfl
  | _ :: _, [], _, _ => rfl
  | a :: fl, w :: vs, f, h => by
    have ne : f ≠ a := fun z => h (z ▸ List.mem_cons_self)
    show List.lookup f ((a, w) :: fl.zip vs) = none
    rw [List.lookup_cons]
    have : (f == a) = false := by simpa using ne
    rw [this]
    exact zip_none fun z => h (List.mem_cons_of_mem _ z)
/-- o.m(..): by the class of o -/
def fMeth (ms : Nat → Option FC) (fo : FE) (fa : FA) : FE := fun env c => match fo env c with
  | some (d, c1) => match deref c1 d with
    | some (.obj k _) => match ms k with
      | some m => match fa env c1 with
        | some (ds, c2) => m (d :: ds) c2
        | none => none
      | none => none
    | _ => none
  | none => none
theorem tr_meth {ms : Nat → Option FC} {apos : Pos} (hm : ∀ j m, ms j = some m → ∃ k ps, k ≤ n ∧ Mth T k j x ps m) (ho : TrE T n X o fo) (ha : TrA T n X (e :: es) fa) (pl : Sem Bool)
    (hst : starEach (e :: es) X.env = (false, eval e X.env) :: starEach es X.env := by rfl) (hpl : (backTo pos (starEach es X.env)).any (·.1) = false := by rfl)
    (ht : eval (.Call (.Attribute o x apos) (e :: es) [] pos) X.env = (do
      let ov ← eval o X.env
      standAt apos.atName
      let (f, first) ← holding [ov] (getMethod ov x pl)
      callWith pos f first (backTo pos (starEach (e :: es) X.env)) (backToKw pos (keywordEach [] X.env))) := by rfl) : TrE T n X (.Call (.Attribute o x apos) (e :: es) [] pos) (fMeth ms fo fa) := by
  refine ⟨fun t G al c env σ H Q d c' hs he' hf q => ?_⟩
  unfold fMeth at hf
  split at hf
  case h_2 => cases hf
  case h_1 d1 c1 e1 =>
    split at hf
    case h_2 => cases hf
    case h_1 j ds0 e2 =>
      split at hf
      case h_2 => cases hf
      case h_1 m e3 =>
        split at hf
        case h_2 => cases hf
        case h_1 ds c2 e4 =>
          obtain ⟨k, ps, hk, ⟨f, fd, A, M⟩, C, no⟩ := hm j m e3
          refine ofE (pe_meth (pl := pl) (peS o) (by rw [t.K]; exact C) (by rw [t.K]; exact M) (t.fn A.ok) (t.room.mono hk) (by rw [t.K]; exact A.b) .nil pass0 (paS (e :: es)) hst hpl ht) ?_
          refine ho.run t G al c env σ H _ d1 c1 hs he' e1 fun G1 al1 H1 v l1 hs1 r1 => ?_
          obtain ⟨a, dx, vs0, rfl, hh, rl, hl⟩ := Rq.ins' hs1 (.inl r1) e2
          refine ⟨a, dx, _, rfl, hh, zip_none no, ?_⟩
          refine ha.run t G1 al1 c1 env σ H1 _ ds c2 hs1 (he'.mono l1) e4 fun G2 al2 H2 vs l2 hs2 r2 => ?_
          rw [List.append_nil]
          exact A.sp hs2 (.cons (r1.mono l2.le) r2) hf fun G' al' H' v' l => q G' al' H' v' ((l1.trans l2).trans l)
theorem tr_meth0 {ms : Nat → Option FC} {apos : Pos} (hm : ∀ j m, ms j = some m → ∃ k ps, k ≤ n ∧ Mth T k j x ps m) (ho : TrE T n X o fo) (pl : Sem Bool)
    (ht : eval (.Call (.Attribute o x apos) [] [] pos) X.env = (do
      let ov ← eval o X.env
      standAt apos.atName
      let (f, first) ← holding [ov] (getMethod ov x pl)
      callWith pos f first (backTo pos (starEach [] X.env)) (backToKw pos (keywordEach [] X.env))) := by rfl) : TrE T n X (.Call (.Attribute o x apos) [] [] pos) (fMeth ms fo aNil) := by
  refine ⟨fun t G al c env σ H Q d c' hs he' hf q => ?_⟩
  unfold fMeth at hf
  split at hf
  case h_2 => cases hf
  case h_1 d1 c1 e1 =>
    split at hf
    case h_2 => cases hf
    case h_1 j ds0 e2 =>
      split at hf
      case h_2 => cases hf
      case h_1 m e3 =>
        have hf : m [d1] c1 = some (d, c') := hf
        obtain ⟨k, ps, hk, ⟨f, fd, A, M⟩, C, no⟩ := hm j m e3
        refine ofE (pe_meth0 (pl := pl) (peS o) (by rw [t.K]; exact C) (by rw [t.K]; exact M) (t.fn A.ok) (t.room.mono hk) (by rw [t.K]; exact A.b) .nil pass0 ht) ?_
        refine ho.run t G al c env σ H _ d1 c1 hs he' e1 fun G1 al1 H1 v l1 hs1 r1 => ?_
        obtain ⟨a, dx, vs0, rfl, hh, rl, hl⟩ := Rq.ins' hs1 (.inl r1) e2
        refine ⟨a, dx, _, rfl, hh, zip_none no, ?_⟩
        exact A.sp (E := E0) hs1 (.cons r1 .nil) hf fun G' al' H' v' l => q G' al' H' v' (l1.trans l)
/-- o.f, a property by the class of o -/
def fProp (ms : Nat → Option FC) (fo : FE) : FE := fun env c => match fo env c with
  | some (d, c1) => match deref c1 d with
    | some (.obj k _) => match ms k with
      | some m => m [d] c1
      | none => none
    | _ => none
  | none => none
theorem tr_prop {ms : Nat → Option FC} (hm : ∀ j m, ms j = some m → ∃ k, k + 1 ≤ n ∧ Prp T k j x m) (ho : TrE T n X o fo) (hab : attributeBase o x X.env (eval o X.env) = eval o X.env := by rfl) : TrE T n X (.Attribute o x pos) (fProp ms fo) := by
  refine ⟨fun t G al c env σ H Q d c' hs he' hf q => ?_⟩
  unfold fProp at hf
  split at hf
  case h_2 => cases hf
  case h_1 d1 c1 e1 =>
    split at hf
    case h_2 => cases hf
    case h_1 j ds0 e2 =>
      split at hf
      case h_2 => cases hf
      case h_1 m e3 =>
        obtain ⟨k, hk, ⟨pp, f, fd, ps, A, P⟩, C⟩ := hm j m e3
        refine ofE (pe_prop (peS o) (by rw [t.K]; exact C) (by rw [t.K]; exact P) (t.fn A.ok) (t.room.mono hk) (by rw [t.K]; exact A.b) .nil pass0 hab) ?_
        refine ho.run t G al c env σ H _ d1 c1 hs he' e1 fun G1 al1 H1 v l1 hs1 r1 => ?_
        obtain ⟨a, dx, vs0, rfl, hh, rl, hl⟩ := Rq.ins' hs1 (.inl r1) e2
        refine ⟨a, dx, _, rfl, hh, ?_⟩
        exact A.sp (E := E0) hs1 (.cons r1 .nil) hf fun G' al' H' v' l => q G' al' H' v' (l1.trans l)
/-! ### staticmethods -/
theorem getsm_ok {pins : List (Addr × Obj)} {σ : L2.St} {H : Hp} {s : Shared} {C q f : Addr} {b : Bool} {A : Around} {Q : Value → Shared → Prop} {E : Value → Shared → Prop} (I : Inv X pins σ H s) (r : ClX.CRead X.K C (.type "type"))
    (e : PySem.W.findCls X.K (.ref C) (.type "type") x = some (.get (.builtin "staticmethod.__get__") (.ref q) .none (.ref C))) (hp : ∃ rest, PySem.W.recIn X.K q "staticmethod" = some (.ref f :: rest))
    (h : ∀ s', Inv X pins σ H s' → Q (.ref f) s') : wpAny (model X.prog X.w) A (getAttr (.ref C) x b) Q E s := by
  obtain ⟨rest, hp⟩ := hp
  exact PySem.W.cls_bind I.kIn r.rd e (wpAny_call (PySem.W.sm_get (s := { s with toks := s.toks + 1 }) I.kIn hp (PySem.W.handed_on (by rfl) (h _ (I.tok _)))))
theorem tr_sm {apos : Pos} (S : Smt T k j x ps m) (ho : X.mg y = some (.ref (T.cl j))) (ha : TrA T n X (e :: es) fa) (pl : Sem Bool) (hk : k ≤ n := by decide) (hg : Gl X y := by rfl) (hd : (y == ("__debug__" : Str)) = false := by decide)
    (hst : starEach (e :: es) X.env = (false, eval e X.env) :: starEach es X.env := by rfl) (hpl : (backTo pos (starEach es X.env)).any (·.1) = false := by rfl)
    (ht : eval (.Call (.Attribute (.Name y p) x apos) (e :: es) [] pos) X.env = (do
      let ov ← eval (.Name y p) X.env
      standAt apos.atName
      let (f, first) ← holding [ov] (getMethod ov x pl)
      callWith pos f first (backTo pos (starEach (e :: es) X.env)) (backToKw pos (keywordEach [] X.env))) := by rfl) : TrE T n X (.Call (.Attribute (.Name y p) x apos) (e :: es) [] pos) (fCall m fa) := by
  obtain ⟨⟨q, f, fd, A, h1, h2⟩, rd⟩ := S
  refine ⟨fun t G al c env σ H Q d c' hs he' hf q' => fun pins s I => ?_⟩
  have pc : PE X (.Name y p) (tC (.ref (T.cl j))) := pe_glob (v := .ref (T.cl j)) hg ho rfl hd
  refine PySem.W.methodCall_KW (pl := pl) (thn (pc.run pins s σ H (fun v H1 => v = .ref (T.cl j) ∧ H1 = H) I ⟨rfl, rfl⟩) fun u s1 ⟨w, H1, I1, r1, ew, eH⟩ => ?_) ht
  subst ew; subst eH
  obtain rfl : u = Value.ref (T.cl j) := r1
  refine PySem.W.method_cls I1.kIn (by rw [t.K]; exact rd.ga) (getsm_ok I1 (by rw [t.K]; exact rd) (by rw [t.K]; exact h1) (by rw [t.K]; exact h2) fun s2 I2 => ?_)
  unfold fCall at hf
  split at hf
  case h_2 => cases hf
  case h_1 ds c1 e1 =>
    refine PySem.W.callWith_K (first := []) (h₀ := X.base) I.ok.mod.kin (by rw [t.K]; exact A.kp) ?_ hst hpl
    have key : SemA X (e :: es) σ H1 fun vs H2 => SpS T ps.length m vs H2 Q E0 := ha.run t G al c env σ H1 _ ds c1 hs he' e1 fun G1 al1 H2 vs l1 hs1 rl => A.sp hs1 rl hf fun G' al' H' v l => q' G' al' H' v (l1.trans l)
    refine thn (key pos pins s2 I2) fun us s3 ⟨vs, H2, I3, rv, q2⟩ => ⟨I3.kIn, ?_⟩
    exact run_fn (us := us) (t.fn A.ok) (t.room.mono hk) (by rw [t.K]; exact A.b) .nil pass0 I3 rv (by rw [List.append_nil]; exact q2)
/-! ### new instances -/
theorem tr_make (M : Mkr T k j x ps m) (ha : TrA T n X (e :: es) fa) (hk : k + 1 ≤ n := by decide) (hg : Gl X x := by rfl) (hdb : (x == ("__debug__" : Str)) = false := by decide) (he : starEach (e :: es) X.env = (false, eval e X.env) :: starEach es X.env := by rfl)
    (hpl : (backTo pos (starEach es X.env)).any (·.1) = false := by rfl) : TrN T n X (.Call (.Name x p) (e :: es) [] pos) (fCall m fa) := by
  obtain ⟨f, fd, A, MK, b⟩ := M.ex
  refine ⟨fun t G al c env σ H Q d c' hs he' hf q => ofE (pe_make (by rw [t.K]; exact MK) (t.fn A) (t.room.mono hk) hg (by rw [t.mg]; exact M.mg) (by rw [t.K]; exact b) .nil pass0 (paS (e :: es)) hdb he hpl) ?_⟩
  unfold fCall at hf
  split at hf
  case h_2 => cases hf
  case h_1 ds c1 e1 =>
    refine ha.run t G al c env σ H _ ds c1 hs he' e1 fun G1 al1 H1 vs l1 hs1 r1 => fun y dx hy hdx hne => ?_
    rw [List.append_nil]
    refine ⟨by rw [List.length_cons, ← r1.length]; exact M.len _ _ _ hf, y, dx, vs, G1, al1, c1, H1, ds, d, c', rfl, hy, hdx, hne, rfl, hs1, r1, hf, fun G' al' H' o l hs' hg' ha' ho hb => ⟨rfl, ?_⟩⟩
    exact q G' al' H' y o (l1.trans l) hs' hg' ha' (fresh_before hs hs1 l1 hy) ho hb
end

/-! ### a def's body -/
def startD (N : List Str) (ds : List D) : En := ds.map (fun d => some (.f d)) ++ List.replicate (N.length - ds.length) none
/-- the context of a body -/
abbrev BX (T : Tb) (N : List Str) (qual : Str) (scope : Scope) (f : Addr) (cdv : Value) (A : Around) (outer : List Env) (s : Shared) (H : Hp) (E : XK) : Cx := (cxOf CX0 T.P T.w T.K T.mg T.base N qual scope f cdv A outer s H E).nox
section
variable {T : Tb} {n : Nat} {N ps : List Str} {x qual : Str} {params : Arguments} {body : List Stmt} {scope : Scope} {f : Addr} {fd : FuncData} {kws : List (Str × V)} {m : FC} {fb : FS}
theorem eok_start {G : Hp} {al : List Addr} {H : Hp} {ds : List D} {vs : List V} (r : RpL T G al ds vs) : EOk T G al H (startD N ds) (L2.start N vs) := by
  have len := r.length
  have key : ∀ (i : Nat) (s : Sl), (startD N ds)[i]? = some (some s) → ∃ d, s = .f d ∧ ds[i]? = some d := fun i s h => by
    unfold startD at h
    by_cases hi : i < ds.length
    · rw [List.getElem?_append_left (by simpa using hi), List.getElem?_map, List.getElem?_eq_getElem hi] at h
      cases h
      exact ⟨_, rfl, List.getElem?_eq_getElem hi⟩
    · rw [List.getElem?_append_right (by simpa using hi), List.getElem?_replicate] at h
      split at h <;> cases h
  refine ⟨by simp [startD, L2.start, len], fun i d h => ?_, fun i d h => ?_, fun i j d e a h _ _ _ => ?_⟩
  · obtain ⟨d', e, hd⟩ := key i _ h
    cases e
    obtain ⟨v, hv, rv⟩ := r.get hd
    refine ⟨v, ?_, rv⟩
    obtain ⟨hl, _⟩ := List.getElem?_eq_some_iff.mp hv
    unfold L2.start
    rw [List.getElem?_append_left (by simpa using hl), List.getElem?_map, hv]
    rfl
  · obtain ⟨d', e, _⟩ := key i _ h
    cases e
  · obtain ⟨d', e, _⟩ := key i _ h
    cases e
theorem fnok_body (F : FunD T.K x qual params body scope [] kws f fd) (S : FnScope N ps scope) (nd : N.Nodup)
    (tr : ∀ (cdv : Value) (A : Around) (outer : List Env) (s : Shared) (H : Hp) (E : XK), TrB T n (BX T N qual scope f cdv A outer s H E) body fb)
    (hm : ∀ ds c r, m ds c = some r → ∃ fl env', fb (startD N ds) c = some (fl, env', r.2) ∧ (fl = .rt r.1 ∨ (fl = .nx ∧ r.1 = .non))) : FnOk T.P T.w T.K T.mg T.base CX0 (n + 1) f fd ps (SpS T ps.length m) := by
  refine F.ok S (fun vs H Q E h => h.1) (fun cdv A outer s H vs Q E hr h => ?_)
  obtain ⟨hl, G, al, c, ds, d, c', hs, rl, e1, q⟩ := h
  obtain ⟨fl, env', e2, e3⟩ := hm ds c (d, c') e1
  have ti : Tied T n (BX T N qual scope f cdv A outer s H E) := ⟨rfl, rfl, rfl, rfl, rfl, rfl, nd, hr⟩
  refine ⟨_, PSs.nox (pbS body), (tr cdv A outer s H E).run ti ⟨G, al, c, H, none⟩ G al c (startD N ds) (L2.start N vs) H _ fl env' c' ⟨hs, hs, eok_start rl, .refl _ _ _, fun i e a h => ?_, fun x e hx => by cases hx⟩ e2 fun G' al' σ' H' l k' => ?_⟩
  · obtain ⟨b, o, s1, _⟩ := (eok_start (N := N) (H := H) rl).own i e h
    unfold startD at h
    by_cases hi : i < ds.length
    · rw [List.getElem?_append_left (by simpa using hi), List.getElem?_map, List.getElem?_eq_getElem hi] at h; cases h
    · rw [List.getElem?_append_right (by simpa using hi), List.getElem?_replicate] at h
      split at h <;> cases h
  · rcases e3 with e3 | ⟨e3, e4⟩
    · subst e3
      exact fun v r => q G' al' H' v k'.st k'.hs r
    · subst e3
      have e4 : d = .non := e4
      subst e4
      exact q G' al' H' .non k'.st k'.hs .non
/-- __init__: the new instance is the first parameter's -/
def startI (k : Nat) (N : List Str) (ds : List D) : En := (startD N (.non :: ds)).set 0 (some (.o (.obj k [])))
theorem fnok_init {k : Nat} (F : FunD T.K x qual params body scope [] kws f fd) (S : FnScope N ps scope) (nd : N.Nodup)
    (tr : ∀ (cdv : Value) (A : Around) (outer : List Env) (s : Shared) (H : Hp) (E : XK), TrB T n (BX T N qual scope f cdv A outer s H E) body fb)
    (hm : ∀ ds c r, m ds c = some r → ∃ fl env', fb (startI k N ds) c = some (fl, env', r.2) ∧ (fl = .rt .non ∨ fl = .nx) ∧ env'[0]? = some (some (.o r.1))) : FnOk T.P T.w T.K T.mg T.base CX0 (n + 1) f fd ps (SpI T k ps.length m) := by
  refine F.ok S (fun vs H Q E h => h.1) (fun cdv A outer s H vs Q E hr h => ?_)
  obtain ⟨hl, y, dx, vs', G, al, c, H0, ds, d, c', rfl, hy, hdx, hne, rfl, hs, rl, e1, q⟩ := h
  obtain ⟨fl, env', e2, e3, e4⟩ := hm ds c (d, c') e1
  have ti : Tied T n (BX T N qual scope f cdv A outer s (upd (upd H0 dx (.own y)) y (.ins (T.cl k) dx [])) E) := ⟨rfl, rfl, rfl, rfl, rfl, rfl, nd, hr⟩
  have hy1 : (upd H0 dx (.own y)) y = none := by rw [upd_ne (Ne.symm hne)]; exact hy
  have hs1 : HSt T G al c (upd (upd H0 dx (.own y)) y (.ins (T.cl k) dx [])) := (hs.junk hdx).junk hy1
  have st1 : Stp G al H0 G al (upd (upd H0 dx (.own y)) y (.ins (T.cl k) dx [])) := (Stp.junk hdx).trans (Stp.junk hy1)
  have r0 : RpL T G al (.non :: ds) (.non :: vs') := .cons .non rl
  have he0 : EOk T G al (upd (upd H0 dx (.own y)) y (.ins (T.cl k) dx [])) (startD N (.non :: ds)) (L2.start N (.non :: vs')) := eok_start r0
  have none_own : ∀ (j : Nat) (e : D), (startD N (.non :: ds))[j]? ≠ some (some (.o e)) := fun j e h => by
    unfold startD at h
    by_cases hi : j < (D.non :: ds).length
    · rw [List.getElem?_append_left (by simpa using hi), List.getElem?_map, List.getElem?_eq_getElem hi] at h; cases h
    · rw [List.getElem?_append_right (by simpa using hi), List.getElem?_replicate] at h
      split at h <;> cases h
  have es : L2.start N (.ref y :: vs') = (L2.start N (.non :: vs')).set 0 (some (.ref y)) := rfl
  have hb0 : Bx T G al y (.ins (T.cl k) dx []) (.obj k []) := by
    have := Bx.obj (T := T) (G := G) (al := al) (a := y) (dx := dx) (c := k) (vs := []) (ds := []) .nil (Nat.zero_le _)
    rw [List.zip_nil_right] at this
    exact this
  have he1 : EOk T G al (upd (upd H0 dx (.own y)) y (.ins (T.cl k) dx [])) (startI k N ds) (L2.start N (.ref y :: vs')) := by
    rw [es]
    exact he0.setO 0 (hs.free hy) (hs.apart hy) upd_same hb0 fun j e _ h => absurd h (none_own j e)
  refine ⟨_, PSs.nox (pbS body), (tr cdv A outer s _ E).run ti ⟨G, al, c, H0, some y⟩ G al c (startI k N ds) (L2.start N (.ref y :: vs')) _ _ fl env' c' ⟨hs, hs1, he1, st1, fun i e a h h2 => ?_, fun x e hx _ => ?_⟩ e2 fun G' al' σ' H' l k' => ?_⟩
  · by_cases hi : i = 0
    · subst hi
      rw [es] at h2
      unfold startI at h
      have hl0 : 0 < (L2.start N (.non :: vs')).length := by simp [L2.start]
      rw [List.getElem?_set_self hl0] at h2
      cases h2
      exact hy
    · unfold startI at h
      rw [List.getElem?_set_ne (Ne.symm hi)] at h
      exact absurd h (none_own i e)
  · cases hx
    rw [es]
    exact List.getElem?_set_self (by simp [L2.start])
  · have hx := k'.se y d rfl e4
    obtain ⟨a, o, s1, hg, ha, ho, hb⟩ := k'.he.own 0 d e4
    rw [hx] at s1
    cases s1
    have fin := q G' al' H' o k'.st k'.hs hg ha ho hb
    rcases e3 with e3 | e3
    · subst e3
      intro v r
      cases r with
      | non => exact fin
      | box _ z => cases z
    · subst e3
      exact fin

/-! ### a field of one's own object -/
theorem putF_zip : ∀ {fl : List Str} {vs : List V} {i : Nat} {f : Str} {v : V}, fl.Nodup → fl[i]? = some f → i ≤ vs.length → vs.length ≤ fl.length → putF f v (fl.zip vs) = fl.zip (if i < vs.length then vs.set i v else vs ++ [v])
  | [], _, _, _, _, _, h, _, _ => by simp at h
  | a :: fl, [], 0, f, v, nd, h, _, _ => by
    simp at h; subst h
    simp [putF]
  | a :: fl, [], i + 1, f, v, nd, h, hl, _ => by simp at hl
  | a :: fl, w :: vs, 0, f, v, nd, h, _, _ => by
    simp at h; subst h
    show putF a v ((a, w) :: fl.zip vs) = _
    unfold putF
    simp
  | a :: fl, w :: vs, i + 1, f, v, nd, h, hl, hl2 => by
    have nd' := List.nodup_cons.mp nd
    have h1 : fl[i]? = some f := by simpa using h
    have ne : a ≠ f := fun z => nd'.1 (z ▸ List.mem_of_getElem? h1)
    show putF f v ((a, w) :: fl.zip vs) = _
    have ih := putF_zip (vs := vs) (v := v) nd'.2 h1 (by simpa using hl) (by simpa using hl2)
    by_cases hlt : i < vs.length
    · rw [if_pos hlt] at ih
      rw [if_pos (by simpa using hlt)]
      unfold putF
      simp [ne, ih]
    · rw [if_neg hlt] at ih
      rw [if_neg (by simpa using hlt)]
      unfold putF
      simp [ne, ih]
/-- self.f = e: the fields are set in the order of the table at first -/
def fldPut (i : Nat) (ds : List D) (d : D) : Option (List D) := if i < ds.length then some (ds.set i d) else if i = ds.length then some (ds ++ [d]) else none
end
end Pd
set_option Elab.async false
set_option linter.all false
set_option maxRecDepth 100000
/-! Pd4: what is walked, comprehensions, stores into one's own objects. -/
namespace Pd
open PySem PySem.Spec PyProof.Rows L2

theorem wipe_ext : ∀ {vs : List Nat} {σ σ' : L2.St}, σ'.length = σ.length → (∀ j, j ∉ vs → σ'[j]? = σ[j]?) → L2.wipe σ' vs = L2.wipe σ vs := fun {vs σ σ'} hl h => by
  apply List.ext_getElem?
  intro j
  have key : ∀ (ws : List Nat) (τ : L2.St), j ∈ ws → (L2.wipe τ ws)[j]? = if j < τ.length then some none else none := fun ws τ => by
    induction ws with
    | nil => intro h; cases h
    | cons w ws ih =>
      intro hm
      unfold L2.wipe
      by_cases hw : w = j
      · subst hw
        by_cases hl : w < τ.length
        · rw [if_pos hl, List.getElem?_set_self (by rw [L2.wipe_length]; exact hl)]
        · rw [if_neg hl, List.getElem?_eq_none (by simp [L2.wipe_length]; omega)]
      · rw [List.getElem?_set_ne hw]
        rcases List.mem_cons.mp hm with e | e
        · exact absurd e.symm hw
        · exact ih e
  by_cases hj : j ∈ vs
  · rw [key vs σ' hj, key vs σ hj, hl]
  · rw [L2.wipe_out hj, L2.wipe_out hj]
    exact h j hj
theorem wipeD_some {env : En} {j : Nat} {s : Sl} : ∀ {vs : List Nat}, (wipeD env vs)[j]? = some (some s) → env[j]? = some (some s) ∧ j ∉ vs
  | [], h => ⟨h, by simp⟩
  | v :: vs, h => by
    unfold wipeD at h
    by_cases hi : v = j
    · subst hi
      by_cases hv : v < (wipeD env vs).length
      · rw [List.getElem?_set_self hv] at h; cases h
      · rw [List.getElem?_eq_none (by simpa using hv)] at h; cases h
    · rw [List.getElem?_set_ne hi] at h
      obtain ⟨h1, h2⟩ := wipeD_some h
      exact ⟨h1, by simp only [List.mem_cons, not_or]; exact ⟨fun e => hi e.symm, h2⟩⟩
theorem wipe_idem (σ : L2.St) (vs : List Nat) : L2.wipe (L2.wipe σ vs) vs = L2.wipe σ vs := wipe_ext (L2.wipe_length σ vs) fun j hj => L2.wipe_out hj

section
variable {T : Tb} {n : Nat} {X : Cx} {pos : Pos} {e elt tg iter c0 : Expr} {fe : FE} {ft : FT} {g : FG} {ws : List Nat} {fi : FA}
/-! ### a clause's tests -/
def fYes : FT := fun _ c => some (true, c)
theorem tts_nil : TrTs T n X [] fYes := ⟨fun t G al c env σ H Q b c' hs he hf q => ofTs pts_nil (by cases hf; exact q G al H (.refl _ _ _) hs)⟩
theorem tts_one (h : TrT T n X c0 ft) : TrTs T n X [c0] ft := ⟨fun t G al c env σ H Q b c' hs he hf q => ofTs (pts_one (ptS c0)) (h.run t G al c env σ H Q b c' hs he hf q)⟩

/-! ### comprehensions -/
def compD (g : FG) (ft : FT) (fe : FE) : List D → En → Cs → Option (List D × Cs)
  | [], _, c => some ([], c)
  | d :: ds, env, c => match g d env with
    | none => none
    | some env1 => match ft env1 c with
      | some (true, c1) => match fe env1 c1 with
        | some (y, c2) => match compD g ft fe ds env c2 with
          | some (ys, c3) => some (y :: ys, c3)
          | none => none
        | none => none
      | some (false, c1) => compD g ft fe ds env c1
      | none => none
def fComp (fi : FA) (g : FG) (ft : FT) (fe : FE) (vs : List Nat) : FE := fun env c => match fi env c with
  | some (ds, c1) => match compD g ft fe ds (wipeD env vs) c1 with
    | some (ys, c2) => if ys.length ≤ lim then some (.lst ys, c2) else none
    | none => none
  | none => none
abbrev BlkT (T : Tb) (n : Nat) (X : Cx) (scope : Scope) (R : Cx → Prop) : Prop := ∀ (s : Shared) (H : Hp) (C : Addr) (cl : List (Str × Addr)) (fp : List Addr), R (X.blk s H scope (compEnvC scope cl C X.env) fp)
theorem Tied.blk (t : Tied T n X) (s : Shared) (H : Hp) (scope : Scope) (ce : Env) (fp : List Addr) : Tied T n (X.blk s H scope ce fp) := ⟨t.K, t.P, t.w, t.mg, t.base, t.calm, t.nd, t.room⟩
/-- the state within a comprehension: D the new list, ys what it holds -/
structure CSt (T : Tb) (G1 : Hp) (al1 : List Addr) (H1 : Hp) (D0 : Addr) (ys : List D) (G : Hp) (al : List Addr) (c : Cs) (H : Hp) : Prop where
  st : Stp G1 al1 H1 G al H
  hs : HSt T G al c H
  gD : G D0 = none
  aD : D0 ∉ al
  hD : ∃ vs, H D0 = some (.lst vs) ∧ RpL T G al ys vs
theorem CSt.step {G1 H1 G H G' H' : Hp} {al1 al al' : List Addr} {c c' : Cs} {D0 : Addr} {ys : List D} (k : CSt T G1 al1 H1 D0 ys G al c H) (l : Stp G al H G' al' H') (hs' : HSt T G' al' c' H') : CSt T G1 al1 H1 D0 ys G' al' c' H' := by
  obtain ⟨vs, e, r⟩ := k.hD
  obtain ⟨g', a', h'⟩ := l.fr D0 _ k.gD k.aD e
  exact ⟨k.st.trans l, hs', g', a', vs, h', r.mono l.le⟩
theorem CSt.app {G1 H1 G H : Hp} {al1 al : List Addr} {c : Cs} {D0 : Addr} {ys : List D} {y : D} {v : V} {vs : List V} (k : CSt T G1 al1 H1 D0 ys G al c H) (hn : H1 D0 = none) (e : H D0 = some (.lst vs)) (rl : RpL T G al ys vs) (r : Rp T G al y v) : CSt T G1 al1 H1 D0 (ys ++ [y]) G al c (upd H D0 (.lst (vs ++ [v]))) := by
  refine ⟨⟨k.st.le, fun a o g m h => ?_⟩, k.hs.apartPut k.gD k.aD, k.gD, k.aD, vs ++ [v], upd_same, rl.append (.cons r .nil)⟩
  obtain ⟨g', m', h'⟩ := k.st.fr a o g m h
  exact ⟨g', m', by rw [upd_ne (ne_of_none h hn)]; exact h'⟩
theorem CSt.new {G1 H1 : Hp} {al1 : List Addr} {c1 : Cs} {D0 : Addr} (hs : HSt T G1 al1 c1 H1) (hn : H1 D0 = none) : CSt T G1 al1 H1 D0 [] G1 al1 c1 (upd H1 D0 (.lst [])) :=
  ⟨.junk hn, hs.junk hn, hs.free hn, hs.apart hn, [], upd_same, .nil⟩
/-- the state of slots in a block stays -/
theorem CSt.env {G1 H1 G H : Hp} {al1 al : List Addr} {c : Cs} {D0 : Addr} {ys : List D} {env : En} {σ : L2.St} (k : CSt T G1 al1 H1 D0 ys G al c H) (he : EOk T G1 al1 H1 env σ) : EOk T G al H env σ := he.mono k.st
/-- readings for every block -/
def BE (X : Cx) (scope : Scope) (e : Expr) : TE := fun σ H Q => BlkT T n X scope fun Y => SemE Y e σ H Q
def BTs (X : Cx) (scope : Scope) (es : List Expr) : TT := fun σ H Q => BlkT T n X scope fun Y => SemTs Y es σ H Q
def BG (X : Cx) (scope : Scope) (tg : Expr) : L2.TG := fun v σ H Q => BlkT T n X scope fun Y => SemG Y tg v σ H Q
def BI (X : Cx) (scope : Scope) (tg iter : Expr) : TI := fun σ H R => BlkT T n X scope fun Y => SemI Y tg iter σ H R
theorem bE {scope : Scope} (e : Expr) (s : Shared) (H : Hp) (C : Addr) (cl : List (Str × Addr)) (fp : List Addr) : PE (X.blk s H scope (compEnvC scope cl C X.env) fp) e (BE (T := T) (n := n) X scope e) := ⟨fun pins s' σ H' Q I h => h s H C cl fp pins s' I⟩
theorem bTs {scope : Scope} (es : List Expr) (s : Shared) (H : Hp) (C : Addr) (cl : List (Str × Addr)) (fp : List Addr) : PTs (X.blk s H scope (compEnvC scope cl C X.env) fp) es (BTs (T := T) (n := n) X scope es) := ⟨fun pins s' σ H' Q I h => h s H C cl fp pins s' I⟩
theorem bG {scope : Scope} (tg : Expr) (s : Shared) (H : Hp) (C : Addr) (cl : List (Str × Addr)) (fp : List Addr) : PG (X.blk s H scope (compEnvC scope cl C X.env) fp) tg (BG (T := T) (n := n) X scope tg) := ⟨fun pins s' σ H' v u Q I r h => h s H C cl fp pins s' u I r⟩
theorem bI {scope : Scope} (tg iter : Expr) (s : Shared) (H : Hp) (C : Addr) (cl : List (Str × Addr)) (fp : List Addr) : PI (X.blk s H scope (compEnvC scope cl C X.env) fp) tg iter (BI (T := T) (n := n) X scope tg iter) := ⟨fun pins s' σ H' R I h => h s H C cl fp pins s' I⟩
theorem tn_lc {scope : Scope} {own : List (Str × Nat)} (hi : TrIQ T n X tg iter fi) (ok : blkC X.N X.env.scope scope own = true) (hg : BlkT T n X scope fun Y => TrG T n Y tg ws g) {ifs : List Expr} (ht : BlkT T n X scope fun Y => TrTs T n Y ifs ft) (he : BlkT T n X scope fun Y => TrE T n Y elt fe)
    (hw : ∀ i ∈ ws, i ∈ own.map (·.2)) (hfs : ∀ x, foldedSetIterable iter X.env x = pure x := by intro _; rfl) : TrN T n X (.ListComp elt [⟨tg, iter, ifs, 0⟩] scope pos) (fComp fi g ft fe (own.map (·.2))) := by
  refine ⟨fun t G al c env σ H Q d c' hs heo hf q => ofE (pe_lc t.calm t.nd (piS tg iter) (blkOk_by ok) (bG (T := T) (n := n) tg) (bTs (T := T) (n := n) ifs) (bE (T := T) (n := n) elt) hfs) ?_⟩
  unfold fComp at hf
  split at hf
  case h_2 => cases hf
  case h_1 ds c1 e1 =>
    split at hf
    case h_2 => cases hf
    case h_1 ys c2 e2 =>
      split at hf
      case isFalse => cases hf
      case isTrue hlen =>
        cases hf
        refine hi.run t G al c env σ H _ ds c1 hs heo e1 fun G1 al1 H1 J l1 hs1 it => fun D0 hD0 => ?_
        have he0 : EOk T G1 al1 H1 (wipeD env (own.map (·.2))) (L2.wipe σ (own.map (·.2))) := (heo.mono l1).wipe _
        -- at turn i: zs is made, the rest of the items makes the rest
        refine ⟨fun i m H2 => m = ds.length - i ∧ i ≤ ds.length ∧ ∃ G2 al2 cc zs rs, CSt T G1 al1 H1 D0 zs G2 al2 cc H2 ∧ compD g ft fe (ds.drop i) (wipeD env (own.map (·.2))) cc = some (rs, c') ∧ zs ++ rs = ys,
          ⟨_, rfl, Nat.zero_le _, G1, al1, c1, [], ys, CSt.new hs1 hD0, by simpa using e2, rfl⟩, ?_⟩
        rintro i m H2 ⟨rfl, hil, G2, al2, cc, zs, rs, k2, hr, hzr⟩
        by_cases hlt : i < ds.length
        · rw [List.drop_eq_getElem_cons hlt] at hr
          unfold compD at hr
          split at hr
          case h_1 => cases hr
          case h_2 env3 e3 =>
            obtain ⟨go, yl⟩ := (it i G2 al2 cc H2 k2.st k2.hs).1 ds[i] (List.getElem?_eq_getElem hlt)
            refine .inr ⟨go, fun H' => ∃ G' al' cn zs' rs', CSt T G1 al1 H1 D0 zs' G' al' cn H' ∧ compD g ft fe (ds.drop (i + 1)) (wipeD env (own.map (·.2))) cn = some (rs', c') ∧ zs' ++ rs' = ys,
              fun H' ⟨G', al', cn, zs', rs', k', hr', hz'⟩ => ⟨ds.length - (i + 1), by omega, rfl, hlt, G', al', cn, zs', rs', k', hr', hz'⟩, fun x H3 y => ?_⟩
            obtain ⟨G3, l3, hs3, r3⟩ := yl x H3 y
            have k3 := k2.step l3 hs3
            intro sB HB CB clB fpB
            refine (hg sB HB CB clB fpB).run (t.blk _ _ _ _ _) G3 al2 cc _ _ H3 ds[i] x env3 _ hs3 (k3.env he0) r3 e3 fun σ4 he4 hl4 ho4 hx4 => ?_
            refine ⟨?_, ?_⟩
            · rw [wipe_ext hl4 fun j hj => (ho4 j fun z => hj (hw j z)).1, wipe_idem]
            · intro sB HB CB clB fpB
              split at hr
              case h_3 => cases hr
              case h_2 c4 e4 =>
                refine (ht sB HB CB clB fpB).run (t.blk _ _ _ _ _) G3 al2 cc env3 σ4 H3 _ false c4 hs3 he4 e4 fun G4 al4 H4 l4 hs4 => ?_
                exact iteF ⟨G4, al4, c4, zs, rs, k3.step l4 hs4, hr, hzr⟩
              case h_1 c4 e4 =>
                refine (ht sB HB CB clB fpB).run (t.blk _ _ _ _ _) G3 al2 cc env3 σ4 H3 _ true c4 hs3 he4 e4 fun G4 al4 H4 l4 hs4 => iteT ?_
                have k4 := k3.step l4 hs4
                intro sB HB CB clB fpB
                split at hr
                case h_2 => cases hr
                case h_1 yy c5 e5 =>
                  refine (he sB HB CB clB fpB).run (t.blk _ _ _ _ _) G4 al4 c4 env3 σ4 H4 _ yy c5 hs4 (he4.mono l4) e5 fun G5 al5 H5 v l5 hs5 r5 => ?_
                  have k5 := k4.step l5 hs5
                  obtain ⟨vs, hv, rl⟩ := k5.hD
                  split at hr
                  case h_2 => cases hr
                  case h_1 rs' c6 e6 =>
                    cases hr
                    have hlz : zs.length < lim := by
                      have : (zs ++ yy :: rs').length ≤ lim := by rw [hzr]; exact hlen
                      simp at this
                      omega
                    refine ⟨vs, hv, by rw [← rl.length]; exact Nat.lt_of_lt_of_le hlz lim_line, ?_⟩
                    exact ⟨G5, al5, c5, zs ++ [yy], rs', k5.app hD0 hv rl r5, e6, by rw [List.append_assoc]; exact hzr⟩
        · have e : i = ds.length := by omega
          subst e
          rw [List.drop_length] at hr
          cases hr
          rw [List.append_nil] at hzr
          subst hzr
          obtain ⟨vs, hv, rl⟩ := k2.hD
          exact .inl ⟨(it _ G2 al2 _ H2 k2.st k2.hs).2 (Nat.le_refl _), q G2 al2 H2 D0 (.lst vs) (l1.trans k2.st) k2.hs k2.gD k2.aD (fresh_before hs hs1 l1 hD0) hv (.lst rl)⟩
/-! ### two clauses -/
def compD2 (g : FG) (ft : FT) (fi1 : FA) (g1 : FG) (ft1 : FT) (fe : FE) (vs1 : List Nat) : List D → En → Cs → Option (List D × Cs)
  | [], _, c => some ([], c)
  | d :: ds, env, c => match g d env with
    | none => none
    | some env1 => match ft env1 c with
      | some (true, c1) => match fi1 env1 c1 with
        | some (ds1, c2) => match compD g1 ft1 fe ds1 (wipeD env1 vs1) c2 with
          | some (ys, c3) => match compD2 g ft fi1 g1 ft1 fe vs1 ds env c3 with
            | some (zs, c4) => some (ys ++ zs, c4)
            | none => none
          | none => none
        | none => none
      | some (false, c1) => compD2 g ft fi1 g1 ft1 fe vs1 ds env c1
      | none => none
def fComp2 (fi : FA) (g : FG) (ft : FT) (fi1 : FA) (g1 : FG) (ft1 : FT) (fe : FE) (vs vs1 : List Nat) : FE := fun env c => match fi env c with
  | some (ds, c1) => match compD2 g ft fi1 g1 ft1 fe vs1 ds (wipeD env vs) c1 with
    | some (ys, c2) => if ys.length ≤ lim then some (.lst ys, c2) else none
    | none => none
  | none => none
/-- what lies apart but the new list -/
theorem CSt.le {G1 H1 G H : Hp} {al1 al : List Addr} {c : Cs} {D0 : Addr} {ys : List D} (k : CSt T G1 al1 H1 D0 ys G al c H) : Le G1 al1 G al := k.st.le
theorem tn_lc2 {scope : Scope} {own : List (Str × Nat)} {tg1 iter1 : Expr} {fi1 : FA} {g1 : FG} {ft1 : FT} {ws1 vs1 : List Nat} (hi : TrIQ T n X tg iter fi) (ok : blkC X.N X.env.scope scope own = true) (hg : BlkT T n X scope fun Y => TrG T n Y tg ws g) {ifs ifs1 : List Expr} (ht : BlkT T n X scope fun Y => TrTs T n Y ifs ft)
    (hi1 : BlkT T n X scope fun Y => TrI T n Y tg1 iter1 fi1) (hg1 : BlkT T n X scope fun Y => TrG T n Y tg1 ws1 g1) (ht1 : BlkT T n X scope fun Y => TrTs T n Y ifs1 ft1) (he : BlkT T n X scope fun Y => TrE T n Y elt fe)
    (hw : ∀ i ∈ ws, i ∈ own.map (·.2)) (hv : ∀ i ∈ vs1, i ∈ own.map (·.2)) (hw1 : ∀ i ∈ ws1, i ∈ vs1) (hfs : ∀ x, foldedSetIterable iter X.env x = pure x := by intro _; rfl) (hfs1 : ∀ env x, foldedSetIterable iter1 env x = pure x := by intro _ _; rfl) :
    TrN T n X (.ListComp elt [⟨tg, iter, ifs, 0⟩, ⟨tg1, iter1, ifs1, 0⟩] scope pos) (fComp2 fi g ft fi1 g1 ft1 fe (own.map (·.2)) vs1) := by
  refine ⟨fun t G al c env σ H Q d c' hs heo hf q => ofE (pe_lc2 (vs1 := vs1) t.calm t.nd (piS tg iter) (blkOk_by ok) hv (bG (T := T) (n := n) tg) (bTs (T := T) (n := n) ifs) (bI (T := T) (n := n) tg1 iter1) (bG (T := T) (n := n) tg1) (bTs (T := T) (n := n) ifs1) (bE (T := T) (n := n) elt) hfs hfs1) ?_⟩
  unfold fComp2 at hf
  split at hf
  case h_2 => cases hf
  case h_1 ds c1 e1 =>
    split at hf
    case h_2 => cases hf
    case h_1 ys c2 e2 =>
      split at hf
      case isFalse => cases hf
      case isTrue hlen =>
        cases hf
        refine hi.run t G al c env σ H _ ds c1 hs heo e1 fun G1 al1 H1 J l1 hs1 it => fun D0 hD0 => ?_
        have he0 : EOk T G1 al1 H1 (wipeD env (own.map (·.2))) (L2.wipe σ (own.map (·.2))) := (heo.mono l1).wipe _
        refine ⟨fun i m H2 => m = ds.length - i ∧ i ≤ ds.length ∧ ∃ G2 al2 cc zs rs, CSt T G1 al1 H1 D0 zs G2 al2 cc H2 ∧ compD2 g ft fi1 g1 ft1 fe vs1 (ds.drop i) (wipeD env (own.map (·.2))) cc = some (rs, c') ∧ zs ++ rs = ys,
          ⟨_, rfl, Nat.zero_le _, G1, al1, c1, [], ys, CSt.new hs1 hD0, by simpa using e2, rfl⟩, ?_⟩
        rintro i m H2 ⟨rfl, hil, G2, al2, cc, zs, rs, k2, hr, hzr⟩
        by_cases hlt : i < ds.length
        · rw [List.drop_eq_getElem_cons hlt] at hr
          unfold compD2 at hr
          split at hr
          case h_1 => cases hr
          case h_2 env3 e3 =>
            obtain ⟨go, yl⟩ := (it i G2 al2 cc H2 k2.st k2.hs).1 ds[i] (List.getElem?_eq_getElem hlt)
            refine .inr ⟨go, fun H' => ∃ G' al' cn zs' rs', CSt T G1 al1 H1 D0 zs' G' al' cn H' ∧ compD2 g ft fi1 g1 ft1 fe vs1 (ds.drop (i + 1)) (wipeD env (own.map (·.2))) cn = some (rs', c') ∧ zs' ++ rs' = ys,
              fun H' ⟨G', al', cn, zs', rs', k', hr', hz'⟩ => ⟨ds.length - (i + 1), by omega, rfl, hlt, G', al', cn, zs', rs', k', hr', hz'⟩, fun x H3 y => ?_⟩
            obtain ⟨G3, l3, hs3, r3⟩ := yl x H3 y
            have k3 := k2.step l3 hs3
            intro sB HB CB clB fpB
            refine (hg sB HB CB clB fpB).run (t.blk _ _ _ _ _) G3 al2 cc _ _ H3 ds[i] x env3 _ hs3 (k3.env he0) r3 e3 fun σ4 he4 hl4 ho4 hx4 => ?_
            refine ⟨?_, ?_⟩
            · rw [wipe_ext hl4 fun j hj => (ho4 j fun z => hj (hw j z)).1, wipe_idem]
            · intro sB HB CB clB fpB
              split at hr
              case h_3 => cases hr
              case h_2 c4 e4 =>
                refine (ht sB HB CB clB fpB).run (t.blk _ _ _ _ _) G3 al2 cc env3 σ4 H3 _ false c4 hs3 he4 e4 fun G4 al4 H4 l4 hs4 => ?_
                exact iteF ⟨G4, al4, c4, zs, rs, k3.step l4 hs4, hr, hzr⟩
              case h_1 c4 e4 =>
                refine (ht sB HB CB clB fpB).run (t.blk _ _ _ _ _) G3 al2 cc env3 σ4 H3 _ true c4 hs3 he4 e4 fun G4 al4 H4 l4 hs4 => iteT ?_
                have k4 := k3.step l4 hs4
                have he4' := he4.mono l4
                intro sB HB CB clB fpB
                split at hr
                case h_2 => cases hr
                case h_1 ds1 c5 e5 =>
                  refine (hi1 sB HB CB clB fpB).run (t.blk _ _ _ _ _) G4 al4 c4 env3 σ4 H4 _ ds1 c5 hs4 he4' e5 fun G5 al5 H5 J1 l5 hs5 it1 => ?_
                  have k5 := k4.step l5 hs5
                  have he5 : EOk T G5 al5 H5 env3 σ4 := he4'.mono l5
                  split at hr
                  case h_2 => cases hr
                  case h_1 ys1 c6 e6 =>
                    split at hr
                    case h_2 => cases hr
                    case h_1 rs2 c7 e7 =>
                      cases hr
                      -- the slots of the inner target are forgotten; all else is as the block knew it: the env of the whole comprehension
                      -- the inner loop
                      refine ⟨fun j k H6 => k = ds1.length - j ∧ j ≤ ds1.length ∧ ∃ G6 al6 cc6 ws6 rs6, Le G5 al5 G6 al6 ∧ EOk T G6 al6 H6 (wipeD env3 vs1) (L2.wipe σ4 vs1) ∧ CSt T G1 al1 H1 D0 (zs ++ ws6) G6 al6 cc6 H6 ∧ compD g1 ft1 fe (ds1.drop j) (wipeD env3 vs1) cc6 = some (rs6, c6) ∧ ws6 ++ rs6 = ys1,
                        ⟨_, rfl, Nat.zero_le _, G5, al5, c5, [], ys1, .refl _ _, he5.wipe _, by simpa using k5, by simpa using e6, rfl⟩, ?_⟩
                      rintro j k H6 ⟨rfl, hjl, G6, al6, cc6, ws6, rs6, le6, he6, k6, hr6, hwr⟩
                      by_cases hlt1 : j < ds1.length
                      · rw [List.drop_eq_getElem_cons hlt1] at hr6
                        unfold compD at hr6
                        split at hr6
                        case h_1 => cases hr6
                        case h_2 env7 e8 =>
                          obtain ⟨go1, yl1⟩ := (it1 j G6 al6 cc6 H6 le6 k6.hs).1 ds1[j] (List.getElem?_eq_getElem hlt1)
                          refine .inr ⟨go1, fun H' => ∃ G' al' cn ws' rs', Le G5 al5 G' al' ∧ EOk T G' al' H' (wipeD env3 vs1) (L2.wipe σ4 vs1) ∧ CSt T G1 al1 H1 D0 (zs ++ ws') G' al' cn H' ∧ compD g1 ft1 fe (ds1.drop (j + 1)) (wipeD env3 vs1) cn = some (rs', c6) ∧ ws' ++ rs' = ys1,
                            fun H' ⟨G', al', cn, ws', rs', le', he', k', hr', hz'⟩ => ⟨ds1.length - (j + 1), by omega, rfl, hlt1, G', al', cn, ws', rs', le', he', k', hr', hz'⟩, fun x1 H7 y1 => ?_⟩
                          obtain ⟨G7, l7, hs7, r7⟩ := yl1 x1 H7 y1
                          have k7 := k6.step l7 hs7
                          have he7 := he6.mono l7
                          have le7 := le6.trans l7.le
                          intro sB HB CB clB fpB
                          refine (hg1 sB HB CB clB fpB).run (t.blk _ _ _ _ _) G7 al6 cc6 _ _ H7 ds1[j] x1 env7 _ hs7 he7 r7 e8 fun σ8 he8 hl8 ho8 hx8 => ?_
                          refine ⟨?_, ?_⟩
                          · rw [wipe_ext hl8 fun j hj => (ho8 j fun z => hj (hw1 j z)).1, wipe_idem]
                          · intro sB HB CB clB fpB
                            split at hr6
                            case h_3 => cases hr6
                            case h_2 c8 e9 =>
                              refine (ht1 sB HB CB clB fpB).run (t.blk _ _ _ _ _) G7 al6 cc6 env7 σ8 H7 _ false c8 hs7 he8 e9 fun G8 al8 H8 l8 hs8 => ?_
                              exact iteF ⟨G8, al8, c8, ws6, rs6, le7.trans l8.le, he7.mono l8, k7.step l8 hs8, hr6, hwr⟩
                            case h_1 c8 e9 =>
                              refine (ht1 sB HB CB clB fpB).run (t.blk _ _ _ _ _) G7 al6 cc6 env7 σ8 H7 _ true c8 hs7 he8 e9 fun G8 al8 H8 l8 hs8 => iteT ?_
                              have k8 := k7.step l8 hs8
                              intro sB HB CB clB fpB
                              split at hr6
                              case h_2 => cases hr6
                              case h_1 yy c9 e10 =>
                                refine (he sB HB CB clB fpB).run (t.blk _ _ _ _ _) G8 al8 c8 env7 σ8 H8 _ yy c9 hs8 (he8.mono l8) e10 fun G9 al9 H9 v l9 hs9 r9 => ?_
                                have k9 := k8.step l9 hs9
                                have he9 := (he7.mono l8).mono l9
                                obtain ⟨vs, hv', rl⟩ := k9.hD
                                split at hr6
                                case h_2 => cases hr6
                                case h_1 rs' c10 e11 =>
                                  cases hr6
                                  have hlz : (zs ++ ws6).length < lim := by
                                    have h1 : (zs ++ (ys1 ++ rs2)).length ≤ lim := by rw [hzr]; exact hlen
                                    rw [← hwr] at h1
                                    simp at h1 ⊢
                                    omega
                                  refine ⟨vs, hv', by rw [← rl.length]; exact Nat.lt_of_lt_of_le hlz lim_line, ?_⟩
                                  have ka := k9.app hD0 hv' rl r9
                                  refine ⟨G9, al9, c9, ws6 ++ [yy], rs', (le7.trans l8.le).trans l9.le, ?_, by rw [← List.append_assoc]; exact ka, e11, by rw [List.append_assoc]; exact hwr⟩
                                  -- the new list is no name's own
                                  have hDn : ∀ (j' : Nat) (e' : D), (wipeD env3 vs1)[j']? = some (some (.o e')) → (L2.wipe σ4 vs1)[j']? ≠ some (some (.ref D0)) := fun j' e' q1 q2 => by
                                    obtain ⟨q3, nj⟩ := wipeD_some q1
                                    rw [L2.wipe_out nj] at q2
                                    obtain ⟨q4, q5⟩ := hx4 j' e' q3
                                    rw [q5] at q2
                                    obtain ⟨a', o', s', _, _, h', _⟩ := he0.own j' e' q4
                                    rw [q2] at s'
                                    cases s'
                                    rw [hD0] at h'; cases h'
                                  exact ⟨he9.len, he9.frz, fun j' e' q1 => by
                                    obtain ⟨a', o', s', g', m', h', b'⟩ := he9.own j' e' q1
                                    exact ⟨a', o', s', g', m', by rw [upd_ne (show a' ≠ D0 from fun z => hDn j' e' q1 (by rw [s', z]))]; exact h', b'⟩, he9.dis⟩
                      · have e : j = ds1.length := by omega
                        subst e
                        rw [List.drop_length] at hr6
                        cases hr6
                        rw [List.append_nil] at hwr
                        subst hwr
                        exact .inl ⟨(it1 _ G6 al6 _ H6 le6 k6.hs).2 (Nat.le_refl _), G6, al6, _, zs ++ ws6, rs2, k6, e7, by rw [List.append_assoc]; exact hzr⟩
        · have e : i = ds.length := by omega
          subst e
          rw [List.drop_length] at hr
          cases hr
          rw [List.append_nil] at hzr
          subst hzr
          obtain ⟨vs, hv', rl⟩ := k2.hD
          exact .inl ⟨(it _ G2 al2 _ H2 k2.st k2.hs).2 (Nat.le_refl _), q G2 al2 H2 D0 (.lst vs) (l1.trans k2.st) k2.hs k2.gD k2.aD (fresh_before hs hs1 l1 hD0) hv' (.lst rl)⟩
end
end Pd
set_option Elab.async false
set_option linter.all false
set_option maxRecDepth 100000
/-! Pd5: what is walked; stores into one's own objects. -/
namespace Pd
open PySem PySem.Spec PyProof.Rows L2

section
variable {T : Tb} {G : Hp} {al : List Addr} {c : Cs} {H : Hp} {ds : List D} {v : V}
theorem Rp.lst_inv (r : Rp T G al (.lst ds) v) : ∃ a vs, v = .ref a ∧ G a = some (.lst vs) ∧ RpL T G al ds vs := by
  cases r with
  | box g b =>
    cases b with
    | lst r => exact ⟨_, _, rfl, g, r⟩
theorem Rq.lst_inv (hs : HSt T G al c H) (r : Rq T G al H (.lst ds) v) : ∃ a vs, v = .ref a ∧ H a = some (.lst vs) ∧ RpL T G al ds vs := by
  rcases r with r | ⟨a, o, e, _, _, hh, b⟩
  · obtain ⟨a, vs, e, g, rl⟩ := r.lst_inv
    exact ⟨a, vs, e, hs.ex _ _ g, rl⟩
  · cases b with
    | lst r => exact ⟨a, _, e, hh, r⟩
theorem Rq.tup_inv (hs : HSt T G al c H) (r : Rq T G al H (.tup ds) v) : ∃ a vs, v = .ref a ∧ SqT T.K H a vs ∧ RpL T G al ds vs := by
  rcases r with r | ⟨a, o, e, _, _, hh, b⟩
  · obtain ⟨a, vs, e, g, rl⟩ := r.tup_inv
    exact ⟨a, vs, e, sqT_h hs.ex g, rl⟩
  · cases b
theorem Rq.int_inv {i : Int} (r : Rq T G al H (.int i) v) : v = .int i := by
  rcases r with r | ⟨a, o, e, _, _, hh, b⟩
  · cases r with
    | int => rfl
    | box _ z => cases z
  · cases b
theorem Rq.bl_inv {i : Bool} (r : Rq T G al H (.bl i) v) : v = .bl i := by
  rcases r with r | ⟨a, o, e, _, _, hh, b⟩
  · exact r.bl_inv
  · cases b
theorem Rq.str_inv {i : Str} (r : Rq T G al H (.str i) v) : v = .str i := by
  rcases r with r | ⟨a, o, e, _, _, hh, b⟩
  · cases r with
    | str => rfl
    | box _ z => cases z
  · cases b
theorem Rq.non_inv (r : Rq T G al H .non v) : v = .non := by
  rcases r with r | ⟨a, o, e, _, _, hh, b⟩
  · cases r with
    | non => rfl
    | box _ z => cases z
  · cases b
theorem Rq.scr_inv {ns : List Int} (hs : HSt T G al c H) (r : Rq T G al H (.scr ns) v) : ∃ a, v = .ref a ∧ SqL T.K H a (ns.map V.int) := by
  rcases r with r | ⟨a, o, e, _, _, hh, b⟩
  · cases r with
    | scr h => exact ⟨_, rfl, sqL_le hs.ex h⟩
    | box _ z => cases z
  · cases b
end

section
variable {T : Tb} {n : Nat} {X : Cx} {pos p : Pos} {e e2 tg iter : Expr} {fe : FE} {fa : FA}

/-! ### items -/
def seqD (c : Cs) (d : D) : Option (List D) := match d with
  | .lst ds => some ds
  | .tup ds => some ds
  | _ => none
def fIt (f : FE) : FA := fun env c => match f env c with
  | some (.lst ds, c1) => some (ds, c1)
  | some (.tup ds, c1) => some (ds, c1)
  | _ => none
theorem it_list {K : PySem.W.Frag} {G : Hp} {al : List Addr} {a : Addr} {vs : List V} {ds : List D} (hg : G a = some (.lst vs)) (rl : RpL T G al ds vs) : ItOk T G al (Itl K a) ds := by
  intro i G2 al2 c2 H2 le hs2
  have hh : H2 a = some (.lst vs) := hs2.ex _ _ (le.g _ _ hg)
  have sq : ∀ xs, SqL K H2 a xs → H2 a = some (.lst vs) → True := fun _ _ _ => trivial
  refine ⟨fun d hd => ?_, fun hl => ⟨vs, SqL.of hh, by rw [← rl.length]; exact hl⟩⟩
  obtain ⟨x, hx, rx⟩ := rl.get hd
  refine ⟨⟨vs, x, SqL.of hh, hx⟩, fun y H3 ⟨e, hy⟩ => ?_⟩
  subst e
  have := hy vs (SqL.of hh)
  rw [hx] at this
  cases this
  exact ⟨G2, .refl _ _ _, hs2, rx.mono le⟩
theorem it_tup {K : PySem.W.Frag} {G : Hp} {al : List Addr} {a : Addr} {vs : List V} {ds : List D} (hg : SqT K G a vs) (rl : RpL T G al ds vs) : ItOk T G al (Itt K a) ds := by
  intro i G2 al2 c2 H2 le hs2
  have hh : SqT K H2 a vs := sqT_h (fun a o h => hs2.ex _ _ (le.g _ _ h)) hg
  refine ⟨fun d hd => ?_, fun hl => ⟨vs, hh, by rw [← rl.length]; exact hl⟩⟩
  obtain ⟨x, hx, rx⟩ := rl.get hd
  refine ⟨⟨vs, x, hh, hx⟩, fun y H3 ⟨e, hy⟩ => ?_⟩
  subst e
  have := hy vs hh
  rw [hx] at this
  cases this
  exact ⟨G2, .refl _ _ _, hs2, rx.mono le⟩
theorem ti_seq (h : TrE T n X e fe) : TrI T n X tg e (fIt fe) := by
  refine ⟨fun t G al c env σ H R ds c' hs he hf q => ?_⟩
  unfold fIt at hf
  split at hf
  case h_1 ds1 c1 e1 =>
    cases hf
    refine ofI (pi_list (peS e)) (h.run t G al c env σ H _ _ _ hs he e1 fun G1 al1 H1 v l1 hs1 r1 => ?_)
    obtain ⟨a, vs, rfl, hg, rl⟩ := r1.lst_inv
    exact ⟨a, rfl, ⟨vs, SqL.of (hs1.ex _ _ hg)⟩, q G1 al1 H1 _ l1 hs1 (it_list hg rl)⟩
  case h_2 ds1 c1 e1 =>
    cases hf
    refine ofI (pi_tup (peS e)) (h.run t G al c env σ H _ _ _ hs he e1 fun G1 al1 H1 v l1 hs1 r1 => ?_)
    obtain ⟨a, vs, rfl, hg, rl⟩ := r1.tup_inv
    rw [← t.K] at hg
    exact ⟨a, rfl, ⟨vs, sqT_h hs1.ex hg⟩, q G1 al1 H1 _ l1 hs1 (it_tup hg rl)⟩
  case h_3 => cases hf
/-- .. an object of one's own too: in a comprehension -/
theorem tiq_seq (h : TrQ T n X e fe) : TrIQ T n X tg e (fIt fe) := by
  refine ⟨fun t G al c env σ H R ds c' hs he hf q => ?_⟩
  unfold fIt at hf
  split at hf
  case h_1 ds1 c1 e1 =>
    cases hf
    refine ofI (pi_list (peS e)) (h.run t G al c env σ H _ _ _ hs he e1 fun G1 al1 H1 v l1 hs1 r1 => ?_)
    rcases r1 with r1 | ⟨a, o, ev, g1, m1, h1, b1⟩
    · obtain ⟨a, vs, rfl, hg, rl⟩ := r1.lst_inv
      exact ⟨a, rfl, ⟨vs, SqL.of (hs1.ex _ _ hg)⟩, q G1 al1 H1 _ l1 hs1 fun i G2 al2 c2 H2 l2 => it_list hg rl i G2 al2 c2 H2 l2.le⟩
    · cases b1 with
      | lst rl =>
        rename_i vs
        refine ⟨a, ev, ⟨vs, SqL.of h1⟩, q G1 al1 H1 _ l1 hs1 fun i G2 al2 c2 H2 l2 hs2 => ?_⟩
        obtain ⟨_, _, hh⟩ := l2.fr a _ g1 m1 h1
        refine ⟨fun d hd => ?_, fun hl => ⟨vs, SqL.of hh, by rw [← rl.length]; exact hl⟩⟩
        obtain ⟨x, hx, rx⟩ := rl.get hd
        refine ⟨⟨vs, x, SqL.of hh, hx⟩, fun y H3 ⟨e, hy⟩ => ?_⟩
        subst e
        have := hy vs (SqL.of hh)
        rw [hx] at this
        cases this
        exact ⟨G2, .refl _ _ _, hs2, rx.mono l2.le⟩
  case h_2 ds1 c1 e1 =>
    cases hf
    refine ofI (pi_tup (peS e)) (h.run t G al c env σ H _ _ _ hs he e1 fun G1 al1 H1 v l1 hs1 r1 => ?_)
    rcases r1 with r1 | ⟨a, o, ev, g1, m1, h1, b1⟩
    · obtain ⟨a, vs, rfl, hg, rl⟩ := r1.tup_inv
      rw [← t.K] at hg
      exact ⟨a, rfl, ⟨vs, sqT_h hs1.ex hg⟩, q G1 al1 H1 _ l1 hs1 fun i G2 al2 c2 H2 l2 => it_tup hg rl i G2 al2 c2 H2 l2.le⟩
    · cases b1
  case h_3 => cases hf
/-! ### ranges -/
def rangeD (lo : Int) (k : Nat) : List D := (List.range k).map fun i => .int (lo + (i : Nat))
def small62 (i : Int) : Bool := decide (-4611686018427387904 ≤ i) && decide (i < 4611686018427387904)
theorem small62_ok {i : Int} (h : small62 i = true) : -(2 ^ 62) ≤ i ∧ i < 2 ^ 62 := by
  unfold small62 at h
  simp only [Bool.and_eq_true, decide_eq_true_eq] at h
  constructor
  · have := h.1; omega
  · have := h.2; omega
def fRg1 (fa : FA) : FA := fun env c => match fa env c with
  | some ([.int j], c1) => if small62 j = true then some (rangeD 0 j.toNat, c1) else none
  | _ => none
def fRg2 (fa : FA) : FA := fun env c => match fa env c with
  | some ([.int i, .int j], c1) => if (small62 i && small62 j) = true then some (rangeD i (j - i).toNat, c1) else none
  | _ => none
theorem it_range {G : Hp} {al : List Addr} (lo : Int) (k : Nat) : ItOk T G al (Itr lo k) (rangeD lo k) := by
  intro i G2 al2 c2 H2 le hs2
  refine ⟨fun d hd => ?_, fun hl => ?_⟩
  · unfold rangeD at hd
    rw [List.getElem?_map] at hd
    by_cases hi : i < k
    · rw [List.getElem?_range hi] at hd
      cases hd
      exact ⟨hi, fun y H3 ⟨e1, e2⟩ => by subst e1; subst e2; exact ⟨G2, .refl _ _ _, hs2, .int _⟩⟩
    · rw [List.getElem?_eq_none (by simpa using hi)] at hd; cases hd
  · have : k ≤ i := by simpa [rangeD] using hl
    exact this
theorem RqL.int1 {G : Hp} {al : List Addr} {H : Hp} {i : Int} {vs : List V} (h : RqL T G al H [.int i] vs) : vs = [.int i] := by
  obtain ⟨v, rfl, r⟩ := h.one
  rw [r.int_inv]
theorem RqL.int2 {G : Hp} {al : List Addr} {H : Hp} {i j : Int} {vs : List V} (h : RqL T G al H [.int i, .int j] vs) : vs = [.int i, .int j] := by
  obtain ⟨v, u, rfl, r, s⟩ := h.two
  rw [r.int_inv, s.int_inv]
theorem ti_rg1 (ha : TrQA T n X [e] fa) (hm : X.mg "range" = none) (hg : Gl X "range" := by rfl) (hs : starEach [e] X.env = [(false, eval e X.env)] := by rfl) : TrI T n X tg (.Call (.Name "range" p) [e] [] pos) (fRg1 fa) := by
  refine ⟨fun t G al c env σ H R ds c' hst he hf q => ofI (pi_range1 hg hm (paS [e]) hs) ?_⟩
  unfold fRg1 at hf
  split at hf
  case h_2 => cases hf
  case h_1 j c1 e1 =>
    split at hf
    case isFalse => cases hf
    case isTrue hl =>
      cases hf
      refine ha.run t G al c env σ H _ _ _ hst he e1 fun G1 al1 H1 vs l1 hs1 r1 => ?_
      obtain ⟨h1, h2⟩ := small62_ok hl
      exact ⟨j, r1.int1, h1, h2, q G1 al1 H1 _ l1 hs1 (it_range 0 _)⟩
theorem ti_rg2 (ha : TrQA T n X [e, e2] fa) (hm : X.mg "range" = none) (hg : Gl X "range" := by rfl) (hs : starEach [e, e2] X.env = [(false, eval e X.env), (false, eval e2 X.env)] := by rfl) (hs2 : starEach [e2] X.env = [(false, eval e2 X.env)] := by rfl) : TrI T n X tg (.Call (.Name "range" p) [e, e2] [] pos) (fRg2 fa) := by
  refine ⟨fun t G al c env σ H R ds c' hst he hf q => ofI (pi_range2 hg hm (paS [e, e2]) hs hs2) ?_⟩
  unfold fRg2 at hf
  split at hf
  case h_2 => cases hf
  case h_1 i j c1 e1 =>
    split at hf
    case isFalse => cases hf
    case isTrue hl =>
      cases hf
      refine ha.run t G al c env σ H _ _ _ hst he e1 fun G1 al1 H1 vs l1 hs1 r1 => ?_
      obtain ⟨l2, l3⟩ := Bool.and_eq_true_iff.mp hl
      obtain ⟨h1, h2⟩ := small62_ok l2
      obtain ⟨h3, h4⟩ := small62_ok l3
      exact ⟨i, j, r1.int2, ⟨h1, h2, h3, h4⟩, q G1 al1 H1 _ l1 hs1 (it_range i _)⟩
/-! ### enumerate, zip -/
def enumD : Nat → List D → List D
  | _, [] => []
  | i, d :: ds => .tup [.int (i : Nat), d] :: enumD (i + 1) ds
theorem enumD_get : ∀ (ds : List D) (k i : Nat) (d : D), (enumD k ds)[i]? = some d → ∃ y, ds[i]? = some y ∧ d = .tup [.int ((k + i : Nat) : Int), y]
  | [], _, _, _, h => by simp [enumD] at h
  | y :: ds, k, 0, d, h => by simp [enumD] at h; exact ⟨y, rfl, by simpa using h.symm⟩
  | y :: ds, k, i + 1, d, h => by
    obtain ⟨z, h1, h2⟩ := enumD_get ds (k + 1) i d (by simpa [enumD] using h)
    exact ⟨z, by simpa using h1, by rw [h2]; congr 3; omega⟩
theorem enumD_length : ∀ (ds : List D) (k : Nat), (enumD k ds).length = ds.length
  | [], _ => rfl
  | _ :: ds, k => by simp [enumD, enumD_length ds (k + 1)]
def fEnum (fa : FA) : FA := fun env c => match fa env c with
  | some ([.lst ds], c1) => some (enumD 0 ds, c1)
  | _ => none
theorem it_enum {K : PySem.W.Frag} {G : Hp} {al : List Addr} {a : Addr} {vs : List V} {ds : List D} (hg : G a = some (.lst vs)) (rl : RpL T G al ds vs) : ItOk T G al (Ite K a) (enumD 0 ds) := by
  intro i G2 al2 c2 H2 le hs2
  have hh : H2 a = some (.lst vs) := hs2.ex _ _ (le.g _ _ hg)
  refine ⟨fun d hd => ?_, fun hl => ⟨vs, SqL.of hh, by rw [enumD_length] at hl; rw [← rl.length]; exact hl⟩⟩
  obtain ⟨y, hy, rfl⟩ := enumD_get ds 0 i d hd
  obtain ⟨x, hx, rx⟩ := rl.get hy
  refine ⟨⟨vs, x, SqL.of hh, hx⟩, fun w H3 ⟨P, x', e1, hP, e2, hy'⟩ => ?_⟩
  have := hy' vs (SqL.of hh)
  rw [hx] at this
  cases this
  subst e1; subst e2
  refine ⟨upd G2 P (.tup [.int (i : Nat), x]), .freeze hs2 hP, hs2.freeze hP, .tup (.inl (.inl upd_same)) (.cons ?_ (.cons ((rx.mono le).mono (.upd (hs2.free hP))) .nil))⟩
  have : (0 + i : Nat) = i := by omega
  rw [this]
  exact .int _
theorem ti_enum {elts : List Expr} {kk : Nat} {tpos : Pos} (ha : TrA T n X [e] fa) (hm : X.mg "enumerate" = none) (hg : Gl X "enumerate" := by rfl) (hs : starEach [e] X.env = [(false, eval e X.env)] := by rfl) : TrI T n X (.Tuple elts kk tpos) (.Call (.Name "enumerate" p) [e] [] pos) (fEnum fa) := by
  refine ⟨fun t G al c env σ H R ds c' hst he hf q => ofI (pi_enum hg hm (paS [e]) hs) ?_⟩
  unfold fEnum at hf
  split at hf
  case h_2 => cases hf
  case h_1 ds1 c1 e1 =>
    cases hf
    refine ha.run t G al c env σ H _ _ _ hst he e1 fun G1 al1 H1 vs l1 hs1 r1 => ?_
    obtain ⟨v, rfl, rv⟩ := r1.one
    obtain ⟨a, xs, rfl, hga, rl⟩ := rv.lst_inv
    exact ⟨a, xs, rfl, SqL.of (hs1.ex _ _ hga), q G1 al1 H1 _ l1 hs1 (it_enum hga rl)⟩
def zipD : List D → List D → List D
  | x :: xs, y :: ys => .tup [x, y] :: zipD xs ys
  | _, _ => []
theorem zipD_get : ∀ (xs ys : List D) (i : Nat) (d : D), (zipD xs ys)[i]? = some d → ∃ x y, xs[i]? = some x ∧ ys[i]? = some y ∧ d = .tup [x, y]
  | [], _, _, _, h => by simp [zipD] at h
  | _ :: _, [], _, _, h => by simp [zipD] at h
  | x :: xs, y :: ys, 0, d, h => by simp [zipD] at h; exact ⟨x, y, rfl, rfl, h.symm⟩
  | x :: xs, y :: ys, i + 1, d, h => by
    obtain ⟨a, b, h1, h2, h3⟩ := zipD_get xs ys i d (by simpa [zipD] using h)
    exact ⟨a, b, by simpa using h1, by simpa using h2, h3⟩
theorem zipD_length : ∀ (xs ys : List D), (zipD xs ys).length = min xs.length ys.length
  | [], _ => by simp [zipD]
  | _ :: _, [] => by simp [zipD]
  | _ :: xs, _ :: ys => by simp [zipD, zipD_length xs ys, Nat.succ_min_succ]
def fZip (fa : FA) : FA := fun env c => match fa env c with
  | some ([.lst xs, .lst ys], c1) => some (zipD xs ys, c1)
  | some ([.tup xs, .tup ys], c1) => some (zipD xs ys, c1)
  | _ => none
theorem ti_zip {elts : List Expr} {kk : Nat} {tpos : Pos} (ha : TrA T n X [e, e2] fa) (hm : X.mg "zip" = none) (hg : Gl X "zip" := by rfl) (hs : starEach [e, e2] X.env = (false, eval e X.env) :: starEach [e2] X.env := by rfl) (hpl : (backTo pos (starEach [e2] X.env)).any (·.1) = false := by rfl) :
    TrI T n X (.Tuple elts kk tpos) (.Call (.Name "zip" p) [e, e2] [] pos) (fZip fa) := by
  refine ⟨fun t G al c env σ H R ds c' hst he hf q => ofI (RZ.pi_zipA hg hm (paS [e, e2]) hs hpl) ?_⟩
  have tupl : ∀ {G1 : Hp} {al1 : List Addr} {a b : Addr} {xs ys : List V} {d1 d2 : List D} {J : It}, RpL T G1 al1 d1 xs → RpL T G1 al1 d2 ys → (∀ (G2 : Hp) (al2 : List Addr) (c2 : Cs) (H2 : Hp), Le G1 al1 G2 al2 → HSt T G2 al2 c2 H2 →
      (∀ i x y, xs[i]? = some x → ys[i]? = some y → J.go i H2 ∧ ∀ w H3, J.yld i H2 w H3 → ∃ P, w = .ref P ∧ H2 P = none ∧ H3 = upd H2 P (.tup [x, y])) ∧ ∀ i, (xs.length ≤ i ∨ ys.length ≤ i) → J.stop i H2) → ItOk T G1 al1 J (zipD d1 d2) := by
    intro G1 al1 a b xs ys d1 d2 J r1 r2 hJ i G2 al2 c2 H2 le hs2
    obtain ⟨hJ1, hJ2⟩ := hJ G2 al2 c2 H2 le hs2
    refine ⟨fun d hd => ?_, fun hl => hJ2 i ?_⟩
    · obtain ⟨x, y, hx, hy, rfl⟩ := zipD_get d1 d2 i d hd
      obtain ⟨u, hu, ru⟩ := r1.get hx
      obtain ⟨w, hw, rw'⟩ := r2.get hy
      obtain ⟨go, yl⟩ := hJ1 i u w hu hw
      refine ⟨go, fun z H3 hz => ?_⟩
      obtain ⟨P, rfl, hP, rfl⟩ := yl z H3 hz
      exact ⟨upd G2 P (.tup [u, w]), .freeze hs2 hP, hs2.freeze hP, .tup (.inl (.inl upd_same)) (.cons ((ru.mono le).mono (.upd (hs2.free hP))) (.cons ((rw'.mono le).mono (.upd (hs2.free hP))) .nil))⟩
    · rw [zipD_length, r1.length, r2.length] at hl
      omega
  unfold fZip at hf
  split at hf
  case h_3 => cases hf
  case h_1 d1 d2 c1 e1 =>
    cases hf
    refine ha.run t G al c env σ H _ _ _ hst he e1 fun G1 al1 H1 vs l1 hs1 r1 => ?_
    obtain ⟨v, u, rfl, rv, ru⟩ := r1.two
    obtain ⟨a, xs, rfl, hga, rl⟩ := rv.lst_inv
    obtain ⟨b, ys, rfl, hgb, rl2⟩ := ru.lst_inv
    refine ⟨a, b, xs, ys, rfl, .inl ⟨SqL.of (hs1.ex _ _ hga), SqL.of (hs1.ex _ _ hgb), q G1 al1 H1 _ l1 hs1 (tupl (a := a) (b := b) rl rl2 fun G2 al2 c2 H2 le hs2 => ?_)⟩⟩
    have h1 : SqL X.K H2 a xs := SqL.of (hs2.ex _ _ (le.g _ _ hga))
    have h2 : SqL X.K H2 b ys := SqL.of (hs2.ex _ _ (le.g _ _ hgb))
    refine ⟨fun i x y hx hy => ⟨⟨xs, ys, x, y, h1, h2, hx, hy⟩, fun w H3 ⟨P, x', y', e1, e2, e3, f1, f2⟩ => ?_⟩, fun i hi => ⟨xs, ys, h1, h2, hi⟩⟩
    have g1 := f1 xs h1
    have g2 := f2 ys h2
    rw [hx] at g1; rw [hy] at g2
    cases g1; cases g2
    exact ⟨P, e1, e2, e3⟩
  case h_2 d1 d2 c1 e1 =>
    cases hf
    refine ha.run t G al c env σ H _ _ _ hst he e1 fun G1 al1 H1 vs l1 hs1 r1 => ?_
    obtain ⟨v, u, rfl, rv, ru⟩ := r1.two
    obtain ⟨a, xs, rfl, hga, rl⟩ := rv.tup_inv
    obtain ⟨b, ys, rfl, hgb, rl2⟩ := ru.tup_inv
    rw [← t.K] at hga hgb
    refine ⟨a, b, xs, ys, rfl, .inr ⟨sqT_h hs1.ex hga, sqT_h hs1.ex hgb, q G1 al1 H1 _ l1 hs1 (tupl (a := a) (b := b) rl rl2 fun G2 al2 c2 H2 le hs2 => ?_)⟩⟩
    have h1 : SqT X.K H2 a xs := sqT_h (fun a o h => hs2.ex _ _ (le.g _ _ h)) hga
    have h2 : SqT X.K H2 b ys := sqT_h (fun a o h => hs2.ex _ _ (le.g _ _ h)) hgb
    refine ⟨fun i x y hx hy => ⟨⟨xs, ys, x, y, h1, h2, hx, hy⟩, fun w H3 ⟨P, x', y', e1, e2, e3, f1, f2⟩ => ?_⟩, fun i hi => ⟨xs, ys, h1, h2, hi⟩⟩
    have g1 := f1 xs h1
    have g2 := f2 ys h2
    rw [hx] at g1; rw [hy] at g2
    cases g1; cases g2
    exact ⟨P, e1, e2, e3⟩
end
end Pd
set_option Elab.async false
set_option linter.all false
set_option maxRecDepth 100000
/-! Pd6: operators by data. -/
namespace Pd
open PySem PySem.Spec PyProof.Rows L2

/-! ### plain data -/
mutual
/-- as plain data, at most k deep -/
def pdn : Nat → D → Option PyData
  | _, .non => some .none
  | _, .bl b => some (.bool b)
  | _, .int i => some (.int i)
  | _, .str x => if PyData.strOk x = true then some (.str x) else none
  | k + 1, .tup xs => match pdns k xs with | some ps => some (.tuple ps) | none => none
  | k + 1, .lst xs => match pdns k xs with | some ps => some (.list ps) | none => none
  | _, _ => none
def pdns : Nat → List D → Option (List PyData)
  | _, [] => some []
  | k, x :: xs => match pdn k x, pdns k xs with
    | some p, some ps => some (p :: ps)
    | _, _ => none
end
section
variable {T : Tb} {G H : Hp} {al : List Addr}
mutual
theorem Rp.dp (ex : ∀ a o, G a = some o → H a = some o) : ∀ (k : Nat) (d : D) (p : PyData) (v : V), pdn k d = some p → Rp T G al d v → Dp T.K H v p
  | k, .non, p, v, e, r => by
    simp only [pdn] at e
    cases e
    cases r with
    | non => exact .non
    | box _ z => cases z
  | k, .bl b, p, v, e, r => by
    simp only [pdn] at e
    cases e
    cases r with
    | bl => exact .bl b
    | box _ z => cases z
  | k, .int i, p, v, e, r => by
    simp only [pdn] at e
    cases e
    cases r with
    | int => exact .int i
    | box _ z => cases z
  | k, .str x, p, v, e, r => by
    simp only [pdn] at e
    split at e
    · cases e
      cases r with
      | str => exact .str x
      | box _ z => cases z
    · cases e
  | 0, .tup xs, p, v, e, r => by simp [pdn] at e
  | 0, .lst xs, p, v, e, r => by simp [pdn] at e
  | k + 1, .tup xs, p, v, e, r => by
    simp only [pdn] at e
    split at e
    case h_2 => cases e
    case h_1 ps h =>
      cases e
      obtain ⟨a, vs, rfl, hq, rl⟩ := r.tup_inv
      exact .tup (sqT_h ex hq) (RpL.dp ex k xs ps vs h rl)
  | k + 1, .lst xs, p, v, e, r => by
    simp only [pdn] at e
    split at e
    case h_2 => cases e
    case h_1 ps h =>
      cases e
      obtain ⟨a, vs, rfl, hq, rl⟩ := r.lst_inv
      exact .lst (SqL.of (ex _ _ hq)) (RpL.dp ex k xs ps vs h rl)
  | k, .dic _ _, p, v, e, r => by simp [pdn] at e
  | k, .obj _ _, p, v, e, r => by simp [pdn] at e
  | k, .cell _, p, v, e, r => by simp [pdn] at e
  | k, .scr _, p, v, e, r => by simp [pdn] at e
  | k, .cls _, p, v, e, r => by simp [pdn] at e
theorem RpL.dp (ex : ∀ a o, G a = some o → H a = some o) : ∀ (k : Nat) (ds : List D) (ps : List PyData) (vs : List V), pdns k ds = some ps → RpL T G al ds vs → DpAll T.K H vs ps
  | k, [], ps, vs, e, r => by
    simp only [pdns] at e
    cases e
    cases r
    exact .nil
  | k, d :: ds, ps, vs, e, r => by
    simp only [pdns] at e
    split at e
    case h_2 => cases e
    case h_1 p ps' h1 h2 =>
      cases e
      cases r with
      | cons r1 r2 => exact .cons (Rp.dp ex k d p _ h1 r1) (RpL.dp ex k ds ps' _ h2 r2)
end
mutual
theorem pdn_shape : ∀ (k : Nat) (d : D) (p : PyData), pdn k d = some p → p.canLay0 = true ∧ p.depth ≤ k
  | k, .non, p, e => by simp only [pdn] at e; cases e; exact ⟨by simp [PyData.canLay0], by simp [PyData.depth]⟩
  | k, .bl b, p, e => by simp only [pdn] at e; cases e; exact ⟨by simp [PyData.canLay0], by simp [PyData.depth]⟩
  | k, .int i, p, e => by simp only [pdn] at e; cases e; exact ⟨by simp [PyData.canLay0], by simp [PyData.depth]⟩
  | k, .str x, p, e => by
    simp only [pdn] at e
    split at e
    case isTrue h => cases e; exact ⟨by simpa [PyData.canLay0] using h, by simp [PyData.depth]⟩
    case isFalse => cases e
  | 0, .tup xs, p, e => by simp [pdn] at e
  | 0, .lst xs, p, e => by simp [pdn] at e
  | k + 1, .tup xs, p, e => by
    simp only [pdn] at e
    split at e
    case h_2 => cases e
    case h_1 ps h =>
      cases e
      obtain ⟨h1, h2⟩ := pdns_shape k xs ps h
      exact ⟨by simpa [PyData.canLay0] using h1, by simp only [PyData.depth]; omega⟩
  | k + 1, .lst xs, p, e => by
    simp only [pdn] at e
    split at e
    case h_2 => cases e
    case h_1 ps h =>
      cases e
      obtain ⟨h1, h2⟩ := pdns_shape k xs ps h
      exact ⟨by simpa [PyData.canLay0] using h1, by simp only [PyData.depth]; omega⟩
  | k, .dic _ _, p, e => by simp [pdn] at e
  | k, .obj _ _, p, e => by simp [pdn] at e
  | k, .cell _, p, e => by simp [pdn] at e
  | k, .scr _, p, e => by simp [pdn] at e
  | k, .cls _, p, e => by simp [pdn] at e
theorem pdns_shape : ∀ (k : Nat) (ds : List D) (ps : List PyData), pdns k ds = some ps → PyData.canLayAll0 ps = true ∧ PyData.depthAll ps ≤ k
  | k, [], ps, e => by simp only [pdns] at e; cases e; exact ⟨by simp [PyData.canLayAll0], by simp [PyData.depthAll]⟩
  | k, d :: ds, ps, e => by
    simp only [pdns] at e
    split at e
    case h_2 => cases e
    case h_1 p ps' h1 h2 =>
      cases e
      obtain ⟨a1, a2⟩ := pdn_shape k d p h1
      obtain ⟨b1, b2⟩ := pdns_shape k ds ps' h2
      exact ⟨by simp [PyData.canLayAll0, a1, b1], by simp only [PyData.depthAll]; omega⟩
end
/-- how deep data are compared -/
def deep : Nat := 60
theorem pdn_shaped {d : D} {p : PyData} (h : pdn deep d = some p) : SeqAt.shaped p = true := by
  obtain ⟨h1, h2⟩ := pdn_shape deep d p h
  unfold SeqAt.shaped
  rw [h1, Bool.true_and, decide_eq_true_eq]
  exact Nat.le_trans h2 (by decide)
theorem Rq.dp {c : Cs} (hs : HSt T G al c H) {d : D} {p : PyData} {v : V} (h : pdn deep d = some p) (r : Rq T G al H d v) : Dp T.K H v p := by
  rcases r with r | ⟨a, o, e, _, _, hh, b⟩
  · exact r.dp hs.ex deep d p v h
  · cases b with
    | lst rl =>
      unfold deep at h
      simp only [pdn] at h
      split at h
      case h_2 => cases h
      case h_1 ps h1 =>
        cases h
        rw [e]
        exact .lst (SqL.of hh) (rl.dp hs.ex _ _ ps _ h1)
    | _ => simp [pdn, deep] at h
end

section
variable {T : Tb} {n : Nat} {X : Cx}
theorem opr_of {f : Value → Value → Sem Value} {r : R2} (h : ∀ x y H Q, r x y H Q → ∃ r' : R2, OpR X f r' ∧ r' x y H Q) : OpR X f r :=
  fun pins s σ H x y v u Q I rx ry hr => let ⟨_, o, q⟩ := h x y H Q hr; o pins s σ H x y v u Q I rx ry q
/-- what the values of a rD are -/
theorem rD_of {f : Value → Value → Sem Value} {g : F2} (h : ∀ (G : Hp) (al : List Addr) (c : Cs) (H : Hp) (dx dy d : D) (c' : Cs) (x y : V) (Q : VK), HSt T G al c H → Rq T G al H dx x → Rq T G al H dy y → g dx dy c = some (d, c') → Aft T G al H d c' Q → ∃ r' : R2, OpR X f r' ∧ r' x y H Q) : OpR X f (rD T g) :=
  opr_of fun x y H Q ⟨G, al, c, dx, dy, d, c', hs, rx, ry, hg, q⟩ => h G al c H dx dy d c' x y Q hs rx ry hg q
/-- a new object that will never change, as a datum -/
theorem Aft.new {G H : Hp} {al : List Addr} {c : Cs} {d : D} {Q : VK} {p : Addr} {o : HO} (hs : HSt T G al c H) (q : Aft T G al H d c Q) (hp : H p = none) (b : Bx T G al p o d) : Q (.ref p) (upd H p o) :=
  q (upd G p o) al _ (.ref p) (.freeze hs hp) (hs.freeze hp) (.box upd_same (b.mono (.upd (hs.free hp))))
theorem Aft.newT {G H : Hp} {al : List Addr} {c : Cs} {ds : List D} {vs : List V} {Q : VK} {p : Addr} (hs : HSt T G al c H) (q : Aft T G al H (.tup ds) c Q) (hp : H p = none) (b : RpL T G al ds vs) : Q (.ref p) (upd H p (.tup vs)) :=
  q (upd G p (.tup vs)) al _ (.ref p) (.freeze hs hp) (hs.freeze hp) (.tup (.inl (.inl upd_same)) (b.mono (.upd (hs.free hp))))
theorem Aft.now {G H : Hp} {al : List Addr} {c : Cs} {d : D} {v : V} {Q : VK} (hs : HSt T G al c H) (q : Aft T G al H d c Q) (r : Rp T G al d v) : Q v H := q G al H v (.refl _ _ _) hs r

/-! ### + - * // % ** -/
def oAdd : F2 := fun x y c => match x, y with
  | .int i, .int j => some (.int (i + j), c)
  | .str a, .str b => if a.length + b.length ≤ lim then some (.str (a ++ b), c) else none
  | .tup a, .tup b => if a.length + b.length ≤ lim then some (.tup (a ++ b), c) else none
  | .lst a, .lst b => if a.length + b.length ≤ lim then some (.lst (a ++ b), c) else none
  | _, _ => none
theorem Rq.rp_tup {G H : Hp} {al : List Addr} {ds : List D} {v : V} (r : Rq T G al H (.tup ds) v) : Rp T G al (.tup ds) v := by
  rcases r with r | ⟨_, _, _, _, _, _, b⟩
  · exact r
  · cases b
theorem op_oAdd (t : Tied T n X) : OpR X (binaryOp .Add) (rD T oAdd) := by
  refine rD_of fun G al c H dx dy d c' x y Q hs rx ry hg q => ?_
  unfold oAdd at hg
  split at hg
  case h_1 i j => cases hg; rw [rx.int_inv, ry.int_inv]; exact ⟨_, op_add, _, _, rfl, rfl, q.now hs (.int _)⟩
  case h_2 a b =>
    split at hg
    case isFalse => cases hg
    case isTrue hl => cases hg; rw [rx.str_inv, ry.str_inv]; exact ⟨_, op_add_str, _, _, rfl, rfl, Nat.le_trans hl lim_line, q.now hs (.str _)⟩
  case h_3 a b =>
    split at hg
    case isFalse => cases hg
    case isTrue hl =>
      cases hg
      have kx := rx.rp_tup
      have ky := ry.rp_tup
      obtain ⟨p, vs, rfl, h1, l1⟩ := rx.tup_inv hs
      obtain ⟨p2, ws, rfl, h2, l2⟩ := ry.tup_inv hs
      rw [← t.K] at h1 h2
      refine ⟨_, op_catA, p, p2, vs, ws, rfl, rfl, h1, h2, by rw [← l1.length, ← l2.length]; exact Nat.le_trans hl lim_line, fun e => ?_, fun e1 e2 => ?_, fun e1 e2 p hp => q.newT hs hp (l1.append l2)⟩
      · have : a = [] := by have := l1.length; rw [e] at this; exact List.length_eq_zero_iff.mp this
        rw [this] at q
        exact q.now hs ky
      · have : b = [] := by have := l2.length; rw [e2] at this; exact List.length_eq_zero_iff.mp this
        rw [this, List.append_nil] at q
        exact q.now hs kx
  case h_4 a b =>
    split at hg
    case isFalse => cases hg
    case isTrue hl =>
      cases hg
      obtain ⟨p, vs, rfl, h1, l1⟩ := rx.lst_inv hs
      obtain ⟨p2, ws, rfl, h2, l2⟩ := ry.lst_inv hs
      exact ⟨_, op_cat, p, p2, vs, ws, rfl, rfl, h1, h2, by rw [← l1.length, ← l2.length]; exact Nat.le_trans hl lim_line, fun p hp => q.new hs hp (.lst (l1.append l2))⟩
  case h_5 => cases hg
/-- list + list, one's own -/
def oCat : F2 := fun x y c => match x, y with
  | .lst a, .lst b => if a.length + b.length ≤ lim then some (.lst (a ++ b), c) else none
  | _, _ => none
theorem op_oCat (t : Tied T n X) : OpR X (binaryOp .Add) (rDN T oCat) := by
  refine opr_of fun x y H Q ⟨G, al, c, dx, dy, d, c', hs, rx, ry, hg, q⟩ => ?_
  unfold oCat at hg
  split at hg
  case h_2 => cases hg
  case h_1 a b =>
    split at hg
    case isFalse => cases hg
    case isTrue hl =>
      cases hg
      obtain ⟨p, vs, rfl, h1, l1⟩ := rx.lst_inv hs
      obtain ⟨p2, ws, rfl, h2, l2⟩ := ry.lst_inv hs
      exact ⟨_, op_cat, p, p2, vs, ws, rfl, rfl, h1, h2, by rw [← l1.length, ← l2.length]; exact Nat.le_trans hl lim_line, fun p hp => q G al _ p _ (.junk hp) (hs.junk hp) (hs.free hp) (hs.apart hp) hp upd_same (.lst (l1.append l2))⟩
def oSub : F2 := fun x y c => match x, y with
  | .int i, .int j => some (.int (i - j), c)
  | _, _ => none
theorem op_oSub (t : Tied T n X) : OpR X (binaryOp .Sub) (rD T oSub) := by
  refine rD_of fun G al c H dx dy d c' x y Q hs rx ry hg q => ?_
  unfold oSub at hg
  split at hg
  case h_1 i j => cases hg; rw [rx.int_inv, ry.int_inv]; exact ⟨_, op_sub, _, _, rfl, rfl, q.now hs (.int _)⟩
  case h_2 => cases hg
def sm64 (i : Int) : Bool := decide (-18446744073709551616 < i) && decide (i < 18446744073709551616)
theorem sm64_ok {i : Int} (h : sm64 i = true) : -(2 ^ 64) < i ∧ i < 2 ^ 64 := by
  unfold sm64 at h
  simp only [Bool.and_eq_true, decide_eq_true_eq] at h
  exact ⟨by have := h.1; omega, by have := h.2; omega⟩
def oMul : F2 := fun x y c => match x, y with
  | .int i, .int j => if (sm64 i || sm64 j) = true then some (.int (i * j), c) else none
  | .lst a, .int k => if (small62 k && decide (a.length * k.toNat ≤ lim)) = true then some (.lst (List.replicate k.toNat a).flatten, c) else none
  | .tup a, .int k => if (!a.isEmpty && decide (2 ≤ k) && decide (k ≤ 1000) && decide (a.length ≤ 1000)) = true then some (.tup (List.replicate k.toNat a).flatten, c) else none
  | _, _ => none
theorem RpL.rep {G : Hp} {al : List Addr} {ds : List D} {vs : List V} (h : RpL T G al ds vs) : ∀ k : Nat, RpL T G al (List.replicate k ds).flatten (List.replicate k vs).flatten
  | 0 => .nil
  | k + 1 => by
    rw [List.replicate_succ, List.replicate_succ, List.flatten_cons, List.flatten_cons]
    exact h.append (RpL.rep h k)
theorem op_oMul (t : Tied T n X) : OpR X (binaryOp .Mult) (rD T oMul) := by
  refine rD_of fun G al c H dx dy d c' x y Q hs rx ry hg q => ?_
  unfold oMul at hg
  split at hg
  case h_1 i j =>
    split at hg
    case isFalse => cases hg
    case isTrue hl =>
      cases hg
      rw [rx.int_inv, ry.int_inv]
      refine ⟨_, op_mul, _, _, rfl, rfl, ?_, q.now hs (.int _)⟩
      rcases Bool.or_eq_true_iff.mp hl with h | h
      · exact .inl (sm64_ok h)
      · exact .inr (sm64_ok h)
  case h_2 a k =>
    split at hg
    case isFalse => cases hg
    case isTrue hl =>
      cases hg
      obtain ⟨h1, h2⟩ := Bool.and_eq_true_iff.mp hl
      obtain ⟨h3, h4⟩ := small62_ok h1
      obtain ⟨p, vs, rfl, hv, l1⟩ := rx.lst_inv hs
      rw [ry.int_inv]
      refine ⟨_, op_rep, p, k, vs, rfl, rfl, hv, by omega, by omega, ?_, fun p hp => q.new hs hp (.lst (l1.rep _))⟩
      rw [← l1.length]
      exact Nat.le_trans (of_decide_eq_true h2) lim_line
  case h_3 a k =>
    split at hg
    case isFalse => cases hg
    case isTrue hl =>
      cases hg
      simp only [Bool.and_eq_true, decide_eq_true_eq, Bool.not_eq_true', List.isEmpty_eq_false_iff] at hl
      obtain ⟨⟨⟨h1, h2⟩, h3⟩, h4⟩ := hl
      obtain ⟨p, vs, rfl, hv, l1⟩ := rx.tup_inv hs
      rw [← t.K] at hv
      rw [ry.int_inv]
      refine ⟨_, op_repT, p, k, vs, rfl, rfl, hv, fun e => ?_, h2, h3, by rw [← l1.length]; exact h4, fun p hp => q.newT hs hp (l1.rep _)⟩
      have := l1.length
      rw [e] at this
      exact h1 (List.length_eq_zero_iff.mp this)
  case h_4 => cases hg
/-- list * int, one's own -/
def oRep : F2 := fun x y c => match x, y with
  | .lst a, .int k => if (small62 k && decide (a.length * k.toNat ≤ lim)) = true then some (.lst (List.replicate k.toNat a).flatten, c) else none
  | _, _ => none
theorem op_oRep (t : Tied T n X) : OpR X (binaryOp .Mult) (rDN T oRep) := by
  refine opr_of fun x y H Q ⟨G, al, c, dx, dy, d, c', hs, rx, ry, hg, q⟩ => ?_
  unfold oRep at hg
  split at hg
  case h_2 => cases hg
  case h_1 a k =>
    split at hg
    case isFalse => cases hg
    case isTrue hl =>
      cases hg
      obtain ⟨h1, h2⟩ := Bool.and_eq_true_iff.mp hl
      obtain ⟨h3, h4⟩ := small62_ok h1
      obtain ⟨p, vs, rfl, hv, l1⟩ := rx.lst_inv hs
      rw [ry.int_inv]
      refine ⟨_, op_rep, p, k, vs, rfl, rfl, hv, by omega, by omega, ?_, fun p hp => q G al _ p _ (.junk hp) (hs.junk hp) (hs.free hp) (hs.apart hp) hp upd_same (.lst (l1.rep _))⟩
      rw [← l1.length]
      exact Nat.le_trans (of_decide_eq_true h2) lim_line
def oFdiv : F2 := fun x y c => match x, y with
  | .int i, .int j => if (decide (0 < j) && decide (j < 1073741824)) = true then some (.int (i / j), c) else none
  | _, _ => none
theorem op_oFdiv (t : Tied T n X) : OpR X (binaryOp .FloorDiv) (rD T oFdiv) := by
  refine rD_of fun G al c H dx dy d c' x y Q hs rx ry hg q => ?_
  unfold oFdiv at hg
  split at hg
  case h_2 => cases hg
  case h_1 i j =>
    split at hg
    case isFalse => cases hg
    case isTrue hl =>
      cases hg
      simp only [Bool.and_eq_true, decide_eq_true_eq] at hl
      rw [rx.int_inv, ry.int_inv]
      exact ⟨_, op_fdiv, _, _, rfl, rfl, hl, q.now hs (.int _)⟩
def oMod : F2 := fun x y c => match x, y with
  | .int i, .int j => if 0 < j then some (.int (i % j), c) else none
  | _, _ => none
theorem op_oMod (t : Tied T n X) : OpR X (binaryOp .Mod) (rD T oMod) := by
  refine rD_of fun G al c H dx dy d c' x y Q hs rx ry hg q => ?_
  unfold oMod at hg
  split at hg
  case h_2 => cases hg
  case h_1 i j =>
    split at hg
    case isFalse => cases hg
    case isTrue hl =>
      cases hg
      rw [rx.int_inv, ry.int_inv]
      exact ⟨_, op_mod, _, _, rfl, rfl, hl, q.now hs (.int _)⟩
def oPow : F2 := fun x y c => match x, y with
  | .int i, .int j => if (decide (0 ≤ j) && decide (j ≤ 1000) && sm64 i) = true then some (.int (i ^ j.toNat), c) else none
  | _, _ => none
theorem op_oPow (t : Tied T n X) : OpR X (binaryOp .Pow) (rD T oPow) := by
  refine rD_of fun G al c H dx dy d c' x y Q hs rx ry hg q => ?_
  unfold oPow at hg
  split at hg
  case h_2 => cases hg
  case h_1 i j =>
    split at hg
    case isFalse => cases hg
    case isTrue hl =>
      cases hg
      simp only [Bool.and_eq_true, decide_eq_true_eq] at hl
      obtain ⟨⟨h1, h2⟩, h3⟩ := hl
      obtain ⟨h4, h5⟩ := sm64_ok h3
      rw [rx.int_inv, ry.int_inv]
      exact ⟨_, op_pow, _, _, rfl, rfl, ⟨h1, by omega, by omega⟩, q.now hs (.int _)⟩

/-! ### comparisons -/
def oEq : F2 := fun x y c => match pdn deep x, pdn deep y with
  | some p, some q => some (.bl (PyData.eqv p q), c)
  | _, _ => none
def oNe : F2 := fun x y c => match pdn deep x, pdn deep y with
  | some p, some q => some (.bl (!PyData.eqv p q), c)
  | _, _ => none
theorem op_oEq (t : Tied T n X) : OpR X (compareOp .Eq) (rD T oEq) := by
  refine rD_of fun G al c H dx dy d c' x y Q hs rx ry hg q => ?_
  unfold oEq at hg
  split at hg
  case h_2 => cases hg
  case h_1 p p' h1 h2 =>
    cases hg
    exact ⟨_, op_eqD t.room.units, p, p', by rw [t.K]; exact rx.dp hs h1, by rw [t.K]; exact ry.dp hs h2, pdn_shaped h1, pdn_shaped h2, q.now hs (.bl _)⟩
theorem op_oNe (t : Tied T n X) : OpR X (compareOp .NotEq) (rD T oNe) := by
  refine rD_of fun G al c H dx dy d c' x y Q hs rx ry hg q => ?_
  unfold oNe at hg
  split at hg
  case h_2 => cases hg
  case h_1 p p' h1 h2 =>
    cases hg
    exact ⟨_, op_neD t.room.units, p, p', by rw [t.K]; exact rx.dp hs h1, by rw [t.K]; exact ry.dp hs h2, pdn_shaped h1, pdn_shaped h2, q.now hs (.bl _)⟩
def ints? : List D → Option (List Int)
  | [] => some []
  | .int i :: r => match ints? r with | some is => some (i :: is) | none => none
  | _ :: _ => none
theorem ints?_map : ∀ {ds : List D} {ns : List Int}, ints? ds = some ns → ds = ns.map D.int
  | [], _, h => by cases h; rfl
  | .int i :: r, ns, h => by
    simp only [ints?] at h
    split at h
    case h_2 => cases h
    case h_1 is e => cases h; rw [ints?_map e]; rfl
  | .non :: _, _, h => by simp [ints?] at h
  | .bl _ :: _, _, h => by simp [ints?] at h
  | .str _ :: _, _, h => by simp [ints?] at h
  | .tup _ :: _, _, h => by simp [ints?] at h
  | .lst _ :: _, _, h => by simp [ints?] at h
  | .dic _ _ :: _, _, h => by simp [ints?] at h
  | .obj _ _ :: _, _, h => by simp [ints?] at h
  | .cell _ :: _, _, h => by simp [ints?] at h
  | .scr _ :: _, _, h => by simp [ints?] at h
  | .cls _ :: _, _, h => by simp [ints?] at h
theorem ints?_of (ns : List Int) : ints? (ns.map D.int) = some ns := by
  induction ns with
  | nil => rfl
  | cons a r ih => simp [ints?, ih]
def lexLeZ (ns ms : List Int) : Bool := Ob.lexAt (fun j => decide (ns.getD j 0 = ms.getD j 0)) (fun j => decide (ns.getD j 0 ≤ ms.getD j 0)) (decide (ns.length ≤ ms.length)) 0 (min ns.length ms.length)
def oLe : F2 := fun x y c => match x, y with
  | .int i, .int j => some (.bl (decide (i ≤ j)), c)
  | .tup a, .tup b => match ints? a, ints? b with
    | some ns, some ms => some (.bl (lexLeZ ns ms), c)
    | _, _ => none
  | _, _ => none
theorem op_oLe (t : Tied T n X) : OpR X (compareOp .LtE) (rD T oLe) := by
  refine rD_of fun G al c H dx dy d c' x y Q hs rx ry hg q => ?_
  unfold oLe at hg
  split at hg
  case h_1 i j => cases hg; rw [rx.int_inv, ry.int_inv]; exact ⟨_, op_le, _, _, rfl, rfl, q.now hs (.bl _)⟩
  case h_2 a b =>
    split at hg
    case h_2 => cases hg
    case h_1 ns ms h1 h2 =>
      cases hg
      obtain rfl := ints?_map h1
      obtain rfl := ints?_map h2
      obtain ⟨p, vs, rfl, hv, l1⟩ := rx.tup_inv hs
      obtain ⟨p2, ws, rfl, hw, l2⟩ := ry.tup_inv hs
      rw [l1.ints, ← t.K] at hv
      rw [l2.ints, ← t.K] at hw
      exact ⟨_, op_leT t.room.units0, p, p2, ns, ms, rfl, rfl, hv, hw, q.now hs (.bl _)⟩
  case h_3 => cases hg
def oLt : F2 := fun x y c => match x, y with
  | .int i, .int j => some (.bl (decide (i < j)), c)
  | .tup a, .tup b => match ints? a, ints? b with
    | some ns, some ms => some (.bl (HT.lexLt ns ms), c)
    | _, _ => none
  | _, _ => none
theorem op_oLt (t : Tied T n X) : OpR X (compareOp .Lt) (rD T oLt) := by
  refine rD_of fun G al c H dx dy d c' x y Q hs rx ry hg q => ?_
  unfold oLt at hg
  split at hg
  case h_1 i j => cases hg; rw [rx.int_inv, ry.int_inv]; exact ⟨_, op_lt, _, _, rfl, rfl, q.now hs (.bl _)⟩
  case h_2 a b =>
    split at hg
    case h_2 => cases hg
    case h_1 ns ms h1 h2 =>
      cases hg
      obtain rfl := ints?_map h1
      obtain rfl := ints?_map h2
      obtain ⟨p, vs, rfl, hv, l1⟩ := rx.tup_inv hs
      obtain ⟨p2, ws, rfl, hw, l2⟩ := ry.tup_inv hs
      rw [l1.ints, ← t.K] at hv
      rw [l2.ints, ← t.K] at hw
      exact ⟨_, op_ltT t.room.units0, p, p2, ns, ms, rfl, rfl, hv, hw, q.now hs (.bl _)⟩
  case h_3 => cases hg
def oGt : F2 := fun x y c => match x, y with
  | .int i, .int j => some (.bl (decide (j < i)), c)
  | _, _ => none
theorem op_oGt (t : Tied T n X) : OpR X (compareOp .Gt) (rD T oGt) := by
  refine rD_of fun G al c H dx dy d c' x y Q hs rx ry hg q => ?_
  unfold oGt at hg
  split at hg
  case h_1 i j => cases hg; rw [rx.int_inv, ry.int_inv]; exact ⟨_, op_gt, _, _, rfl, rfl, q.now hs (.bl _)⟩
  case h_2 => cases hg
def oGe : F2 := fun x y c => match x, y with
  | .int i, .int j => some (.bl (decide (j ≤ i)), c)
  | _, _ => none
theorem op_oGe (t : Tied T n X) : OpR X (compareOp .GtE) (rD T oGe) := by
  refine rD_of fun G al c H dx dy d c' x y Q hs rx ry hg q => ?_
  unfold oGe at hg
  split at hg
  case h_1 i j => cases hg; rw [rx.int_inv, ry.int_inv]; exact ⟨_, op_ge, _, _, rfl, rfl, q.now hs (.bl _)⟩
  case h_2 => cases hg
/-- is this datum None -/
def isNonD : D → Bool
  | .non => true
  | _ => false
theorem Rq.isNon {G H : Hp} {al : List Addr} {d : D} {v : V} (r : Rq T G al H d v) : decide (v = .non) = isNonD d := by
  rcases r with r | ⟨a, o, e, _, _, hh, b⟩
  · cases r with
    | box _ b => cases b <;> simp [isNonD]
    | _ => simp [isNonD]
  · subst e
    cases b <;> simp [isNonD]
def oIs : F2 := fun x y c => match y with
  | .non => some (.bl (isNonD x), c)
  | .bl b => match x with
    | .bl a => some (.bl (decide (a = b)), c)
    | _ => none
  | _ => none
def oIsNot : F2 := fun x y c => match y with
  | .non => some (.bl (!isNonD x), c)
  | .bl b => match x with
    | .bl a => some (.bl (!decide (a = b)), c)
    | _ => none
  | _ => none
theorem op_oIs (t : Tied T n X) : OpR X (compareOp .Is) (rD T oIs) := by
  refine rD_of fun G al c H dx dy d c' x y Q hs rx ry hg q => ?_
  unfold oIs at hg
  split at hg
  case h_1 => cases hg; rw [ry.non_inv]; exact ⟨_, op_isN, rfl, by rw [rx.isNon]; exact q.now hs (.bl _)⟩
  case h_2 b =>
    split at hg
    case h_2 => cases hg
    case h_1 a => cases hg; rw [rx.bl_inv, ry.bl_inv]; exact ⟨_, op_is_bl, _, _, rfl, rfl, q.now hs (.bl _)⟩
  case h_3 => cases hg
theorem op_oIsNot (t : Tied T n X) : OpR X (compareOp .IsNot) (rD T oIsNot) := by
  refine rD_of fun G al c H dx dy d c' x y Q hs rx ry hg q => ?_
  unfold oIsNot at hg
  split at hg
  case h_1 => cases hg; rw [ry.non_inv]; exact ⟨_, op_notN, rfl, by rw [rx.isNon]; exact q.now hs (.bl _)⟩
  case h_2 b =>
    split at hg
    case h_2 => cases hg
    case h_1 a => cases hg; rw [rx.bl_inv, ry.bl_inv]; exact ⟨_, op_isnot_bl, _, _, rfl, rfl, q.now hs (.bl _)⟩
  case h_3 => cases hg
end
end Pd
set_option Elab.async false
set_option linter.all false
set_option maxRecDepth 100000
/-! Pd7: membership, subscripts, slices, the special methods of one's own classes. -/
namespace Pd
open PySem PySem.Spec PyProof.Rows L2

section
variable {T : Tb} {G H : Hp} {al : List Addr} {c : Cs} {v : V}
theorem Rq.lst' {d : D} {ds : List D} (hs : HSt T G al c H) (h : Rq T G al H d v) (hd : deref c d = some (.lst ds)) : ∃ a vs, v = .ref a ∧ H a = some (.lst vs) ∧ RpL T G al ds vs := by
  cases d with
  | cell j =>
    have hd : c[j]? = some (.lst ds) := hd
    rcases h with h | ⟨a, o, e, _, _, hh, b⟩
    · cases h with
      | box g b => cases b
      | cell ha =>
        obtain ⟨_, o, ho, b⟩ := hs.at_ j _ _ ha hd
        cases b with
        | lst r => exact ⟨_, _, rfl, ho, r⟩
    · cases b
  | lst ds' => cases hd; exact h.lst_inv hs
  | _ => cases hd
end

/-- a list's, a tuple's items; those of a cell -/
def seqOf (c : Cs) (d : D) : Option (List D) := match deref c d with
  | some (.lst ds) => some ds
  | some (.tup ds) => some ds
  | _ => none
section
variable {T : Tb} {G H : Hp} {al : List Addr} {c : Cs} {v : V}
theorem Rq.seq' {d : D} {ds : List D} (hs : HSt T G al c H) (h : Rq T G al H d v) (hd : seqOf c d = some ds) : ∃ a vs, v = .ref a ∧ (SqL T.K H a vs ∨ SqT T.K H a vs) ∧ RpL T G al ds vs := by
  unfold seqOf at hd
  split at hd
  case h_1 ds' e =>
    cases hd
    obtain ⟨a, vs, e1, e2, rl⟩ := h.lst' hs e
    exact ⟨a, vs, e1, .inl (SqL.of e2), rl⟩
  case h_2 ds' e =>
    cases hd
    cases d with
    | tup ds'' =>
      cases e
      obtain ⟨a, vs, e1, e2, rl⟩ := h.tup_inv hs
      exact ⟨a, vs, e1, .inr e2, rl⟩
    | cell j =>
      have e : c[j]? = some (.tup ds) := e
      rcases h with h | ⟨a, o, e', _, _, hh, b⟩
      · cases h with
        | box g b => cases b
        | cell ha =>
          obtain ⟨_, o, ho, b⟩ := hs.at_ j _ _ ha e
          cases b
      · cases b
    | _ => cases e
  case h_3 => cases hd
end

/-! ### in, not in -/
def flatD : D → Bool
  | .non => true
  | .bl _ => true
  | .int _ => true
  | .str _ => true
  | _ => false
def inTup (x : D) (ds : List D) : Option Bool := if (flatD x && ds.all flatD) = true then match pdn deep x, pdns deep ds with
  | some p, some ps => some (ps.any fun z => PyData.eqv z p)
  | _, _ => none else none
def inLst (x : D) (ds : List D) : Option Bool := match pdn deep x, pdns 59 ds with
  | some p, some ps => some (ps.any fun z => PyData.eqv z p)
  | _, _ => none
def inStr (i j : Str) : Bool := !(Builtin.Str.occurrences j i 0 j.length 1).isEmpty
def inD (c : Cs) (x y : D) : Option Bool := match deref c y with
  | some (.lst ds) => inLst x ds
  | some (.tup ds) => inTup x ds
  | some (.str j) => match x with
    | .str i => some (inStr i j)
    | _ => none
  | _ => none
def oIn : F2 := fun x y c => match inD c x y with | some b => some (.bl b, c) | none => none
def oNotIn : F2 := fun x y c => match inD c x y with | some b => some (.bl (!b), c) | none => none
section
variable {T : Tb} {n : Nat} {X : Cx}
theorem flat_v {G H : Hp} {al : List Addr} {d : D} {v : V} (h : flatD d = true) (r : Rq T G al H d v) : flatV v = true := by
  cases d with
  | non => rw [r.non_inv]; rfl
  | bl b => rw [r.bl_inv]; rfl
  | int i => rw [r.int_inv]; rfl
  | str x => rw [r.str_inv]; rfl
  | _ => cases h
theorem flat_eq {G H : Hp} {al : List Addr} {x y : D} {v u : V} {p q : PyData} (hx : flatD x = true) (hy : flatD y = true) (rx : Rq T G al H x v) (ry : Rq T G al H y u) {k : Nat} (ex : pdn k x = some p) (ey : pdn k y = some q) : eqV u v = PyData.eqv q p := by
  cases x <;> cases y <;> (try cases hx) <;> (try cases hy) <;> simp only [pdn] at ex ey <;> (try split at ex) <;> (try split at ey) <;> (try cases ex) <;> (try cases ey) <;>
    (try rw [rx.non_inv]) <;> (try rw [ry.non_inv]) <;> (try rw [rx.bl_inv]) <;> (try rw [ry.bl_inv]) <;> (try rw [rx.int_inv]) <;> (try rw [ry.int_inv]) <;> (try rw [rx.str_inv]) <;> (try rw [ry.str_inv]) <;>
    simp [eqV, PyData.eqv]
theorem all_flat {G : Hp} {al : List Addr} : ∀ {ds : List D} {vs : List V}, ds.all flatD = true → RpL T G al ds vs → vs.all flatV = true
  | _, _, _, .nil => rfl
  | d :: ds, _, h, .cons r t => by
    rw [List.all_cons, Bool.and_eq_true] at h
    rw [List.all_cons, Bool.and_eq_true]
    exact ⟨flat_v (H := G) h.1 (.inl r), all_flat h.2 t⟩
theorem in_flat {G H : Hp} {al : List Addr} {x : D} {v : V} {p : PyData} {k : Nat} (hx : flatD x = true) (rx : Rq T G al H x v) (ex : pdn k x = some p) : ∀ {ds : List D} {vs : List V} {ps : List PyData}, ds.all flatD = true → RpL T G al ds vs → pdns k ds = some ps → inV v vs = ps.any fun z => PyData.eqv z p
  | _, _, _, _, .nil, e => by simp only [pdns] at e; cases e; rfl
  | d :: ds, _, _, h, .cons r t, e => by
    rw [List.all_cons, Bool.and_eq_true] at h
    simp only [pdns] at e
    split at e
    case h_2 => cases e
    case h_1 q qs e1 e2 =>
      cases e
      have h1 := flat_eq hx h.1 rx (.inl r) ex e1
      have h2 := in_flat hx rx ex h.2 t e2
      unfold inV at h2 ⊢
      rw [List.any_cons, List.any_cons, h1, h2]
theorem op_inD (t : Tied T n X) (neg : Bool) {G H : Hp} {al : List Addr} {c : Cs} {dx dy : D} {b : Bool} {x y : V} {Q : VK} (hs : HSt T G al c H) (rx : Rq T G al H dx x) (ry : Rq T G al H dy y) (e : inD c dx dy = some b) (q : Q (.bl (if neg = true then !b else b)) H) :
    ∃ r' : R2, OpR X (compareOp (if neg = true then .NotIn else .In)) r' ∧ r' x y H Q := by
  unfold inD at e
  split at e
  case h_1 ds e1 =>
    unfold inLst at e
    split at e
    case h_2 => cases e
    case h_1 p ps e2 e3 =>
      cases e
      obtain ⟨a, vs, rfl, hv, rl⟩ := ry.lst' hs e1
      have hp := rx.dp hs e2
      have hps := rl.dp hs.ex 59 ds ps vs e3
      have sh : SeqAt.shaped (.list ps) = true := by
        obtain ⟨h1, h2⟩ := pdns_shape 59 ds ps e3
        unfold SeqAt.shaped
        rw [Bool.and_eq_true, decide_eq_true_eq]
        refine ⟨by simpa [PyData.canLay0] using h1, ?_⟩
        show PyData.depthAll ps + 1 ≤ 64
        omega
      have un : X.A.units + 65 < cLine := by have := t.room.un; omega
      rw [← t.K] at hp hps
      cases neg with
      | false => exact ⟨_, L2.op_inD un, p, ps, hp, .lst (SqL.of hv) hps, pdn_shaped e2, sh, q⟩
      | true => exact ⟨_, L2.op_notInD un, p, ps, hp, .lst (SqL.of hv) hps, pdn_shaped e2, sh, q⟩
  case h_2 ds e1 =>
    unfold inTup at e
    split at e
    case isFalse => cases e
    case isTrue hf =>
      split at e
      case h_2 => cases e
      case h_1 p ps e2 e3 =>
        cases e
        obtain ⟨hx, hd⟩ := Bool.and_eq_true_iff.mp hf
        obtain ⟨a, vs, rfl, hv, rl⟩ := ry.seq' hs (by unfold seqOf; rw [e1])
        have hi := in_flat hx rx e2 hd rl e3
        rw [← hi] at q
        rw [← t.K] at hv
        cases neg with
        | false => exact ⟨_, op_in_seq, a, vs, rfl, hv, flat_v hx rx, all_flat hd rl, q⟩
        | true => exact ⟨_, op_notIn_seq, a, vs, rfl, hv, flat_v hx rx, all_flat hd rl, q⟩
  case h_3 j e1 =>
    split at e
    case h_2 => cases e
    case h_1 i =>
      cases e
      have ey : dy = .str j := by
        cases dy with
        | cell k =>
          have e1 : c[k]? = some (.str j) := e1
          rcases ry with ry | ⟨a, o, e', _, _, hh, b⟩
          · cases ry with
            | box g b => cases b
            | cell ha =>
              obtain ⟨_, o, ho, b⟩ := hs.at_ k _ _ ha e1
              cases b
          · cases b
        | str s => cases e1; rfl
        | _ => cases e1
      subst ey
      rw [rx.str_inv, ry.str_inv]
      cases neg with
      | false => exact ⟨_, op_in_str, i, j, rfl, rfl, q⟩
      | true => exact ⟨_, op_notin_str, i, j, rfl, rfl, q⟩
  case h_4 => cases e
theorem op_oIn (t : Tied T n X) : OpR X (compareOp .In) (rD T oIn) := by
  refine rD_of fun G al c H dx dy d c' x y Q hs rx ry hg q => ?_
  unfold oIn at hg
  split at hg
  case h_2 => cases hg
  case h_1 b e => cases hg; exact op_inD t false hs rx ry e (q.now hs (.bl _))
theorem op_oNotIn (t : Tied T n X) : OpR X (compareOp .NotIn) (rD T oNotIn) := by
  refine rD_of fun G al c H dx dy d c' x y Q hs rx ry hg q => ?_
  unfold oNotIn at hg
  split at hg
  case h_2 => cases hg
  case h_1 b e => cases hg; exact op_inD t true hs rx ry e (q.now hs (.bl _))

/-! ### subscripts -/
def ixD (c : Cs) (x y : D) : Option D := match y with
  | .int i => match deref c x with
    | some (.lst ds) => atI ds i
    | some (.tup ds) => atI ds i
    | some (.scr ns) => (atI ns i).map D.int
    | some (.str z) => if z.length ≤ lim then (atI z.cps.toList i).map fun k => D.str ⟨#[k]⟩ else none
    | _ => none
  | _ => none
def oIx : F2 := fun x y c => match ixD c x y with | some d => some (d, c) | none => none
theorem RpL.atI {G : Hp} {al : List Addr} {ds : List D} {vs : List V} {i : Int} {d : D} (r : RpL T G al ds vs) (h : L2.atI ds i = some d) : ∃ v, L2.atI vs i = some v ∧ Rp T G al d v := by
  unfold L2.atI at h ⊢
  rw [r.length] at h
  cases e : ixN vs.length i with
  | none => rw [e] at h; cases h
  | some j =>
    rw [e] at h
    have h : ds[j]? = some d := h
    exact r.get h
theorem atI_map {α β : Type} (f : α → β) (xs : List α) (i : Int) : L2.atI (xs.map f) i = (L2.atI xs i).map f := by
  unfold L2.atI
  rw [List.length_map]
  cases ixN xs.length i with
  | none => rfl
  | some j => simp
theorem ixr_of {r : R2} (h : ∀ x y H Q, r x y H Q → ∃ r' : R2, IxR X r' ∧ r' x y H Q) : IxR X r :=
  fun value slice pins s σ H x y v u Q I rx ry hr => let ⟨_, o, q⟩ := h x y H Q hr; o value slice pins s σ H x y v u Q I rx ry q
theorem ix_oIx (t : Tied T n X) : IxR X (rD T oIx) := by
  refine ixr_of fun x y H Q ⟨G, al, c, dx, dy, d, c', hs, rx, ry, hg, q⟩ => ?_
  unfold oIx at hg
  split at hg
  case h_2 => cases hg
  case h_1 d1 e =>
    cases hg
    unfold ixD at e
    split at e
    case h_2 => cases e
    case h_1 i =>
      rw [ry.int_inv]
      split at e
      case h_1 ds e1 =>
        obtain ⟨a, vs, rfl, hv, rl⟩ := rx.lst' hs e1
        obtain ⟨w, hw, rw'⟩ := rl.atI e
        exact ⟨_, ix_list, a, vs, i, w, rfl, rfl, SqL.of hv, hw, q.now hs rw'⟩
      case h_2 ds e1 =>
        obtain ⟨a, vs, rfl, hv, rl⟩ := rx.seq' hs (by unfold seqOf; rw [e1])
        obtain ⟨w, hw, rw'⟩ := rl.atI e
        rw [← t.K] at hv
        rcases hv with hv | hv
        · exact ⟨_, ix_list, a, vs, i, w, rfl, rfl, hv, hw, q.now hs rw'⟩
        · exact ⟨_, ix_tup, a, vs, i, w, rfl, rfl, hv, hw, q.now hs rw'⟩
      case h_3 ns e1 =>
        have ex : dx = .scr ns := by
          cases dx with
          | cell k =>
            have e1 : c[k]? = some (.scr ns) := e1
            rcases rx with ry | ⟨a, o, e', _, _, hh, b⟩
            · cases ry with
              | box g b => cases b
              | cell ha =>
                obtain ⟨_, o, ho, b⟩ := hs.at_ k _ _ ha e1
                cases b
            · cases b
          | scr s => cases e1; rfl
          | _ => cases e1
        subst ex
        obtain ⟨a, rfl, hv⟩ := rx.scr_inv hs
        rw [← t.K] at hv
        obtain ⟨m, hm, rfl⟩ := Option.map_eq_some_iff.mp e
        exact ⟨_, ix_list, a, _, i, .int m, rfl, rfl, hv, by rw [atI_map, hm]; rfl, q.now hs (.int m)⟩
      case h_4 z e1 =>
        split at e
        case isFalse => cases e
        case isTrue hz =>
          have ex : dx = .str z := by
            cases dx with
            | cell k =>
              have e1 : c[k]? = some (.str z) := e1
              rcases rx with ry | ⟨a, o, e', _, _, hh, b⟩
              · cases ry with
                | box g b => cases b
                | cell ha =>
                  obtain ⟨_, o, ho, b⟩ := hs.at_ k _ _ ha e1
                  cases b
              · cases b
            | str s => cases e1; rfl
            | _ => cases e1
          subst ex
          rw [rx.str_inv]
          obtain ⟨m, hm, rfl⟩ := Option.map_eq_some_iff.mp e
          exact ⟨_, ix_str, z, i, m, rfl, rfl, Nat.le_trans hz lim_line, hm, q.now hs (.str _)⟩
      case h_5 => cases e
variable {pos p2 : Pos} {a b e : Expr} {lo hi : Option Expr} {fa fb fe : FE}
theorem tr_ix {g : F2} (ho : Tied T n X → IxR X (rD T g)) (ha : TrQ T n X a fa) (hb : TrQ T n X b fb) (hp : PlainIx b := by intro _ _; rfl) : TrE T n X (.Subscript a b pos) (fOp g fa fb) :=
  ⟨fun t G al c env σ H Q d c' hs he hf q => ofE (pe_ix (ho t) (peS a) (peS b) hp) (two t ha hb hs he hf fun G2 al2 c2 H2 x y v u l hs2 rx ry hg =>
    ⟨G2, al2, c2, x, y, d, c', hs2, rx, ry, hg, fun G' al' H' v' l' => q G' al' H' v' (l.trans l')⟩)⟩

/-! ### slices -/
abbrev FO := En → Cs → Option (Option Int × Cs)
structure TrO (T : Tb) (n : Nat) (X : Cx) (e : Option Expr) (f : FO) : Prop where
  run : Tied T n X → ∃ t, PO X e t ∧ ∀ (G : Hp) (al : List Addr) (c : Cs) (env : En) (σ : L2.St) (H : Hp) (Q : Option Int → Hp → Prop) (i : Option Int) (c' : Cs), HSt T G al c H → EOk T G al H env σ → f env c = some (i, c') →
    (∀ (G' : Hp) (al' : List Addr) (H' : Hp), Stp G al H G' al' H' → HSt T G' al' c' H' → Q i H') → t σ H Q
def oNone : FO := fun _ c => some (none, c)
def oSome (f : FE) : FO := fun env c => match f env c with | some (.int i, c1) => some (some i, c1) | _ => none
theorem to_none : TrO T n X none oNone := ⟨fun t => ⟨_, po_none, fun G al c env σ H Q i c' hs he hf q => by cases hf; exact q G al H (.refl _ _ _) hs⟩⟩
theorem to_some (h : TrE T n X e fe) : TrO T n X (some e) (oSome fe) := by
  refine ⟨fun t => ⟨_, po_some (peS e), fun G al c env σ H Q i c' hs he hf q => ?_⟩⟩
  unfold oSome at hf
  split at hf
  case h_2 => cases hf
  case h_1 j c1 e1 =>
    cases hf
    exact h.run t G al c env σ H _ _ _ hs he e1 fun G1 al1 H1 v l hs1 r => ⟨j, (Rq.int_inv (H := H1) (.inl r)), q G1 al1 H1 l hs1⟩
/-- the items from lo to hi -/
def cutD {α : Type} (xs : List α) (lo hi : Option Int) : List α := (xs.drop (HT.sIx xs.length 0 lo)).take (HT.sIx xs.length xs.length hi - HT.sIx xs.length 0 lo)
theorem RpL.cut {G : Hp} {al : List Addr} {ds : List D} {vs : List V} (r : RpL T G al ds vs) (lo hi : Option Int) : RpL T G al (cutD ds lo hi) (cutV vs lo hi) := by
  unfold cutD cutV
  rw [r.length]
  exact (r.drop _).take _
def fSl (f : FE) (fl fh : FO) : FE := fun env c => match f env c with
  | some (d, c1) => match fl env c1 with
    | some (lo, c2) => match fh env c2 with
      | some (hi, c3) => match d with
        | .lst ds => some (.lst (cutD ds lo hi), c3)
        | .tup ds => some (.tup (cutD ds lo hi), c3)
        | _ => none
      | none => none
    | none => none
  | none => none
theorem slr_of {r : V → Option Int → Option Int → Hp → VK → Prop} (h : ∀ x lo hi H Q, r x lo hi H Q → ∃ r' : V → Option Int → Option Int → Hp → VK → Prop, SlR X r' ∧ r' x lo hi H Q) : SlR X r :=
  fun pins s σ H x v vl vu lo hi sl Q I rx hs pl pu q => let ⟨_, o, q'⟩ := h x lo hi H Q q; o pins s σ H x v vl vu lo hi sl Q I rx hs pl pu q'
def rSlD (T : Tb) : V → Option Int → Option Int → Hp → VK → Prop := fun x lo hi H Q => ∃ (G : Hp) (al : List Addr) (c : Cs) (dx d : D), HSt T G al c H ∧ Rq T G al H dx x ∧
  (match dx with | .lst ds => some (D.lst (cutD ds lo hi)) | .tup ds => some (.tup (cutD ds lo hi)) | _ => none) = some d ∧ Aft T G al H d c Q
theorem sl_data (t : Tied T n X) : SlR X (rSlD T) := by
  refine slr_of fun x lo hi H Q ⟨G, al, c, dx, d, hs, rx, hg, q⟩ => ?_
  split at hg
  case h_1 ds =>
    cases hg
    obtain ⟨p, vs, rfl, h1, l1⟩ := rx.lst_inv hs
    exact ⟨_, sl_list, p, vs, rfl, SqL.of h1, fun p hp => q.new hs hp (.lst (l1.cut lo hi))⟩
  case h_2 ds =>
    cases hg
    have kx := rx.rp_tup
    obtain ⟨p, vs, rfl, h1, l1⟩ := rx.tup_inv hs
    rw [← t.K] at h1
    refine ⟨_, sl_tupA, p, vs, rfl, h1, fun ⟨h3, h4⟩ => ?_, fun _ p hp => q.newT hs hp (l1.cut lo hi)⟩
    have e : cutD ds lo hi = ds := by
      unfold cutD
      rw [l1.length, h3, h4, List.drop_zero, Nat.sub_zero, ← l1.length, List.take_length]
    rw [e] at q
    exact q.now hs kx
  case h_3 => cases hg
theorem tr_sl {fl fh : FO} (h : TrQ T n X e fe) (hl : TrO T n X lo fl) (hh : TrO T n X hi fh) : TrE T n X (.Subscript e (.Slice lo hi none p2) pos) (fSl fe fl fh) := by
  refine ⟨fun t G al c env σ H Q d c' hs he hf q => ?_⟩
  obtain ⟨tl, pl, kl⟩ := hl.run t
  obtain ⟨th, ph, kh⟩ := hh.run t
  refine ofE (pe_slice (sl_data t) (peS e) pl ph) ?_
  unfold fSl at hf
  split at hf
  case h_2 => cases hf
  case h_1 dx c1 e1 =>
    split at hf
    case h_2 => cases hf
    case h_1 i c2 e2 =>
      split at hf
      case h_2 => cases hf
      case h_1 j c3 e3 =>
        refine h.run t G al c env σ H _ _ _ hs he e1 fun G1 al1 H1 v l1 hs1 r1 => ?_
        refine kl G1 al1 c1 env σ H1 _ _ _ hs1 (he.mono l1) e2 fun G2 al2 H2 l2 hs2 => ?_
        refine kh G2 al2 c2 env σ H2 _ _ _ hs2 ((he.mono l1).mono l2) e3 fun G3 al3 H3 l3 hs3 => ?_
        refine ⟨G3, al3, c3, dx, d, hs3, (r1.mono l2).mono l3, ?_, ?_⟩
        · split at hf <;> cases hf <;> rfl
        · have : c' = c3 := by split at hf <;> cases hf <;> rfl
          subst this
          exact fun G' al' H' v' l' => q G' al' H' v' (((l1.trans l2).trans l3).trans l')
end
end Pd
set_option Elab.async false
set_option linter.all false
set_option maxRecDepth 100000
/-! Pd8: isinstance; the special methods of one's own classes. -/
namespace Pd
open PySem PySem.Spec PyProof.Rows L2

/-! ### isinstance -/
def tyNames : List String := ["NoneType", "bool", "int", "str", "list", "tuple"]
def isaB (s t : String) : Bool := s == t || (s == "bool" && t == "int")
theorem kit_tab : (tyNames.all fun s => tyNames.all fun t => kitB s t == some (isaB s t)) = true := by decide +kernel
/-- the built-in type of a datum, or its class -/
def kindD : D → Option (String ⊕ Nat)
  | .non => some (.inl "NoneType")
  | .bl _ => some (.inl "bool")
  | .int _ => some (.inl "int")
  | .str _ => some (.inl "str")
  | .lst _ => some (.inl "list")
  | .tup _ => some (.inl "tuple")
  | .scr _ => some (.inl "list")
  | .obj k _ => some (.inr k)
  | _ => none
/-- what isinstance asks of a class of one's own -/
structure Obc (K : PySem.W.Frag) (C : Addr) : Prop where
  cls : Cls K C
  ha : PySem.W.findIn K (.ref C) "__class__" = some (some (.builtin "object.__class__"))
  hn : PySem.W.specialIn K (.builtin "object.__class__") "__get__" = some (some (.builtin "getset_descriptor.__get__"))
  htk : PySem.W.takesIn K (.builtin "object.__class__") = some true
  hm : PySem.W.mroIn K C (.type "object") = some true
/-- the class that a name stands for, as isinstance's second argument: its answers -/
structure Isi (T : Tb) (nm : Str) (tb : String → Bool) (tc : Nat → Option Bool) : Prop where
  ex : ∃ (u : V) (w : Value), ClsV u w ∧ RelV u w ∧ ((T.mg nm = none ∧ bootBuiltins nm = some w ∧ nm ≠ "__name__") ∨ T.mg nm = some w) ∧
    (∀ s ∈ tyNames, PySem.W.kitOne T.K (.type s) w = some (tb s)) ∧ ∀ k b, tc k = some b → PySem.W.kitOne T.K (.ref (T.cl k)) w = some b ∧ Obc T.K (T.cl k)
theorem Isi.bt {T : Tb} {nm : Str} {t : String} {tc : Nat → Option Bool} (hm : T.mg nm = none) (hv : bootBuiltins nm = some (.type t)) (hn : nm ≠ "__name__") (ht : t ∈ tyNames) (hc : ∀ k b, tc k = some b → PySem.W.kitOne T.K (.ref (T.cl k)) (.type t) = some b ∧ Obc T.K (T.cl k)) :
    Isi T nm (fun s => isaB s t) tc :=
  ⟨.ty t, .type t, .ty t, rfl, .inl ⟨hm, hv, hn⟩, fun s hs => by
    have h := List.all_eq_true.mp (List.all_eq_true.mp kit_tab s hs) t ht
    exact kit_ty (by simpa using h), hc⟩
def isiD (tb : String → Bool) (tc : Nat → Option Bool) (c : Cs) (d : D) : Option Bool := match deref c d with
  | some e => match kindD e with
    | some (.inl s) => some (tb s)
    | some (.inr k) => tc k
    | none => none
  | none => none
def fIsi (tb : String → Bool) (tc : Nat → Option Bool) (f : FE) : FE := fun env c => match f env c with
  | some (d, c1) => match isiD tb tc c1 d with
    | some b => some (.bl b, c1)
    | none => none
  | none => none
section
variable {T : Tb} {n : Nat} {X : Cx} {pos p p2 : Pos} {e e2 : Expr} {es : List Expr} {fe fa fb : FE}
theorem sqT_ty {K : PySem.W.Frag} {H : Hp} {a : Addr} {vs : List V} (h : SqT K H a vs) : TyX K H (.ref a) (.type "tuple") := by
  rcases h with (h | ⟨o, h⟩) | ⟨o, its, m, h, hc, _⟩
  · exact .base (.tup h)
  · exact .fTuple h
  · exact .kTuple h hc
theorem sqL_ty {K : PySem.W.Frag} {H : Hp} {a : Addr} {vs : List V} (h : SqL K H a vs) : TyX K H (.ref a) (.type "list") := by
  rcases h with (h | ⟨o, h⟩) | ⟨o, its, m, h, hc, _⟩
  · exact .base (.lst h)
  · exact .base (.frz h)
  · exact .kList h hc
/-- a datum's type in the heap -/
theorem Rq.ty {G H : Hp} {al : List Addr} {c : Cs} {d e : D} {v : V} (hs : HSt T G al c H) (r : Rq T G al H d v) (hd : deref c d = some e) :
    (∀ s, kindD e = some (.inl s) → TyX T.K H v (.type s) ∧ s ∈ tyNames) ∧ ∀ k, kindD e = some (.inr k) → Obc T.K (T.cl k) → TyX T.K H v (.ref (T.cl k)) := by
  have key : ∀ {a : Addr} {o : HO}, H a = some o → Bx T G al a o e → (∀ s, kindD e = some (.inl s) → TyX T.K H (.ref a) (.type s) ∧ s ∈ tyNames) ∧ ∀ k, kindD e = some (.inr k) → Obc T.K (T.cl k) → TyX T.K H (.ref a) (.ref (T.cl k)) := by
    intro a o ho b
    cases b with
    | lst r => exact ⟨fun s h => by cases h; exact ⟨.base (.lst ho), by simp [tyNames]⟩, fun k h => by cases h⟩
    | dK _ _ => exact ⟨fun s h => (by cases h), fun k h => by cases h⟩
    | dN _ _ _ _ _ _ _ => exact ⟨fun s h => (by cases h), fun k h => by cases h⟩
    | obj r hl => exact ⟨fun s h => (by cases h), fun k h ob => by cases h; exact .base (.ins ho ob.cls ob.ha ob.hn ob.htk ob.hm)⟩
  cases d with
  | cell j =>
    have hd : c[j]? = some e := hd
    rcases r with r | ⟨a, o, e', _, _, hh, b⟩
    · cases r with
      | box g b => cases b
      | cell ha =>
        obtain ⟨_, o, ho, b⟩ := hs.at_ j _ _ ha hd
        exact key ho b
    · cases b
  | non => cases hd; rw [r.non_inv]; exact ⟨fun s h => by cases h; exact ⟨.base .non, by simp [tyNames]⟩, fun k h => by cases h⟩
  | bl b => cases hd; rw [r.bl_inv]; exact ⟨fun s h => by cases h; exact ⟨.base (.bl b), by simp [tyNames]⟩, fun k h => by cases h⟩
  | int b => cases hd; rw [r.int_inv]; exact ⟨fun s h => by cases h; exact ⟨.base (.int b), by simp [tyNames]⟩, fun k h => by cases h⟩
  | str b => cases hd; rw [r.str_inv]; exact ⟨fun s h => by cases h; exact ⟨.base (.str b), by simp [tyNames]⟩, fun k h => by cases h⟩
  | tup ds =>
    cases hd
    obtain ⟨a, vs, rfl, h1, _⟩ := r.tup_inv hs
    exact ⟨fun s h => by cases h; exact ⟨sqT_ty h1, by simp [tyNames]⟩, fun k h => by cases h⟩
  | scr ns =>
    cases hd
    obtain ⟨a, rfl, h1⟩ := r.scr_inv hs
    exact ⟨fun s h => by cases h; exact ⟨sqL_ty h1, by simp [tyNames]⟩, fun k h => by cases h⟩
  | cls k => cases hd; exact ⟨fun s h => (by cases h), fun k h => by cases h⟩
  | lst ds =>
    cases hd
    rcases r with r | ⟨a, o, e', _, _, hh, b⟩
    · cases r with
      | box g b => exact key (hs.ex _ _ g) b
    · subst e'; exact key hh b
  | dic ks ds => cases hd; exact ⟨fun s h => (by cases h), fun k h => by cases h⟩
  | obj k ds =>
    cases hd
    rcases r with r | ⟨a, o, e', _, _, hh, b⟩
    · cases r with
      | box g b => exact key (hs.ex _ _ g) b
    · subst e'; exact key hh b
theorem boot_isinstance : bootBuiltins "isinstance" = some (.builtin "isinstance") := by decide +kernel
theorem tr_isi {nm : Str} {tb : String → Bool} {tc : Nat → Option Bool} (I : Isi T nm tb tc) (h : TrQ T n X e fe) (hm : X.mg "isinstance" = none) (hg : Gl X "isinstance" := by rfl) (hg2 : Gl X nm := by rfl) (hd : (nm == ("__debug__" : Str)) = false := by decide)
    (hst : starEach [e, .Name nm p2] X.env = (false, eval e X.env) :: starEach [.Name nm p2] X.env := by rfl) (hpl : (backTo pos (starEach [.Name nm p2] X.env)).any (·.1) = false := by rfl) (hst2 : starEach [.Name nm p2] X.env = (false, eval (.Name nm p2) X.env) :: starEach [] X.env := by rfl) :
    TrE T n X (.Call (.Name "isinstance" p) [e, .Name nm p2] [] pos) (fIsi tb tc fe) := by
  obtain ⟨u, w, cv, rv, hn, kb, kc⟩ := I.ex
  refine ⟨fun t G al c env σ H Q d c' hs he hf q => ?_⟩
  have hn' : PE X (.Name nm p2) (tC u) := by
    rcases hn with ⟨h1, h2, h3⟩ | h1
    · exact pe_bltn hg2 (by rw [t.mg]; exact h1) h2 rv h3 hd
    · exact pe_glob hg2 (by rw [t.mg]; exact h1) rv hd
  refine ofE (pe_callB call_isi hg hm boot_isinstance (pa_cons (peS e) (pa_cons hn' pa_nil hst2) hst) (he := hst) (hpl := hpl)) ?_
  unfold fIsi at hf
  split at hf
  case h_2 => cases hf
  case h_1 d1 c1 e1 =>
    split at hf
    case h_2 => cases hf
    case h_1 b e2 =>
      cases hf
      refine h.run t G al c env σ H _ _ _ hs he e1 fun G1 al1 H1 v l1 hs1 r1 => ?_
      unfold isiD at e2
      split at e2
      case h_2 => cases e2
      case h_1 d2 e3 =>
        obtain ⟨k1, k2⟩ := r1.ty hs1 e3
        split at e2
        case h_1 s e4 =>
          cases e2
          obtain ⟨ty, hm⟩ := k1 s e4
          exact ⟨v, u, _, w, tb s, rfl, cv, by rw [t.K]; exact ty, by rw [t.K]; exact kb s hm, q G1 al1 H1 _ l1 hs1 (.bl _)⟩
        case h_2 k e4 =>
          obtain ⟨h1, h2⟩ := kc k b e2
          exact ⟨v, u, _, w, b, rfl, cv, by rw [t.K]; exact k2 k e4 h2, by rw [t.K]; exact h1, q G1 al1 H1 _ l1 hs1 (.bl _)⟩
        case h_3 => cases e2

/-! ### special methods of one's own classes -/
/-- the class j's method x (a dunder name) does m -/
structure Dun (T : Tb) (k : Nat) (j : Nat) (x : Str) (ps : List Str) (m : FC) : Prop where
  ex : ∃ f fd, FnAt T k f fd ps m ∧ PySem.W.findIn T.K (.ref (T.cl j)) x = some (some (.ref f)) ∧ PySem.W.isFn T.K (.ref f) = true ∧ PySem.W.fnIn T.K f = true
abbrev Ms := Nat → Option FC
/-- the table's methods are there, k deep at most -/
def Duns (T : Tb) (k : Nat) (x : Str) (ms : Ms) : Prop := ∀ j m, ms j = some m → ∃ ps, Dun T k j x ps m
theorem Dun.mono {k k' j : Nat} {x : Str} {ps : List Str} {m : FC} (h : Dun T k j x ps m) (l : k ≤ k') : Dun T k' j x ps m :=
  let ⟨f, fd, A, r⟩ := h.ex; ⟨f, fd, A.mono l, r⟩
/-- a def's call at A -/
theorem FnAt.call {k : Nat} {f : Addr} {fd : FuncData} {ps : List Str} {m : FC} (F : FnAt T k f fd ps m) (t : Tied T n X) {A : Around} (hr : Room k A) (ha : ∀ (s : Shared) (H : Hp), Env0 X.prog X.w X.K X.mg X.base X.A X.stack s H → Env0 X.prog X.w X.K X.mg X.base A X.stack s H)
    {pins : List (Addr × Obj)} {s : Shared} {σ : L2.St} {H : Hp} (I : Inv X pins σ H s) {G : Hp} {al : List Addr} {c : Cs} {ds : List D} {vs : List V} {us : List Value} {d : D} {c' : Cs} {Q : VK} (hs : HSt T G al c H) (r : RpL T G al ds vs) (rv : Vals vs us)
    (hm : m ds c = some (d, c')) (q : Aft T G al H d c' Q) : wpAny (model X.prog X.w) A (call (.ref f) us) (EP X pins σ Q) X.xe s := by
  have hsp : SpS T ps.length m vs H Q E0 := F.sp hs r hm q
  have Fo := t.fn F.ok
  have hl : us.length = ps.length := by rw [← rv.length]; exact Fo.len _ _ _ _ hsp
  refine wpAny_call (codeAny_mono (Fo.run A X.stack s H ⟨us, []⟩ us vs Q E0 hr (ha s H I.env0) (by
    have := F.b s us (by rw [← t.K]; exact I.kIn) (by simpa using hl)
    simpa using this) rv hsp) fun r s' hq => ?_)
  cases r with
  | error e => exact (pass0 (X := X)) pins σ H s e s' I hq
  | ok fl =>
    cases fl with
    | ret u => exact I.after hq
    | next => exact False.elim hq
    | brk => exact False.elim hq
    | cont => exact False.elim hq
/-- an instance's object -/
theorem obj_at {pins : List (Addr × Obj)} {s : Shared} {σ : L2.St} {H : Hp} (I : Inv X pins σ H s) {a C dx : Addr} {fs : List (Str × V)} (h : H a = some (.ins C dx fs)) : ∃ ox od, PySem.W.InstAt s.heap a ox C od ∧ ox.data = .plain := by
  obtain ⟨mA, O, _⟩ := ins_get I.hok h
  obtain ⟨od, J, _⟩ := O.look
  exact ⟨_, _, J, rfl⟩
theorem Rp.ins' {G H : Hp} {al : List Addr} {c : Cs} {k : Nat} {d : D} {ds : List D} {v : V} (hs : HSt T G al c H) (h : Rp T G al d v) (hd : deref c d = some (.obj k ds)) : ∃ a dx fs, v = .ref a ∧ H a = some (.ins (T.cl k) dx fs) := by
  obtain ⟨a, dx, vs, e1, e2, _⟩ := Rq.ins' hs (.inl h) hd
  exact ⟨a, dx, _, e1, e2⟩

/-! ### len -/
def lenD (c : Cs) (d : D) : Option Int := match deref c d with
  | some (.lst ds) => some (ds.length : Nat)
  | some (.tup ds) => some (ds.length : Nat)
  | some (.scr ns) => some (ns.length : Nat)
  | some (.str z) => if z.length ≤ lim then some (z.length : Nat) else none
  | _ => none
def oLen (ms : Ms) (c : Cs) (d : D) : Option (D × Cs) := match deref c d with
  | some (.obj j _) => match ms j with
    | some m => match m [d] c with
      | some (.int i, c') => if (decide (0 ≤ i) && small62 i) = true then some (.int i, c') else none
      | _ => none
    | none => none
  | _ => match lenD c d with
    | some i => some (.int i, c)
    | none => none
def fLenQ (f : FE) : FE := fun env c => match f env c with
  | some (d, c1) => match lenD c1 d with
    | some i => some (.int i, c1)
    | none => none
  | none => none
def fLen (ms : Ms) (f : FE) : FE := fun env c => match f env c with
  | some (d, c1) => oLen ms c1 d
  | none => none
theorem boot_len : bootBuiltins "len" = some (.builtin "len") := by decide +kernel
theorem Rq.cellEq {G H : Hp} {al : List Addr} {c : Cs} {d e : D} {v : V} (hs : HSt T G al c H) (r : Rq T G al H d v) (hd : deref c d = some e) (he : (∀ ds, e ≠ .lst ds) ∧ (∀ k vs, e ≠ .dic k vs) ∧ ∀ k ds, e ≠ .obj k ds) : d = e := by
  cases d with
  | cell j =>
    have hd : c[j]? = some e := hd
    rcases r with r | ⟨a, o, e', _, _, hh, b⟩
    · cases r with
      | box g b => cases b
      | cell ha =>
        obtain ⟨_, o, ho, b⟩ := hs.at_ j _ _ ha hd
        cases b with
        | lst _ => exact absurd rfl (he.1 _)
        | dK _ _ => exact absurd rfl (he.2.1 _ _)
        | dN _ _ _ _ _ _ _ => exact absurd rfl (he.2.1 _ _)
        | obj _ _ => exact absurd rfl (he.2.2 _ _)
    · cases b
  | _ => cases hd; rfl
theorem len_data (t : Tied T n X) {G H : Hp} {al : List Addr} {c : Cs} {d : D} {i : Int} {v : V} (hs : HSt T G al c H) (r : Rq T G al H d v) (h : lenD c d = some i) : ∃ k : Nat, i = k ∧ LenV X.K v H k := by
  unfold lenD at h
  split at h
  case h_1 ds e1 =>
    cases h
    obtain ⟨a, vs, rfl, hv, rl⟩ := r.lst' hs e1
    exact ⟨_, rfl, .inl ⟨vs, SqL.of hv, rl.length⟩⟩
  case h_2 ds e1 =>
    cases h
    obtain ⟨a, vs, rfl, hv, rl⟩ := r.seq' hs (by unfold seqOf; rw [e1])
    rw [← t.K] at hv
    rcases hv with hv | hv
    · exact ⟨_, rfl, .inl ⟨vs, hv, rl.length⟩⟩
    · exact ⟨_, rfl, .inr ⟨vs, hv, rl.length⟩⟩
  case h_3 ns e1 =>
    cases h
    have := r.cellEq hs e1 ⟨fun _ z => (by cases z), fun _ _ z => (by cases z), fun _ _ z => by cases z⟩
    subst this
    obtain ⟨a, rfl, hv⟩ := r.scr_inv hs
    rw [← t.K] at hv
    exact ⟨_, rfl, .inl ⟨_, hv, by rw [List.length_map]⟩⟩
  case h_4 z e1 =>
    split at h
    case isFalse => cases h
    case isTrue hz =>
      cases h
      have := r.cellEq hs e1 ⟨fun _ z => (by cases z), fun _ _ z => (by cases z), fun _ _ z => by cases z⟩
      subst this
      rw [r.str_inv]
      exact ⟨_, rfl, Nat.le_trans hz lim_line, rfl⟩
  case h_5 => cases h
theorem tr_lenQ (h : TrQ T n X e fe) (hm : X.mg "len" = none) (hg : Gl X "len" := by rfl) (hst : starEach [e] X.env = (false, eval e X.env) :: starEach [] X.env := by rfl) (hpl : (backTo pos (starEach [] X.env)).any (·.1) = false := by rfl) : TrE T n X (.Call (.Name "len" p) [e] [] pos) (fLenQ fe) := by
  refine ⟨fun t G al c env σ H Q d c' hs he hf q => ?_⟩
  refine ofE (pe_callB call_len hg hm boot_len (pa_cons (peS e) pa_nil hst) (he := hst) (hpl := hpl)) ?_
  unfold fLenQ at hf
  split at hf
  case h_2 => cases hf
  case h_1 d1 c1 e1 =>
    split at hf
    case h_2 => cases hf
    case h_1 i e2 =>
      cases hf
      refine h.run t G al c env σ H _ _ _ hs he e1 fun G1 al1 H1 v l1 hs1 r1 => ?_
      obtain ⟨k, rfl, hk⟩ := len_data t hs1 r1 e2
      exact ⟨v, k, rfl, hk, q G1 al1 H1 _ l1 hs1 (.int _)⟩
theorem callr_len {k : Nat} {ms : Ms} (D0 : Duns T k "__len__" ms) (hk : k + 1 ≤ n) (t : Tied T n X) : CallR X (.builtin "len") (fun xs H Q => ∃ (G : Hp) (al : List Addr) (c : Cs) (d0 d : D) (c' : Cs) (v : V), xs = [v] ∧ HSt T G al c H ∧ Rp T G al d0 v ∧ oLen ms c d0 = some (d, c') ∧ Aft T G al H d c' Q) := by
  intro pins s σ H xs us Q I rv h
  obtain ⟨G, al, c, d0, d, c', v, rfl, hs, r, hf, q⟩ := h
  unfold oLen at hf
  split at hf
  case h_1 j ds e1 =>
    split at hf
    case h_2 => cases hf
    case h_1 m e2 =>
      split at hf
      case h_2 => cases hf
      case h_1 i c1 e3 =>
        split at hf
        case isFalse => cases hf
        case isTrue hi =>
          cases hf
          obtain ⟨ps, f, fd, F, h1, h2, h3⟩ := D0 j m e2
          obtain ⟨a, dx, fs, rfl, ha⟩ := r.ins' hs e1
          rw [Vals.ref1 rv]
          obtain ⟨ox, od, J, _⟩ := obj_at I ha
          obtain ⟨_, hF⟩ := I.fr
          refine PySem.W.len_K hF I.ok.mod.kin J (by rw [t.K]; exact h1) (by rw [t.K]; exact h2) ?_
          have ro : Room k X.A.in1 := (t.room.mono hk).in1
          refine wpAny_mono (F.call t ro (fun _ _ z => z.in1) I hs (.cons r .nil) (.cons rfl .nil) e3 (Q := fun v H' => ∃ G' al', Stp G al H G' al' H' ∧ HSt T G' al' c' H' ∧ v = .int i) fun G' al' H' v l hs' r' => ⟨G', al', l, hs', Rq.int_inv (H := H') (.inl r')⟩) (fun u s' hq => ?_) fun _ _ z => z
          obtain ⟨w, H', I', rw', G', al', l, hs', rfl⟩ := hq
          obtain ⟨tk, rfl⟩ := rw'
          obtain ⟨h5, h6⟩ := Bool.and_eq_true_iff.mp hi
          obtain ⟨h7, h8⟩ := small62_ok h6
          exact ⟨⟨of_decide_eq_true h5, by omega⟩, .int i, H', I'.tok _, ⟨_, rfl⟩, q G' al' H' _ l hs' (.int i)⟩
  case h_2 =>
    split at hf
    case h_2 => cases hf
    case h_1 i e2 =>
      cases hf
      obtain ⟨k, rfl, hk⟩ := len_data t hs (.inl r) e2
      exact call_len pins s σ H _ us Q I rv ⟨v, k, rfl, hk, q.now hs (.int _)⟩
theorem tr_len {k : Nat} {ms : Ms} (D0 : Duns T k "__len__" ms) (h : TrE T n X e fe) (hm : X.mg "len" = none) (hk : k + 1 ≤ n := by decide) (hg : Gl X "len" := by rfl) (hst : starEach [e] X.env = (false, eval e X.env) :: starEach [] X.env := by rfl) (hpl : (backTo pos (starEach [] X.env)).any (·.1) = false := by rfl) :
    TrE T n X (.Call (.Name "len" p) [e] [] pos) (fLen ms fe) := by
  refine ⟨fun t G al c env σ H Q d c' hs he hf q => ?_⟩
  refine ofE (pe_callB (callr_len D0 hk t) hg hm boot_len (pa_cons (peS e) pa_nil hst) (he := hst) (hpl := hpl)) ?_
  unfold fLen at hf
  split at hf
  case h_2 => cases hf
  case h_1 d1 c1 e1 =>
    refine h.run t G al c env σ H _ _ _ hs he e1 fun G1 al1 H1 v l1 hs1 r1 => ?_
    exact ⟨G1, al1, c1, d1, d, c', v, rfl, hs1, r1, hf, fun G' al' H' v' l' => q G' al' H' v' (l1.trans l')⟩

/-! ### operators with special methods: the operands are data or cells -/
def rP (T : Tb) (g : F2) : R2 := fun x y H Q => ∃ (G : Hp) (al : List Addr) (c : Cs) (dx dy d : D) (c' : Cs), HSt T G al c H ∧ Rp T G al dx x ∧ Rp T G al dy y ∧ g dx dy c = some (d, c') ∧ Aft T G al H d c' Q
theorem twoP {R : V → V → Hp → Prop} {a b : Expr} {G : Hp} {al : List Addr} {c : Cs} {env : En} {σ : L2.St} {H : Hp} {r : D × Cs} {g : F2} (t : Tied T n X) (ha : TrE T n X a fa) (hb : TrE T n X b fb) (hs : HSt T G al c H) (he : EOk T G al H env σ) (hf : fOp g fa fb env c = some r)
    (k : ∀ (G2 : Hp) (al2 : List Addr) (c2 : Cs) (H2 : Hp) (x y : D) (v u : V), Stp G al H G2 al2 H2 → HSt T G2 al2 c2 H2 → Rp T G2 al2 x v → Rp T G2 al2 y u → g x y c2 = some r → R v u H2) :
    SemE X a σ H fun v H1 => SemE X b σ H1 fun u H2 => R v u H2 := by
  unfold fOp at hf
  split at hf
  case h_2 => cases hf
  case h_1 x c1 e1 =>
    split at hf
    case h_2 => cases hf
    case h_1 y c2 e2 =>
      refine ha.run t G al c env σ H _ x c1 hs he e1 fun G1 al1 H1 v l1 hs1 r1 => ?_
      exact hb.run t G1 al1 c1 env σ H1 _ y c2 hs1 (he.mono l1) e2 fun G2 al2 H2 u l2 hs2 r2 => k G2 al2 c2 H2 x y v u (l1.trans l2) hs2 (r1.mono l2.le) r2 hf
theorem tr_cmpP {a b : Expr} {op : CmpOp} {g : F2} (ho : Tied T n X → OpR X (compareOp op) (rP T g)) (ha : TrE T n X a fa) (hb : TrE T n X b fb) (hm : behindInMarks op b = false := by first | exact nomark _ | rfl) : TrE T n X (.Compare a [op] [b] pos) (fOp g fa fb) :=
  ⟨fun t G al c env σ H Q d c' hs he hf q => ofE (pe_cmpR (ho t) (peS a) (peS b) hm) (twoP t ha hb hs he hf fun G2 al2 c2 H2 x y v u l hs2 rx ry hg =>
    ⟨G2, al2, c2, x, y, d, c', hs2, rx, ry, hg, fun G' al' H' v' l' => q G' al' H' v' (l.trans l')⟩)⟩
theorem tr_opP {a b : Expr} {op : Operator} {g : F2} (ho : Tied T n X → OpR X (binaryOp op) (rP T g)) (ha : TrE T n X a fa) (hb : TrE T n X b fb) : TrE T n X (.BinOp a op b pos) (fOp g fa fb) :=
  ⟨fun t G al c env σ H Q d c' hs he hf q => ofE (pe_op (ho t) (peS a) (peS b)) (twoP t ha hb hs he hf fun G2 al2 c2 H2 x y v u l hs2 rx ry hg =>
    ⟨G2, al2, c2, x, y, d, c', hs2, rx, ry, hg, fun G' al' H' v' l' => q G' al' H' v' (l.trans l')⟩)⟩
/-- what stands as an index of a plain subscript of one's own classes -/
def PlainIx2 (b : Expr) : Prop := ∀ o i, subscripted b true o i = runValue (.builtin "lifetime.subscript" ⟨[o, i], []⟩)
def IxR2 (X : Cx) (r : R2) : Prop :=
  ∀ (value slice : Expr) (pins : List (Addr × Obj)) (s : Shared) (σ : L2.St) (H : Hp) (x y : V) (v u : Value) (Q : VK), Inv X pins σ H s → RelV x v → RelV y u → r x y H Q →
    PlainIx slice → PlainIx2 slice → wpAny (model X.prog X.w) X.A (subscriptTail value slice v u) (EP X pins σ Q) X.xe s
theorem pe_ix2 {a b : Expr} {ta tb : TE} {r : R2} (hr : IxR2 X r) (ha : PE X a ta) (hb : PE X b tb) (hs : PlainIx b) (hs2 : PlainIx2 b) : PE X (.Subscript a b pos) (tOp r ta tb) :=
  ⟨fun pins s σ H Q I h => Subscript_ (binT ha hb I h fun v u s2 x y H2 I2 rx ry q => hr a b pins s2 σ H2 x y v u Q I2 rx ry q hs hs2)⟩
theorem tr_ixP {a b : Expr} {g : F2} (ho : Tied T n X → IxR2 X (rP T g)) (ha : TrE T n X a fa) (hb : TrE T n X b fb) (hp : PlainIx b := by intro _ _; rfl) (hp2 : PlainIx2 b := by intro _ _; with_unfolding_all rfl) : TrE T n X (.Subscript a b pos) (fOp g fa fb) :=
  ⟨fun t G al c env σ H Q d c' hs he hf q => ofE (pe_ix2 (ho t) (peS a) (peS b) hp hp2) (twoP t ha hb hs he hf fun G2 al2 c2 H2 x y v u l hs2 rx ry hg =>
    ⟨G2, al2, c2, x, y, d, c', hs2, rx, ry, hg, fun G' al' H' v' l' => q G' al' H' v' (l.trans l')⟩)⟩
/-- x in y: y an instance, or data -/
def oInM (ms : Ms) (neg : Bool) : F2 := fun x y c => match deref c y with
  | some (.obj j _) => match ms j with
    | some m => match m [y, x] c with
      | some (.bl b, c') => some (.bl (if neg = true then !b else b), c')
      | _ => none
    | none => none
  | _ => match inD c x y with
    | some b => some (.bl (if neg = true then !b else b), c)
    | none => none
theorem op_oInM {k : Nat} {ms : Ms} (D0 : Duns T k "__contains__" ms) (hk : k ≤ n) (neg : Bool) (t : Tied T n X) : OpR X (compareOp (if neg = true then .NotIn else .In)) (rP T (oInM ms neg)) := by
  intro pins s σ H x y v u Q I rx' ry' h
  obtain ⟨G, al, c, dx, dy, d, c', hs, rx, ry, hf, q⟩ := h
  unfold oInM at hf
  split at hf
  case h_1 j ds e1 =>
    split at hf
    case h_2 => cases hf
    case h_1 m e2 =>
      split at hf
      case h_2 => cases hf
      case h_1 b c1 e3 =>
        cases hf
        obtain ⟨ps, f, fd, F, h1, h2, h3⟩ := D0 j m e2
        obtain ⟨a, dx', fs, rfl, ha⟩ := ry.ins' hs e1
        obtain rfl : u = .ref a := ry'
        obtain ⟨ox, od, J, _⟩ := obj_at I ha
        obtain ⟨_, hF⟩ := I.fr
        have ro : Room k X.A := t.room.mono hk
        have cal := F.call t ro (fun _ _ z => z) I hs (.cons ry (.cons rx .nil)) (.cons rfl (.cons rx' .nil)) e3 (Q := fun v H' => ∃ G' al', Stp G al H G' al' H' ∧ HSt T G' al' c' H' ∧ v = .bl b) fun G' al' H' v l hs' r' => ⟨G', al', l, hs', r'.bl_inv⟩
        cases neg with
        | false =>
          refine PySem.W.in_K hF I.ok.mod.kin J (by rw [t.K]; exact h1) (by rw [t.K]; exact h2) (wpAny_mono cal (fun u s' hq => ?_) fun _ _ z => z)
          obtain ⟨w, H', I', rw', G', al', l, hs', rfl⟩ := hq
          obtain rfl : u = .bool b := rw'
          exact wpAny_truthy_bool ⟨.bl b, H', I', rfl, q G' al' H' _ l hs' (.bl b)⟩
        | true =>
          refine PySem.W.notIn_K hF I.ok.mod.kin J (by rw [t.K]; exact h1) (by rw [t.K]; exact h2) (wpAny_mono cal (fun u s' hq => ?_) fun _ _ z => z)
          obtain ⟨w, H', I', rw', G', al', l, hs', rfl⟩ := hq
          obtain rfl : u = .bool b := rw'
          exact wpAny_truthy_bool ⟨.bl (!b), H', I', rfl, q G' al' H' _ l hs' (.bl (!b))⟩
  case h_2 =>
    split at hf
    case h_2 => cases hf
    case h_1 b e2 =>
      cases hf
      obtain ⟨r', o, z⟩ := op_inD (Q := Q) t neg hs (.inl rx) (.inl ry) e2 (q.now hs (.bl _))
      exact o pins s σ H x y v u Q I rx' ry' z
/-- x[y]: x an instance, or data -/
def oIxM (ms : Ms) : F2 := fun x y c => match deref c x with
  | some (.obj j _) => match ms j with
    | some m => m [x, y] c
    | none => none
  | _ => oIx x y c
theorem ix_oIxM {k : Nat} {ms : Ms} (D0 : Duns T k "__getitem__" ms) (hk : k + 1 ≤ n) (t : Tied T n X) : IxR2 X (rP T (oIxM ms)) := by
  intro value slice pins s σ H x y v u Q I rx' ry' h hsub hsub2
  obtain ⟨G, al, c, dx, dy, d, c', hs, rx, ry, hf, q⟩ := h
  unfold oIxM at hf
  split at hf
  case h_1 j ds e1 =>
    split at hf
    case h_2 => cases hf
    case h_1 m e2 =>
      obtain ⟨ps, f, fd, F, h1, h2, h3⟩ := D0 j m e2
      obtain ⟨a, dx', fs, rfl, ha⟩ := rx.ins' hs e1
      obtain rfl : v = .ref a := rx'
      obtain ⟨ox, od, J, _⟩ := obj_at I ha
      obtain ⟨_, hF⟩ := I.fr
      have ro : Room k X.A.in1 := (t.room.mono hk).in1
      exact PySem.W.sub_K hF I.ok.mod.kin J (by rw [t.K]; exact h1) (by rw [t.K]; exact h3) (by rw [t.K]; exact h2) (F.call t ro (fun _ _ z => z.in1) I hs (.cons rx (.cons ry .nil)) (.cons rfl (.cons ry' .nil)) hf q) (hsub2 _ _)
  case h_2 => exact ix_oIx t value slice pins s σ H x y v u Q I rx' ry' ⟨G, al, c, dx, dy, d, c', hs, .inl rx, .inl ry, hf, q⟩ (hsub _ _)
end
end Pd
set_option Elab.async false
set_option linter.all false
set_option maxRecDepth 100000
/-! Pd9: == and != with one's own __eq__; the call of an instance. -/
namespace Pd
open PySem PySem.Spec PyProof.Rows L2

/-! ### a built-in special method of one's own class -/
section
variable {M : Model} {A : Around} {E : Value → Shared → Prop} {s : Shared} {K : PySem.W.Frag} {x C f : Addr} {ox : Obj} {od : Option Obj}
theorem ifBound_B {tn id : String} {name : Str} {args : List Value} {Q : Option Value → Shared → Prop} (X : K.In s.heap) (I : PySem.W.InstAt s.heap x ox C od) (S : PySem.Slot tn name id) (hs : PySem.W.findIn K (.ref C) name = some (some (.builtin id)))
    (h : wpAny M A (call (.builtin id) (.ref x :: args)) (fun v => Q (some v)) E s) : wpAny M A (callSpecialIfBound? (.ref x) name args) Q E s := by
  simp only [callSpecialIfBound?, bindSpecialIfBound?]
  refine wpAny_holding (wpAny_bind (wpAny_bind (wpAny_bind (I.type.here ((PySem.W.looks_findIn X hs).here ?_)))))
  refine wpAny_bind (wpAny_askSetting (wpAny_ite ?_))
  rw [S.bind]
  have fin : wpAny M A (call (.builtin id) ([.ref x] ++ args) >>= fun v => pure (some v)) Q E s := wpAny_bind (wpAny_mono h (fun v s' h' => wpAny_pure h') fun _ _ h' => h')
  split
  · exact wpAny_bind (wpAny_pure (wpAny_pure fin))
  · exact wpAny_tryCatch (wpAny_bind (wpAny_pure (wpAny_pure fin)))
end
theorem slot_obj_ne : PySem.Slot "object" "__ne__" "object.__ne__" := PySem.F.cmp_object.ne
section
variable {prog : Program} {w : World} {A : Around} {E : Value → Shared → Prop} {s : Shared} {K : PySem.W.Frag} {x y C L f : Addr} {h₀ : Heap} {m : Str → Option Value} {ox : Obj} {od : Option Obj} {tb : Value}
/-- a != b by one's own __eq__ that answers a bool -/
theorem ne_K {Q : Value → Shared → Prop} (hu : A.units + 1 < cLine) (F : Fr h₀ L s.heap m) (X₀ : K.In h₀) (I : PySem.W.InstAt s.heap x ox C od) (hb : PySem.W.Looks (model prog w) s.heap (typeOf (.ref y)) tb) (hn : PySem.W.notFirst K C tb = true)
    (hne : PySem.W.findIn K (.ref C) "__ne__" = some (some (.builtin "object.__ne__"))) (ho : PySem.W.subIn K (.ref C) (.type "object") = some true)
    (hs : PySem.W.findIn K (.ref C) "__eq__" = some (some (.ref f))) (hf : PySem.W.isFn K (.ref f) = true)
    (h : wpAny (model prog w) A.in1 (call (.ref f) [.ref x, .ref y]) (fun r s' => ∃ b, r = .bool b ∧ Q (.bool (!b)) s') E s) : wpAny (model prog w) A (richCompare .NotEq (.ref x) (.ref y)) Q E s := by
  have X := X₀.keeps F.keep
  have one : wpAny (model prog w) A (tryCompare (.ref x) "__ne__" (.ref y)) (fun r s' => ∃ v, r = some v ∧ Q v s') E s := by
    unfold tryCompare
    refine wpAny_bind (ifBound_B X I slot_obj_ne hne ?_)
    refine wpAny_call (codeAny_call_builtin slot_obj_ne.plain PySem.F.cmpEntry_ne (PySem.W.check_slot PySem.F.cmpKind_ne PySem.F.cmpSplit_ne (I.type.andThen (PySem.W.looks_subIn X ho)) (PySem.F.cmpArgs_ne _ _) ?_))
    unfold Builtin.«object.__ne__»
    have hu1 : A.in1.units < cLine := hu
    have key : ∀ {R : Option Value → Shared → Prop}, (∀ b s', Q (.bool (!b)) s' → R (some (.bool b)) s') → wpAny (model prog w) A.in1 (callSpecialIfBound? (.ref x) "__eq__" [.ref y]) R E s := fun {R} hR =>
      PySem.W.ifBound_K X I hs hf (wpAny_mono h (fun r s' ⟨b, e, q⟩ => by subst e; exact hR b s' q) fun _ _ z => z)
    repeat (first | with_reducible refine wpAny_cRoomFor hu1 ?_ | with_reducible refine key fun b s' q => ?_ | wp_step)
    exact ⟨_, rfl, q⟩
  unfold richCompare
  simp only [oneThing_ref]
  refine wpAny_holding (wpAny_bind (wpAny_cRoomFor (by omega) ?_))
  refine wpAny_bind (I.type.here (wpAny_bind (hb.here ?_)))
  have hi : cmpInfo .NotEq = (("!=", "__ne__", "__ne__") : String × Str × Str) := rfl
  split
  · rename_i q
    have e : PySem.W.subIn K tb (.ref C) = some false := by
      rcases Bool.or_eq_true_iff.mp hn with e | e
      · rw [beq_iff_eq.mp e] at q; simp at q
      · exact beq_iff_eq.mp e
    refine wpAny_bind ((PySem.W.looks_subIn X e).here ?_)
    simp only [Bool.false_eq_true, if_false]
    refine wpAny_bind (wpAny_mono one (fun r s' z => ?_) fun _ _ e => e)
    obtain ⟨v, rfl, hq⟩ := z
    exact wpAny_pure hq
  · refine wpAny_bind (wpAny_pure ?_)
    simp only [Bool.false_eq_true, if_false]
    refine wpAny_bind (wpAny_mono one (fun r s' z => ?_) fun _ _ e => e)
    obtain ⟨v, rfl, hq⟩ := z
    exact wpAny_pure hq
end

/-! ### == by data -/
/-- instances by their class's __eq__ -/
def eqObj (ms : Ms) (x y : D) (c : Cs) : Option (Bool × Cs) := match deref c x, deref c y with
  | some (.obj j _), some (.obj k _) => if j = k then match ms j with
    | some m => match m [x, y] c with
      | some (.bl b, c') => some (b, c')
      | _ => none
    | none => none else none
  | _, _ => none
/-- lists of instances that are equal, one by one -/
def eqObjs (ms : Ms) : List D → List D → Cs → Option Cs
  | [], [], c => some c
  | x :: xs, y :: ys, c => match eqObj ms x y c with
    | some (true, c1) => eqObjs ms xs ys c1
    | _ => none
  | _, _, _ => none
def eqM (ms : Ms) (x y : D) (c : Cs) : Option (Bool × Cs) := match pdn deep x, pdn deep y with
  | some p, some q => some (PyData.eqv p q, c)
  | _, _ => match x, y with
    | .lst xs, .lst ys => match eqObjs ms xs ys c with
      | some c1 => some (true, c1)
      | none => none
    | _, _ => eqObj ms x y c
def oEqM (ms : Ms) : F2 := fun x y c => match eqM ms x y c with | some (b, c1) => some (.bl b, c1) | none => none
def neM (ms : Ms) (x y : D) (c : Cs) : Option (Bool × Cs) := match pdn deep x, pdn deep y with
  | some p, some q => some (PyData.eqv p q, c)
  | _, _ => eqObj ms x y c
def oNeM (ms : Ms) : F2 := fun x y c => match neM ms x y c with | some (b, c1) => some (.bl (!b), c1) | none => none
/-- what != asks of a class -/
structure NeC (K : PySem.W.Frag) (C : Addr) : Prop where
  ne : PySem.W.findIn K (.ref C) "__ne__" = some (some (.builtin "object.__ne__"))
  ob : PySem.W.subIn K (.ref C) (.type "object") = some true
section
variable {T : Tb} {n : Nat} {X : Cx} {k0 : Nat} {ms : Ms}
/-- what lies behind a comparison -/
def BackS (T : Tb) (X : Cx) (pins : List (Addr × Obj)) (σ : L2.St) (G : Hp) (al : List Addr) (H : Hp) (c' : Cs) (s' : Shared) : Prop := ∃ G' al' H', Inv X pins σ H' s' ∧ Stp G al H G' al' H' ∧ HSt T G' al' c' H'
theorem BackS.trans {pins : List (Addr × Obj)} {σ : L2.St} {G H G1 H1 : Hp} {al al1 : List Addr} {c' : Cs} {s' : Shared} (l : Stp G al H G1 al1 H1) (b : BackS T X pins σ G1 al1 H1 c' s') : BackS T X pins σ G al H c' s' :=
  let ⟨G', al', H', i, l', h⟩ := b; ⟨G', al', H', i, l.trans l', h⟩
/-- the call of a method within a comparison, at A -/
theorem call_eq {k : Nat} {f : Addr} {fd : FuncData} {ps : List Str} {m : FC} (F : FnAt T k f fd ps m) (t : Tied T n X) {A : Around} (hr : Room k A) (hfr : A.frames = X.A.frames) {pins : List (Addr × Obj)} {s : Shared} {σ : L2.St} {H : Hp} (I : Inv X pins σ H s)
    {G : Hp} {al : List Addr} {c c' : Cs} {dx dy : D} {a b : Addr} {r : Bool} (hs : HSt T G al c H) (rx : Rp T G al dx (.ref a)) (ry : Rp T G al dy (.ref b)) (hm : m [dx, dy] c = some (.bl r, c')) :
    wpAny (model X.prog X.w) A (call (.ref f) [.ref a, .ref b]) (fun u s' => u = .bool r ∧ BackS T X pins σ G al H c' s') X.xe s := by
  have cal := F.call t hr (A := A) (fun _ _ z => ⟨by rw [hfr]; exact z.frames, z.mod, z.bs, z.bsz, z.funs, z.frf, z.hok, z.bare⟩) I hs (.cons rx (.cons ry .nil)) (us := [.ref a, .ref b]) (.cons rfl (.cons rfl .nil)) hm (Q := fun v H' => ∃ G' al', Stp G al H G' al' H' ∧ HSt T G' al' c' H' ∧ v = .bl r) fun G' al' H' v l hs' r' => ⟨G', al', l, hs', r'.bl_inv⟩
  refine wpAny_mono cal (fun u s' hq => ?_) fun _ _ z => z
  obtain ⟨w, H', I', rw', G', al', l, hs', rfl⟩ := hq
  exact ⟨rw', G', al', H', I', l, hs'⟩
theorem rc_obj (D0 : Duns T k0 "__eq__" ms) (t : Tied T n X) {A : Around} (sb : Sub X k0 A) {pins : List (Addr × Obj)} {s : Shared} {σ : L2.St} {H : Hp} (I : Inv X pins σ H s) {G : Hp} {al : List Addr} {c c' : Cs} {dx dy : D} {x y : V} {u v : Value} {r : Bool}
    (hs : HSt T G al c H) (rx : Rp T G al dx x) (ry : Rp T G al dy y) (ru : RelV x u) (rv : RelV y v) (h : eqObj ms dx dy c = some (r, c')) :
    wpAny (model X.prog X.w) A (richCompare .Eq u v) (fun u s' => u = .bool r ∧ BackS T X pins σ G al H c' s') X.xe s := by
  unfold eqObj at h
  split at h
  case h_2 => cases h
  case h_1 j ds k es e1 e2 =>
    split at h
    case isFalse => cases h
    case isTrue hj =>
      subst hj
      split at h
      case h_2 => cases h
      case h_1 m e3 =>
        split at h
        case h_2 => cases h
        case h_1 b c1 e4 =>
          cases h
          obtain ⟨ps, f, fd, F, h1, h2, h3⟩ := D0 j m e3
          obtain ⟨a, dx', fs, rfl, ha⟩ := rx.ins' hs e1
          obtain ⟨a2, dx2, fs2, rfl, ha2⟩ := ry.ins' hs e2
          obtain rfl : u = .ref a := ru
          obtain rfl : v = .ref a2 := rv
          obtain ⟨ox, od, J, _⟩ := obj_at I ha
          obtain ⟨ox2, od2, J2, _⟩ := obj_at I ha2
          obtain ⟨_, hF⟩ := I.fr
          refine PySem.W.cmp_K (op := .Eq) (tb := .ref (T.cl j)) sb.room.units0 hF I.ok.mod.kin J J2.type (by simp [PySem.W.notFirst]) (by rw [t.K]; exact h1) (by rw [t.K]; exact h2) (wpAny_mono (call_eq F t sb.room sb.fr I hs rx ry e4) (fun w s' z => ?_) fun _ _ z => z)
          obtain ⟨rfl, z⟩ := z
          exact ⟨rfl, z⟩
theorem eqb_obj (D0 : Duns T k0 "__eq__" ms) (t : Tied T n X) {A : Around} (sb : Sub X k0 A) {pins : List (Addr × Obj)} {s : Shared} {σ : L2.St} {H : Hp} (I : Inv X pins σ H s) {G : Hp} {al : List Addr} {c c' : Cs} {dx dy : D} {x y : V} {u v : Value}
    (hs : HSt T G al c H) (rx : Rp T G al dx x) (ry : Rp T G al dy y) (ru : RelV x u) (rv : RelV y v) (h : eqObj ms dx dy c = some (true, c')) (hc : c' = c) :
    wpAny (model X.prog X.w) A (eqBool u v) (fun u s' => u = true ∧ BackS T X pins σ G al H c' s') X.xe s := by
  have h0 := h
  unfold eqObj at h
  split at h
  case h_2 => cases h
  case h_1 j ds k es e1 e2 =>
    obtain ⟨a, dx', fs, ex, ha⟩ := rx.ins' hs e1
    obtain ⟨a2, dx2, fs2, ey, ha2⟩ := ry.ins' hs e2
    have z := rc_obj D0 t sb I hs rx ry ru rv h0
    subst ex; subst ey
    obtain rfl : u = .ref a := ru
    obtain rfl : v = .ref a2 := rv
    by_cases hab : a = a2
    · subst hab
      refine SeqAt.EqAt.same (A := A) (s := s) (.ref a) X.prog X.w X.xe _ ⟨rfl, ?_⟩
      rw [hc]
      exact ⟨G, al, H, I, .refl _ _ _, hs⟩
    · exact GQ.eqBool_refG hab (wpAny_mono z (fun r s' ⟨e, q⟩ => ⟨true, e, rfl, q⟩) fun _ _ z => z)
theorem eqObj_refs {G H : Hp} {al : List Addr} {c c' : Cs} {dx dy : D} {x y : V} {r : Bool} (hs : HSt T G al c H) (rx : Rp T G al dx x) (ry : Rp T G al dy y) (h : eqObj ms dx dy c = some (r, c')) : ∃ a b, x = .ref a ∧ y = .ref b := by
  unfold eqObj at h
  split at h
  case h_2 => cases h
  case h_1 j ds k es e1 e2 =>
    obtain ⟨a, dx', fs, ex, ha⟩ := rx.ins' hs e1
    obtain ⟨a2, dx2, fs2, ey, ha2⟩ := ry.ins' hs e2
    exact ⟨a, a2, ex, ey⟩
theorem eqObjs_len : ∀ {xs ys : List D} {c c' : Cs}, eqObjs ms xs ys c = some c' → xs.length = ys.length
  | [], [], _, _, _ => rfl
  | x :: xs, y :: ys, c, c', h => by
    unfold eqObjs at h
    split at h
    case h_1 c1 e => rw [List.length_cons, List.length_cons, eqObjs_len h]
    case h_2 => cases h
  | [], _ :: _, _, _, h => by simp [eqObjs] at h
  | _ :: _, [], _, _, h => by simp [eqObjs] at h
/-- the i-th pair of lists that are equal -/
theorem eqObjs_at : ∀ {xs ys : List D} {c c' : Cs} (i : Nat), eqObjs ms xs ys c = some c' → i ≤ xs.length → ∃ ci, eqObjs ms (xs.drop i) (ys.drop i) ci = some c'
  | xs, ys, c, c', 0, h, _ => ⟨c, h⟩
  | [], _, _, _, i + 1, _, hi => by simp at hi
  | x :: xs, [], c, c', i + 1, h, hi => by simp [eqObjs] at h
  | x :: xs, y :: ys, c, c', i + 1, h, hi => by
    unfold eqObjs at h
    split at h
    case h_1 c1 e => exact eqObjs_at i h (by simpa using hi)
    case h_2 => cases h
theorem rc_list (D0 : Duns T k0 "__eq__" ms) (t : Tied T n X) {A : Around} (sb : Sub X (k0 + 1) A) {pins : List (Addr × Obj)} {s : Shared} {σ : L2.St} {H : Hp} (I : Inv X pins σ H s) {G : Hp} {al : List Addr} {c c' : Cs} {xs ys : List D} {x y : V} {u v : Value}
    (hs : HSt T G al c H) (rx : Rp T G al (.lst xs) x) (ry : Rp T G al (.lst ys) y) (ru : RelV x u) (rv : RelV y v) (h : eqObjs ms xs ys c = some c') (pure_ : ∀ x y c b c', eqObj ms x y c = some (b, c') → c' = c) :
    wpAny (model X.prog X.w) A (richCompare .Eq u v) (fun u s' => u = .bool true ∧ BackS T X pins σ G al H c' s') X.xe s := by
  obtain ⟨a, vs, rfl, ga, la⟩ := rx.lst_inv
  obtain ⟨b, ws, rfl, gb, lb⟩ := ry.lst_inv
  obtain rfl : u = .ref a := ru
  obtain rfl : v = .ref b := rv
  have hl := eqObjs_len h
  refine GQ.rc_listG (N := xs.length) sb.room.units0 (fun i s' => ∃ G1 al1 H1 ci, Inv X pins σ H1 s' ∧ Stp G al H G1 al1 H1 ∧ HSt T G1 al1 ci H1 ∧ eqObjs ms (xs.drop i) (ys.drop i) ci = some c') (fun i s' q => ?_) (fun s' q => ?_) ⟨G, al, H, c, I, .refl _ _ _, hs, h⟩
  · obtain ⟨G1, al1, H1, ci, I1, l1, hs1, e1⟩ := q
    have ha1 : H1 a = some (.lst vs) := hs1.ex _ _ (l1.le.g _ _ ga)
    have hb1 : H1 b = some (.lst ws) := hs1.ex _ _ (l1.le.g _ _ gb)
    obtain ⟨z, its, k, r, e⟩ := I1.hok a _ ha1
    obtain ⟨z2, its2, k2, r2, e2⟩ := I1.hok b _ hb1
    refine ⟨its.toArray, its2.toArray, k, k2, e, e2, by rw [List.size_toArray, ← r.length, la.length], by rw [List.size_toArray, ← r2.length, ← lb.length]; exact hl.symm, fun h1 h2 => ?_⟩
    have i1 : i < its.length := by simpa using h1
    have i2 : i < its2.length := by simpa using h2
    have j1 : i < xs.length := by rw [la.length, r.length]; exact i1
    have j2 : i < ys.length := by rw [lb.length, r2.length]; exact i2
    obtain ⟨w1, hw1, rw1⟩ := la.get (List.getElem?_eq_getElem j1)
    obtain ⟨w2, hw2, rw2⟩ := lb.get (List.getElem?_eq_getElem j2)
    obtain ⟨u1, hu1, ru1⟩ := r.get hw1
    obtain ⟨u2, hu2, ru2⟩ := r2.get hw2
    have g1 : its.toArray[i] = u1 := by
      rw [List.getElem?_eq_getElem i1] at hu1
      simpa using Option.some.inj hu1
    have g2 : its2.toArray[i] = u2 := by
      rw [List.getElem?_eq_getElem i2] at hu2
      simpa using Option.some.inj hu2
    rw [g1, g2]
    rw [List.drop_eq_getElem_cons j1, List.drop_eq_getElem_cons j2] at e1
    unfold eqObjs at e1
    split at e1
    case h_2 => cases e1
    case h_1 c1 e3 =>
      refine wpAny_mono (eqb_obj D0 t sb.in1 I1 hs1 (rw1.mono l1.le) (rw2.mono l1.le) ru1 ru2 e3 (pure_ _ _ _ _ _ e3)) (fun r s2 ⟨e4, G2, al2, H2, I2, l2, hs2⟩ => ⟨e4, G2, al2, H2, c1, I2, l1.trans l2, hs2, e1⟩) fun _ _ z => z
  · obtain ⟨G1, al1, H1, ci, I1, l1, hs1, e1⟩ := q
    have e2 : ys.drop xs.length = [] := by rw [hl]; exact List.drop_length
    rw [List.drop_length, e2] at e1
    simp only [eqObjs] at e1
    cases e1
    exact ⟨rfl, G1, al1, H1, I1, l1, hs1⟩
/-- the table's methods leave the cells -/
def Still (ms : Ms) : Prop := ∀ x y c b c', eqObj ms x y c = some (b, c') → c' = c
theorem op_oEqM (D0 : Duns T k0 "__eq__" ms) (st : Still ms) (hk : k0 + 1 ≤ n) (t : Tied T n X) : OpR X (compareOp .Eq) (rP T (oEqM ms)) := by
  intro pins s σ H x y u v Q I ru rv h
  obtain ⟨G, al, c, dx, dy, d, c', hs, rx, ry, hf, q⟩ := h
  unfold oEqM at hf
  split at hf
  case h_2 => cases hf
  case h_1 b c1 e1 =>
    cases hf
    have fin : ∀ (w : Value) (s' : Shared), (w = .bool b ∧ BackS T X pins σ G al H c' s') → EP X pins σ Q w s' := fun w s' ⟨e, G', al', H', I', l, hs'⟩ => ⟨.bl b, H', I', by rw [e]; rfl, q G' al' H' _ l hs' (.bl b)⟩
    have sb : Sub X (k0 + 1) X.A := ⟨t.room.mono hk, rfl⟩
    unfold eqM at e1
    split at e1
    case h_1 p p' h1 h2 =>
      cases e1
      exact op_eqD t.room.units pins s σ H x y u v Q I ru rv ⟨p, p', by rw [t.K]; exact Rq.dp hs h1 (.inl rx), by rw [t.K]; exact Rq.dp hs h2 (.inl ry), pdn_shaped h1, pdn_shaped h2, q.now hs (.bl _)⟩
    case h_2 =>
      split at e1
      case h_1 xs ys =>
        split at e1
        case h_2 => cases e1
        case h_1 c2 e2 =>
          cases e1
          exact wpAny_mono (rc_list D0 t sb I hs rx ry ru rv e2 st) fin fun _ _ z => z
      case h_2 => exact wpAny_mono (rc_obj D0 t (sb.mono (Nat.le_succ _)) I hs rx ry ru rv e1) fin fun _ _ z => z
theorem op_oNeM (D0 : Duns T k0 "__eq__" ms) (hne : ∀ j m, ms j = some m → NeC T.K (T.cl j)) (hk : k0 + 1 ≤ n) (t : Tied T n X) : OpR X (compareOp .NotEq) (rP T (oNeM ms)) := by
  intro pins s σ H x y u v Q I ru rv h
  obtain ⟨G, al, c, dx, dy, d, c', hs, rx, ry, hf, q⟩ := h
  unfold oNeM at hf
  split at hf
  case h_2 => cases hf
  case h_1 b c1 e1 =>
    cases hf
    have sb : Sub X (k0 + 1) X.A := ⟨t.room.mono hk, rfl⟩
    unfold neM at e1
    split at e1
    case h_1 p p' h1 h2 =>
      cases e1
      exact op_neD t.room.units pins s σ H x y u v Q I ru rv ⟨p, p', by rw [t.K]; exact Rq.dp hs h1 (.inl rx), by rw [t.K]; exact Rq.dp hs h2 (.inl ry), pdn_shaped h1, pdn_shaped h2, q.now hs (.bl _)⟩
    case h_2 =>
      unfold eqObj at e1
      split at e1
      case h_2 => cases e1
      case h_1 j ds k es e1' e2 =>
        split at e1
        case isFalse => cases e1
        case isTrue hj =>
          subst hj
          split at e1
          case h_2 => cases e1
          case h_1 m e3 =>
            split at e1
            case h_2 => cases e1
            case h_1 b' c1 e4 =>
              cases e1
              obtain ⟨ps, f, fd, F, h1, h2, h3⟩ := D0 j m e3
              obtain ⟨a, dx', fs, rfl, ha⟩ := rx.ins' hs e1'
              obtain ⟨a2, dx2, fs2, rfl, ha2⟩ := ry.ins' hs e2
              obtain rfl : u = .ref a := ru
              obtain rfl : v = .ref a2 := rv
              obtain ⟨ox, od, J, _⟩ := obj_at I ha
              obtain ⟨ox2, od2, J2, _⟩ := obj_at I ha2
              obtain ⟨_, hF⟩ := I.fr
              have N := hne j m e3
              have un : X.A.units + 1 < cLine := by have := t.room.un; omega
              refine ne_K un hF I.ok.mod.kin J J2.type (by simp [PySem.W.notFirst]) (by rw [t.K]; exact N.ne) (by rw [t.K]; exact N.ob) (by rw [t.K]; exact h1) (by rw [t.K]; exact h2) (wpAny_mono (call_eq F t sb.in1.room sb.in1.fr I hs rx ry e4) (fun w s' ⟨e, G', al', H', I', l, hs'⟩ => ⟨b, e, .bl (!b), H', I', rfl, q G' al' H' _ l hs' (.bl (!b))⟩) fun _ _ z => z)
end

/-! ### the call of an instance -/
theorem Rp.ref_of {T : Tb} {G : Hp} {al : List Addr} {c : Cs} {d : D} {v : V} {j : Nat} {ds : List D} (r : Rp T G al d v) (h : deref c d = some (.obj j ds)) : ∃ a, v = .ref a := by
  cases r with
  | box g b => exact ⟨_, rfl⟩
  | cell h => exact ⟨_, rfl⟩
  | tup _ _ => exact ⟨_, rfl⟩
  | scr _ => exact ⟨_, rfl⟩
  | cls _ => exact ⟨_, rfl⟩
  | _ => cases h
section
variable {T : Tb} {n k0 : Nat} {X : Cx} {ms : Ms} {pos : Pos} {fe0 e : Expr} {es : List Expr} {fo : FE} {fa : FA}
/-- o(..): by the class of o -/
def fInst (ms : Ms) (fo : FE) (fa : FA) : FE := fun env c => match fo env c with
  | some (d, c1) => match fa env c1 with
    | some (ds, c2) => match deref c2 d with
      | some (.obj j _) => match ms j with
        | some m => m (d :: ds) c2
        | none => none
      | _ => none
    | none => none
  | none => none
theorem tr_inst (D0 : Duns T k0 "__call__" ms) (ho : TrE T n X fe0 fo) (ha : TrA T n X (e :: es) fa) (hk : k0 ≤ n := by decide)
    (ht : eval (.Call fe0 (e :: es) [] pos) X.env = (do callWith pos (← eval fe0 X.env) [] (backTo pos (starEach (e :: es) X.env)) (backToKw pos (keywordEach [] X.env))) := by rfl)
    (he : starEach (e :: es) X.env = (false, eval e X.env) :: starEach es X.env := by rfl) (hpl : (backTo pos (starEach es X.env)).any (·.1) = false := by rfl) : TrE T n X (.Call fe0 (e :: es) [] pos) (fInst ms fo fa) := by
  refine ⟨fun t G al c env σ H Q d c' hs he' hf q => fun pins s I => ?_⟩
  unfold fInst at hf
  split at hf
  case h_2 => cases hf
  case h_1 d1 c1 e1 =>
    split at hf
    case h_2 => cases hf
    case h_1 ds c2 e2 =>
      split at hf
      case h_2 => cases hf
      case h_1 j ds0 e3 =>
        split at hf
        case h_2 => cases hf
        case h_1 m e4 =>
          obtain ⟨ps, f, fd, F, h1, h2, h3⟩ := D0 j m e4
          -- the instance is there from the start
          have first : SemE X fe0 σ H fun v H1 => (∃ a, v = .ref a) ∧ SemA X (e :: es) σ H1 fun vs H2 => ∃ (a dx : Addr) (fs : List (Str × V)) (G2 : Hp) (al2 : List Addr), v = .ref a ∧ H2 a = some (.ins (T.cl j) dx fs) ∧ Stp G al H G2 al2 H2 ∧ HSt T G2 al2 c2 H2 ∧ RpL T G2 al2 (d1 :: ds) (v :: vs) :=
            ho.run t G al c env σ H _ d1 c1 hs he' e1 fun G1 al1 H1 v l1 hs1 r1 => ⟨r1.ref_of e3, ha.run t G1 al1 c1 env σ H1 _ ds c2 hs1 (he'.mono l1) e2 fun G2 al2 H2 vs l2 hs2 r2 => by
              have r1' := r1.mono l2.le
              obtain ⟨a, dx, fs, ev, hh⟩ := r1'.ins' hs2 e3
              exact ⟨a, dx, fs, G2, al2, ev, hh, l1.trans l2, hs2, .cons r1' r2⟩⟩
          refine Call_ (thn (first pins s I) fun u s1 ⟨y, H1, I1, ry, ⟨a0, ey0⟩, q1⟩ => ?_) ht
          subst ey0
          obtain rfl : u = .ref a0 := ry
          have fin : wpAny (model X.prog X.w) X.A (spliced (backTo pos (starEach (e :: es) X.env))) (fun us s2 => ∃ a, Value.ref a0 = .ref a ∧ (∃ C ox od, PySem.W.InstAt s2.heap a ox C od ∧ ox.data = .plain) ∧ wpAny (model X.prog X.w) X.A (call (.ref a) ([] ++ us)) (EP X pins σ Q) X.xe s2) X.xe s1 := by
            refine thn (q1 pos pins s1 I1) fun us s2 ⟨vs, H2, I2, r, a, dx, fs, G2, al2, ey, hh, l2, hs2, rl⟩ => ?_
            cases ey
            obtain ⟨ox, od, J, hd⟩ := obj_at I2 hh
            refine ⟨a0, rfl, ⟨T.cl j, ox, od, J, hd⟩, ?_⟩
            have hsp : SpS T ps.length m (.ref a0 :: vs) H2 Q E0 := F.sp hs2 rl hf fun G' al' H' v' l' => q G' al' H' v' (l2.trans l')
            have Fo := t.fn F.ok
            have ro : Room k0 X.A := t.room.mono hk
            have cR : codeAny (model X.prog X.w) X.A (.call (.ref f) ⟨.ref a0 :: us, []⟩) (fun r s' => match r with | .ok (.ret v) => EP X pins σ Q v s' | .ok _ => False | .error e => X.xe e s') s2 := by
              have rv : Vals (.ref a0 :: vs) (.ref a0 :: us) := .cons rfl r
              have hl : (Value.ref a0 :: us).length = ps.length := by rw [← rv.length]; exact Fo.len _ _ _ _ hsp
              refine codeAny_mono (Fo.run X.A X.stack s2 H2 ⟨.ref a0 :: us, []⟩ (.ref a0 :: us) (.ref a0 :: vs) Q E0 ro I2.env0 (by
                have := F.b s2 (.ref a0 :: us) (by rw [← t.K]; exact I2.kIn) (by simpa using hl)
                simpa using this) rv hsp) fun r s' hq => ?_
              cases r with
              | error e => exact (pass0 (X := X)) pins σ H2 s2 e s' I2 hq
              | ok fl =>
                cases fl with
                | ret u => exact I2.after hq
                | next => exact False.elim hq
                | brk => exact False.elim hq
                | cont => exact False.elim hq
            exact wpAny_call (PySem.W.kco_code I2.kIn J hd (by rw [t.K]; exact h1) (by rw [t.K]; exact h2) (by rw [t.K]; exact h3) cR)
          refine StX.callO_with (wpAny_mono fin (fun us s2 ⟨a', e', h1, h2⟩ => ?_) fun _ _ z => z) he hpl
          cases e'
          exact ⟨h1, h2⟩
end
end Pd
set_option Elab.async false
set_option linter.all false
set_option maxRecDepth 100000
/-! Pd10: built-in functions by data. -/
namespace Pd
open PySem PySem.Spec PyProof.Rows L2

section
variable {T : Tb} {n : Nat} {X : Cx} {pos p : Pos} {e : Expr} {es : List Expr} {fa : FA} {x : Str} {bid t0 : String} {g : FC}
/-! ### f(..), f a built-in function or type -/
theorem tr_cb (hc : Tied T n X → CallR X (.builtin bid) (rC T g)) (ha : TrQA T n X (e :: es) fa) (hm : X.mg x = none) (hv : bootBuiltins x = some (.builtin bid) := by decide +kernel) (hg : Gl X x := by rfl) (hn : x ≠ "__name__" := by decide) (hdb : (x == ("__debug__" : Str)) = false := by decide)
    (he : starEach (e :: es) X.env = (false, eval e X.env) :: starEach es X.env := by rfl) (hpl : (backTo pos (starEach es X.env)).any (·.1) = false := by rfl) : TrE T n X (.Call (.Name x p) (e :: es) [] pos) (fCall g fa) := by
  refine ⟨fun t G al c env σ H Q d c' hs he' hf q => ofE (pe_callB (hc t) hg hm hv (paS (e :: es)) hn hdb he hpl) ?_⟩
  unfold fCall at hf
  split at hf
  case h_2 => cases hf
  case h_1 ds c1 e1 => exact ha.run t G al c env σ H _ ds c1 hs he' e1 fun G1 al1 H1 vs l1 hs1 r1 => ⟨G1, al1, c1, ds, d, c', hs1, r1, hf, fun G' al' H' v' l' => q G' al' H' v' (l1.trans l')⟩
theorem tr_ct (hc : Tied T n X → CallR X (.type t0) (rC T g)) (ha : TrQA T n X (e :: es) fa) (hm : X.mg x = none) (hv : bootBuiltins x = some (.type t0) := by decide +kernel) (hg : Gl X x := by rfl) (hn : x ≠ "__name__" := by decide) (hdb : (x == ("__debug__" : Str)) = false := by decide)
    (he : starEach (e :: es) X.env = (false, eval e X.env) :: starEach es X.env := by rfl) (hpl : (backTo pos (starEach es X.env)).any (·.1) = false := by rfl) : TrE T n X (.Call (.Name x p) (e :: es) [] pos) (fCall g fa) := by
  refine ⟨fun t G al c env σ H Q d c' hs he' hf q => ofE (pe_callTy (hc t) hg hm hv (paS (e :: es)) hn hdb he hpl) ?_⟩
  unfold fCall at hf
  split at hf
  case h_2 => cases hf
  case h_1 ds c1 e1 => exact ha.run t G al c env σ H _ ds c1 hs he' e1 fun G1 al1 H1 vs l1 hs1 r1 => ⟨G1, al1, c1, ds, d, c', hs1, r1, hf, fun G' al' H' v' l' => q G' al' H' v' (l1.trans l')⟩
theorem tn_cb (hc : Tied T n X → CallR X (.builtin bid) (rCN T g)) (ha : TrQA T n X (e :: es) fa) (hm : X.mg x = none) (hv : bootBuiltins x = some (.builtin bid) := by decide +kernel) (hg : Gl X x := by rfl) (hn : x ≠ "__name__" := by decide) (hdb : (x == ("__debug__" : Str)) = false := by decide)
    (he : starEach (e :: es) X.env = (false, eval e X.env) :: starEach es X.env := by rfl) (hpl : (backTo pos (starEach es X.env)).any (·.1) = false := by rfl) : TrN T n X (.Call (.Name x p) (e :: es) [] pos) (fCall g fa) := by
  refine ⟨fun t G al c env σ H Q d c' hs he' hf q => ofE (pe_callB (hc t) hg hm hv (paS (e :: es)) hn hdb he hpl) ?_⟩
  unfold fCall at hf
  split at hf
  case h_2 => cases hf
  case h_1 ds c1 e1 => exact ha.run t G al c env σ H _ ds c1 hs he' e1 fun G1 al1 H1 vs l1 hs1 r1 => ⟨G1, al1, c1, ds, d, c', hs1, r1, hf, fun G' al' H' a o l' hs' hg' ha' hp0 => q G' al' H' a o (l1.trans l') hs' hg' ha' (fresh_before hs hs1 l1 hp0)⟩
theorem tn_ct (hc : Tied T n X → CallR X (.type t0) (rCN T g)) (ha : TrQA T n X (e :: es) fa) (hm : X.mg x = none) (hv : bootBuiltins x = some (.type t0) := by decide +kernel) (hg : Gl X x := by rfl) (hn : x ≠ "__name__" := by decide) (hdb : (x == ("__debug__" : Str)) = false := by decide)
    (he : starEach (e :: es) X.env = (false, eval e X.env) :: starEach es X.env := by rfl) (hpl : (backTo pos (starEach es X.env)).any (·.1) = false := by rfl) : TrN T n X (.Call (.Name x p) (e :: es) [] pos) (fCall g fa) := by
  refine ⟨fun t G al c env σ H Q d c' hs he' hf q => ofE (pe_callTy (hc t) hg hm hv (paS (e :: es)) hn hdb he hpl) ?_⟩
  unfold fCall at hf
  split at hf
  case h_2 => cases hf
  case h_1 ds c1 e1 => exact ha.run t G al c env σ H _ ds c1 hs he' e1 fun G1 al1 H1 vs l1 hs1 r1 => ⟨G1, al1, c1, ds, d, c', hs1, r1, hf, fun G' al' H' a o l' hs' hg' ha' hp0 => q G' al' H' a o (l1.trans l') hs' hg' ha' (fresh_before hs hs1 l1 hp0)⟩
theorem callr_of {f : Value} {r : List V → Hp → VK → Prop} (h : ∀ xs H Q, r xs H Q → ∃ r' : List V → Hp → VK → Prop, CallR X f r' ∧ r' xs H Q) : CallR X f r :=
  fun pins s σ H xs us Q I rv hr => let ⟨_, o, q⟩ := h xs H Q hr; o pins s σ H xs us Q I rv q
theorem rC_of {f : Value} (h : ∀ (G : Hp) (al : List Addr) (c : Cs) (H : Hp) (ds : List D) (d : D) (c' : Cs) (xs : List V) (Q : VK), HSt T G al c H → RqL T G al H ds xs → g ds c = some (d, c') → Aft T G al H d c' Q → ∃ r' : List V → Hp → VK → Prop, CallR X f r' ∧ r' xs H Q) : CallR X f (rC T g) :=
  callr_of fun xs H Q ⟨G, al, c, ds, d, c', hs, rl, hg, q⟩ => h G al c H ds d c' xs Q hs rl hg q
theorem rCN_of {f : Value} (h : ∀ (G : Hp) (al : List Addr) (c : Cs) (H : Hp) (ds : List D) (d : D) (c' : Cs) (xs : List V) (Q : VK), HSt T G al c H → RqL T G al H ds xs → g ds c = some (d, c') → AftN T G al H d c' Q → ∃ r' : List V → Hp → VK → Prop, CallR X f r' ∧ r' xs H Q) : CallR X f (rCN T g) :=
  callr_of fun xs H Q ⟨G, al, c, ds, d, c', hs, rl, hg, q⟩ => h G al c H ds d c' xs Q hs rl hg q
theorem AftN.new {G H : Hp} {al : List Addr} {c : Cs} {d : D} {Q : VK} {q0 : Addr} {o : HO} (hs : HSt T G al c H) (q : AftN T G al H d c Q) (hp : H q0 = none) (b : Bx T G al q0 o d) : Q (.ref q0) (upd H q0 o) :=
  q G al _ q0 o (.junk hp) (hs.junk hp) (hs.free hp) (hs.apart hp) hp upd_same b

/-! ### ints -/
def bAbs : FC := fun ds c => match ds with
  | [.int i] => some (.int (if i < 0 then -i else i), c)
  | _ => none
theorem cr_bAbs (t : Tied T n X) : CallR X (.builtin "abs") (rC T bAbs) := by
  refine rC_of fun G al c H ds d c' xs Q hs rl hg q => ?_
  unfold bAbs at hg
  split at hg
  case h_2 => cases hg
  case h_1 i => cases hg; exact ⟨_, call_abs, i, rl.int1, q.now hs (.int _)⟩
def bInt : FC := fun ds c => match ds with
  | [.int i] => some (.int i, c)
  | [.bl b] => some (.int (if b = true then 1 else 0), c)
  | _ => none
theorem cr_bInt (t : Tied T n X) : CallR X (.type "int") (rC T bInt) := by
  refine rC_of fun G al c H ds d c' xs Q hs rl hg q => ?_
  unfold bInt at hg
  split at hg
  case h_3 => cases hg
  case h_1 i => cases hg; exact ⟨_, call_int1, .inl ⟨i, rl.int1, q.now hs (.int _)⟩⟩
  case h_2 b =>
    cases hg
    obtain ⟨v, rfl, r⟩ := rl.one
    rw [r.bl_inv]
    exact ⟨_, call_int1, .inr ⟨b, rfl, q.now hs (.int _)⟩⟩
/-- the ints of a list or a tuple -/
def intsOf (c : Cs) (d : D) : Option (List Int) := match seqOf c d with
  | some ds => ints? ds
  | none => none
theorem Rq.intSeq {G H : Hp} {al : List Addr} {c : Cs} {d : D} {ns : List Int} {v : V} (hs : HSt T G al c H) (r : Rq T G al H d v) (h : intsOf c d = some ns) : ∃ a, v = .ref a ∧ (SqL T.K H a (ns.map V.int) ∨ SqT T.K H a (ns.map V.int)) := by
  unfold intsOf at h
  split at h
  case h_2 => cases h
  case h_1 ds e =>
    obtain ⟨a, vs, e1, e2, rl⟩ := r.seq' hs e
    have := ints?_map h
    subst this
    rw [rl.ints] at e2
    exact ⟨a, e1, e2⟩
def bMax : FC := fun ds c => match ds with
  | [.int i, .int j] => some (.int (if j > i then j else i), c)
  | [d] => match intsOf c d with
    | some (k :: ks) => some (.int (ks.foldl max k), c)
    | _ => none
  | _ => none
def bMin : FC := fun ds c => match ds with
  | [.int i, .int j] => some (.int (if j < i then j else i), c)
  | [d] => match intsOf c d with
    | some (k :: ks) => some (.int (ks.foldl min k), c)
    | _ => none
  | _ => none
def bSum : FC := fun ds c => match ds with
  | [d] => match intsOf c d with
    | some ks => some (.int ks.sum, c)
    | _ => none
  | _ => none
theorem reads_ints {h : Heap} : ∀ {ns : List Int} {us : List Value}, Vals (ns.map V.int) us → ReadsAll h us (ns.map PyData.int) (ns.map fun _ => ([] : List Addr)).flatten
  | [], _, .nil => .nil
  | k :: ns, _, .cons r t => by
    obtain ⟨tk, rfl⟩ := r
    exact .cons (Reads.int k tk) (reads_ints t)
theorem alike_allints (ns : List Int) : PySem.W.AllAlike (ns.map PyData.int) := PySem.W.AllAlike.of (enc := PyData.int) fun _ _ => by simp [PySem.W.alike]
theorem Reads.int_inv {h : Heap} {u : Value} {i : Int} {as : List Addr} (r : Reads h u (.int i) as) : ∃ t, u = .int i t := by
  cases r
  exact ⟨_, rfl⟩
theorem alikeAll_ints (ns : List Int) : PySem.W.AlikeAll (ns.map PyData.int) := ⟨fun x hx y hy => by
  obtain ⟨a, _, rfl⟩ := List.mem_map.mp hx
  obtain ⟨b, _, rfl⟩ := List.mem_map.mp hy
  simp [PySem.W.alike], fun x hx => by
  obtain ⟨a, _, rfl⟩ := List.mem_map.mp hx
  simp⟩
theorem depthAll_ints (ns : List Int) : PyData.depthAll (ns.map PyData.int) = 0 := by
  induction ns with
  | nil => rfl
  | cons a r ih => simp [PyData.depthAll, PyData.depth, ih]
theorem cr_bMax (t : Tied T n X) : CallR X (.builtin "max") (rC T bMax) := by
  intro pins s σ H xs us Q I rv h
  obtain ⟨G, al, c, ds, d, c', hs, rl, hg, q⟩ := h
  unfold bMax at hg
  split at hg
  case h_1 i j => cases hg; exact call_max2 t.calm pins s σ H xs us Q I rv ⟨i, j, rl.int2, q.now hs (.int _)⟩
  case h_2 d0 =>
    split at hg
    case h_2 => cases hg
    case h_1 k ks e =>
      cases hg
      obtain ⟨v, rfl, r⟩ := rl.one
      obtain ⟨a, rfl, hv⟩ := r.intSeq hs e
      rw [Vals.ref1 rv]
      rw [← t.K] at hv
      have hu : X.A.units + 1 + PyData.depthAll (PyData.int k :: ks.map PyData.int) < cLine := by
        have h0 : PyData.depthAll (PyData.int k :: ks.map PyData.int) = 0 := depthAll_ints (k :: ks)
        have := t.room.un
        omega
      have ha : PySem.W.AlikeAll (PyData.int k :: ks.map PyData.int) := alikeAll_ints (k :: ks)
      have fin : ∀ (i : Nat) (v : Value) (h' : Heap) (tk : Nat) (bs : List Addr), Reads h' v (PySem.W.maxD (.int k) (ks.map .int)) bs → (∀ b o, s.heap.get? b = some o → h'.get? b = some o) → EP X pins σ Q v { s with heap := h', toks := tk } := by
        intro i v h' tk bs hr hk
        rw [PySem.W.maxD_ints] at hr
        obtain ⟨tk', rfl⟩ := Reads.int_inv hr
        exact ⟨.int _, H, I.kept hk, ⟨_, rfl⟩, q.now hs (.int _)⟩
      rcases hv with hv | hv
      · obtain ⟨its, rw', hl, _⟩ := I.list hv
        exact PySem.W.max_list_data (x := .int k) (xs := ks.map .int) (I.ok.hd t.calm) hl.isList (reads_ints (ns := k :: ks) rw') ha hu fun i v h' tk bs _ hr hk => fin i v h' tk bs hr hk
      · obtain ⟨its, rw', hl, _⟩ := I.tuple hv
        exact PySem.W.max_tuple_data (x := .int k) (xs := ks.map .int) (I.ok.hd t.calm) hl (reads_ints (ns := k :: ks) rw') ha hu fun i v h' tk bs _ hr hk => fin i v h' tk bs hr hk
  case h_3 => cases hg
theorem cr_bMin (t : Tied T n X) : CallR X (.builtin "min") (rC T bMin) := by
  intro pins s σ H xs us Q I rv h
  obtain ⟨G, al, c, ds, d, c', hs, rl, hg, q⟩ := h
  unfold bMin at hg
  split at hg
  case h_1 i j => cases hg; exact call_min2 t.calm pins s σ H xs us Q I rv ⟨i, j, rl.int2, q.now hs (.int _)⟩
  case h_2 d0 =>
    split at hg
    case h_2 => cases hg
    case h_1 k ks e =>
      cases hg
      obtain ⟨v, rfl, r⟩ := rl.one
      obtain ⟨a, rfl, hv⟩ := r.intSeq hs e
      rw [Vals.ref1 rv]
      rw [← t.K] at hv
      have hu : X.A.units + 1 + PyData.depthAll (PyData.int k :: ks.map PyData.int) < cLine := by
        have h0 : PyData.depthAll (PyData.int k :: ks.map PyData.int) = 0 := depthAll_ints (k :: ks)
        have := t.room.un
        omega
      have ha : PySem.W.AlikeAll (PyData.int k :: ks.map PyData.int) := alikeAll_ints (k :: ks)
      have fin : ∀ (i : Nat) (v : Value) (h' : Heap) (tk : Nat) (bs : List Addr), Reads h' v (PySem.W.minD (.int k) (ks.map .int)) bs → (∀ b o, s.heap.get? b = some o → h'.get? b = some o) → EP X pins σ Q v { s with heap := h', toks := tk } := by
        intro i v h' tk bs hr hk
        rw [PySem.W.minD_ints] at hr
        obtain ⟨tk', rfl⟩ := Reads.int_inv hr
        exact ⟨.int _, H, I.kept hk, ⟨_, rfl⟩, q.now hs (.int _)⟩
      rcases hv with hv | hv
      · obtain ⟨its, rw', hl, _⟩ := I.list hv
        exact PySem.W.min_list_data (x := .int k) (xs := ks.map .int) (I.ok.hd t.calm) hl.isList (reads_ints (ns := k :: ks) rw') ha hu fun i v h' tk bs _ hr hk => fin i v h' tk bs hr hk
      · obtain ⟨its, rw', hl, _⟩ := I.tuple hv
        exact PySem.W.min_tuple_data (x := .int k) (xs := ks.map .int) (I.ok.hd t.calm) hl (reads_ints (ns := k :: ks) rw') ha hu fun i v h' tk bs _ hr hk => fin i v h' tk bs hr hk
  case h_3 => cases hg
theorem cr_bSum (t : Tied T n X) : CallR X (.builtin "sum") (rC T bSum) := by
  intro pins s σ H xs us Q I rv h
  obtain ⟨G, al, c, ds, d, c', hs, rl, hg, q⟩ := h
  unfold bSum at hg
  split at hg
  case h_2 => cases hg
  case h_1 d0 =>
    split at hg
    case h_2 => cases hg
    case h_1 ks e =>
      cases hg
      obtain ⟨v, rfl, r⟩ := rl.one
      obtain ⟨a, rfl, hv⟩ := r.intSeq hs e
      rw [← t.K] at hv
      rcases hv with hv | hv
      · exact cr_sum t.calm pins s σ H _ us Q I rv ⟨a, ks, rfl, hv, q.now hs (.int _)⟩
      · rw [Vals.ref1 rv]
        obtain ⟨its, rw', hl, _⟩ := I.tuple hv
        have hi := rw'.ints
        obtain ⟨zs, e⟩ := hi.allInts.items
        have hn : numsOf (intItems zs).toList = ks := by rw [← e]; exact hi.numsOf
        rw [nums_intItems] at hn
        rw [e] at hl
        refine PySem.W.ktm_sumG (I.ok.hd t.calm) hl fun h' tk t' hk => ?_
        rw [preSum_eq, List.take_of_length_le (by simp), hn]
        exact ⟨.int _, H, I.kept hk, ⟨_, rfl⟩, q.now hs (.int _)⟩

/-! ### all, any -/
def bools? : List D → Option (List Bool)
  | [] => some []
  | .bl b :: r => match bools? r with | some bs => some (b :: bs) | none => none
  | _ :: _ => none
theorem bools?_map : ∀ {ds : List D} {bs : List Bool}, bools? ds = some bs → ds = bs.map D.bl
  | [], _, h => by cases h; rfl
  | .bl b :: r, bs, h => by
    simp only [bools?] at h
    split at h
    case h_2 => cases h
    case h_1 is e => cases h; rw [bools?_map e]; rfl
  | .non :: _, _, h => by simp [bools?] at h
  | .int _ :: _, _, h => by simp [bools?] at h
  | .str _ :: _, _, h => by simp [bools?] at h
  | .tup _ :: _, _, h => by simp [bools?] at h
  | .lst _ :: _, _, h => by simp [bools?] at h
  | .dic _ _ :: _, _, h => by simp [bools?] at h
  | .obj _ _ :: _, _, h => by simp [bools?] at h
  | .cell _ :: _, _, h => by simp [bools?] at h
  | .scr _ :: _, _, h => by simp [bools?] at h
  | .cls _ :: _, _, h => by simp [bools?] at h
theorem bools?_of (bs : List Bool) : bools? (bs.map D.bl) = some bs := by
  induction bs with
  | nil => rfl
  | cons a r ih => simp [bools?, ih]
theorem RpL.bools {G : Hp} {al : List Addr} : ∀ {bs : List Bool} {vs : List V}, RpL T G al (bs.map D.bl) vs → vs = bs.map V.bl
  | [], _, .nil => rfl
  | b :: bs, _, .cons r t => by rw [r.bl_inv, RpL.bools t]; rfl
def bAll : FC := fun ds c => match ds with
  | [.lst xs] => match bools? xs with
    | some bs => some (.bl (bs.all id), c)
    | none => none
  | _ => none
def bAny : FC := fun ds c => match ds with
  | [.lst xs] => match bools? xs with
    | some bs => some (.bl (bs.any id), c)
    | none => none
  | _ => none
theorem cr_bAll (t : Tied T n X) : CallR X (.builtin "all") (rC T bAll) := by
  refine rC_of fun G al c H ds d c' xs Q hs rl hg q => ?_
  unfold bAll at hg
  split at hg
  case h_2 => cases hg
  case h_1 ys =>
    split at hg
    case h_2 => cases hg
    case h_1 bs e =>
      cases hg
      obtain ⟨v, rfl, r⟩ := rl.one
      obtain ⟨a, vs, rfl, hv, rl2⟩ := r.lst_inv hs
      have := bools?_map e
      subst this
      rw [rl2.bools] at hv
      exact ⟨_, cr_all t.calm, a, bs, rfl, SqL.of hv, q.now hs (.bl _)⟩
theorem cr_bAny (t : Tied T n X) : CallR X (.builtin "any") (rC T bAny) := by
  refine rC_of fun G al c H ds d c' xs Q hs rl hg q => ?_
  unfold bAny at hg
  split at hg
  case h_2 => cases hg
  case h_1 ys =>
    split at hg
    case h_2 => cases hg
    case h_1 bs e =>
      cases hg
      obtain ⟨v, rfl, r⟩ := rl.one
      obtain ⟨a, vs, rfl, hv, rl2⟩ := r.lst_inv hs
      have := bools?_map e
      subst this
      rw [rl2.bools] at hv
      exact ⟨_, cr_any t.calm, a, bs, rfl, SqL.of hv, q.now hs (.bl _)⟩

/-! ### str, list, tuple -/
def smStr (i : Int) : Bool := decide (i.natAbs.log2 < 1920)
def bStr : FC := fun ds c => match ds with
  | [.int i] => if smStr i = true then some (.str (toString i), c) else none
  | [.str x] => some (.str x, c)
  | _ => none
theorem cr_bStr (t : Tied T n X) : CallR X (.type "str") (rC T bStr) := by
  refine rC_of fun G al c H ds d c' xs Q hs rl hg q => ?_
  unfold bStr at hg
  split at hg
  case h_3 => cases hg
  case h_1 i =>
    split at hg
    case isFalse => cases hg
    case isTrue hl => cases hg; exact ⟨_, call_str_int, i, rl.int1, of_decide_eq_true hl, q.now hs (.str _)⟩
  case h_2 x =>
    cases hg
    obtain ⟨v, rfl, r⟩ := rl.one
    rw [r.str_inv]
    exact ⟨_, SkE.call_str_str, x, rfl, q.now hs (.str _)⟩
def bList : FC := fun ds c => match ds with
  | [d] => match seqOf c d with
    | some xs => some (.lst xs, c)
    | none => none
  | _ => none
theorem cr_bList (t : Tied T n X) : CallR X (.type "list") (rCN T bList) := by
  refine rCN_of fun G al c H ds d c' xs Q hs rl hg q => ?_
  unfold bList at hg
  split at hg
  case h_2 => cases hg
  case h_1 d0 =>
    split at hg
    case h_2 => cases hg
    case h_1 ys e =>
      cases hg
      obtain ⟨v, rfl, r⟩ := rl.one
      obtain ⟨a, vs, rfl, hv, rl2⟩ := r.seq' hs e
      rw [← t.K] at hv
      exact ⟨_, call_list_of, a, vs, rfl, hv, fun p hp => q.new hs hp (.lst rl2)⟩
def bTuple : FC := fun ds c => match ds with
  | [d] => match deref c d with
    | some (.lst xs) => some (.tup xs, c)
    | some (.tup xs) => some (.tup xs, c)
    | _ => none
  | _ => none
theorem cr_bTuple (t : Tied T n X) : CallR X (.type "tuple") (rC T bTuple) := by
  refine rC_of fun G al c H ds d c' xs Q hs rl hg q => ?_
  unfold bTuple at hg
  split at hg
  case h_2 => cases hg
  case h_1 d0 =>
    split at hg
    case h_1 ys e =>
      cases hg
      obtain ⟨v, rfl, r⟩ := rl.one
      obtain ⟨a, vs, rfl, hv, rl2⟩ := r.lst' hs e
      exact ⟨_, call_tuple_of, a, vs, rfl, .inl ⟨SqL.of hv, fun p hp => q.newT hs hp rl2⟩⟩
    case h_2 ys e =>
      cases hg
      obtain ⟨v, rfl, r⟩ := rl.one
      have hd := r.cellEq hs e ⟨fun _ z => (by cases z), fun _ _ z => (by cases z), fun _ _ z => (by cases z)⟩
      subst hd
      have k := r.rp_tup
      obtain ⟨a, vs, rfl, e2, rl3⟩ := r.tup_inv hs
      rw [← t.K] at e2
      exact ⟨_, call_tuple_of, a, vs, rfl, .inr ⟨e2, q.now hs k⟩⟩
    case h_3 => cases hg

/-! ### sorted -/
def alikeB (ps : List PyData) : Bool := ps.all fun d => ps.all fun e => PySem.W.alike d e
def tupB : PyData → Bool
  | .tuple (_ :: _) => true
  | _ => false
def othB : PyData → Bool
  | .none => false
  | .tuple _ => false
  | _ => true
def sortB (ps : List PyData) : Bool := ps.all tupB || ps.all othB
theorem alikeB_ok {ps : List PyData} (h : alikeB ps = true) : PySem.W.AllAlike ps := fun d hd e he => List.all_eq_true.mp (List.all_eq_true.mp h d hd) e he
theorem sortB_ok {ps : List PyData} (h : sortB ps = true) : PySem.W.Sortable ps := by
  rcases Bool.or_eq_true_iff.mp h with h | h
  · refine .inl fun d hd => ?_
    have := List.all_eq_true.mp h d hd
    cases d with
    | tuple xs =>
      cases xs with
      | nil => cases this
      | cons x r => exact ⟨x, r, rfl⟩
    | _ => cases this
  · refine .inr fun d hd => ?_
    have := List.all_eq_true.mp h d hd
    refine ⟨fun e => ?_, fun xs e => ?_⟩
    · subst e; cases this
    · subst e; cases this
/-- the items in their order -/
def sortD (ds : List D) (ps : List PyData) : List D := ((ds.zip ps).mergeSort (PySem.W.dataLe false (·.2))).map (·.1)
def bSorted : FC := fun ds c => match ds with
  | [d] => match deref c d with
    | some (.lst xs) => match pdns deep xs with
      | some ps => if (alikeB ps && sortB ps && decide (xs.length ≤ lim)) = true then some (.lst (sortD xs ps), c) else none
      | none => none
    | _ => none
  | _ => none
theorem pdns_length {k : Nat} : ∀ {ds : List D} {ps : List PyData}, pdns k ds = some ps → ds.length = ps.length
  | [], _, h => by simp only [pdns] at h; cases h; rfl
  | d :: ds, ps, h => by
    simp only [pdns] at h
    split at h
    case h_2 => cases h
    case h_1 p ps' h1 h2 => cases h; rw [List.length_cons, List.length_cons, pdns_length h2]
/-- values that go with data -/
theorem each_of {G : Hp} {al : List Addr} {k : Nat} {pins : List (Addr × Obj)} {s : Shared} {σ : L2.St} {H : Hp} {c : Cs} (I : Inv X pins σ H s) (t : Tied T n X) (hs : HSt T G al c H) : ∀ {ds : List D} {ps : List PyData} {vs : List V} {us : List Value}, pdns k ds = some ps → RpL T G al ds vs → Vals vs us →
    PySem.W.EachIs (fun (u : Value) (b : D × PyData) => (∃ x, RelV x u ∧ Rp T G al b.1 x) ∧ ∃ as, Reads s.heap u b.2 as) us (ds.zip ps)
  | [], _, _, _, h, .nil, .nil => by simp only [pdns] at h; cases h; exact .nil
  | d :: ds, ps, _, _, h, .cons r t1, .cons rv t2 => by
    simp only [pdns] at h
    split at h
    case h_2 => cases h
    case h_1 p ps' h1 h2 =>
      cases h
      have hd := r.dp hs.ex k d p _ h1
      rw [← t.K] at hd
      exact .cons ⟨⟨_, rv, r⟩, Dp.reads I p _ _ hd rv⟩ (each_of I t hs h2 t1 t2)
theorem each_fst {G : Hp} {al : List Addr} {h : Heap} : ∀ {us : List Value} {bs : List (D × PyData)}, PySem.W.EachIs (fun (u : Value) (b : D × PyData) => (∃ x, RelV x u ∧ Rp T G al b.1 x) ∧ ∃ as, Reads h u b.2 as) us bs → ∃ vs, Vals vs us ∧ RpL T G al (bs.map (·.1)) vs
  | _, _, .nil => ⟨[], .nil, .nil⟩
  | _, _, .cons ⟨⟨x, rx, r⟩, _⟩ t => let ⟨vs, h1, h2⟩ := each_fst t; ⟨x :: vs, .cons rx h1, .cons r h2⟩
theorem sorted_gives (t : Tied T n X) {pins : List (Addr × Obj)} {s : Shared} {σ : L2.St} {H : Hp} {Q : VK} {a : Addr} {xs : List D} {ps : List PyData} {vs : List V} {its : List Value} {G : Hp} {al : List Addr} {c : Cs} (I : Inv X pins σ H s) (hs : HSt T G al c H) (rl : RpL T G al xs vs) (rv : Vals vs its) (hl : s.heap.IsList a its.toArray)
    (e : pdns deep xs = some ps) (h1 : alikeB ps = true) (h2 : sortB ps = true) (h3 : xs.length ≤ lim) (q : AftN T G al H (.lst (sortD xs ps)) c Q) : wpAny (model X.prog X.w) X.A (call (.builtin "sorted") [.ref a]) (EP X pins σ Q) X.xe s := by
  have ea := each_of I t hs e rl rv
  have hlen := pdns_length e
  have hm : (xs.zip ps).map (·.2) = ps := List.map_snd_zip (Nat.le_of_eq hlen.symm)
  have lz : (xs.zip ps).length = xs.length := by rw [List.length_zip, hlen, Nat.min_self]
  refine PySem.W.sorted_data (enc := fun b : D × PyData => b.2) hl ea (ea.mono fun _ _ z => z.2) (by rw [hm]; exact alikeB_ok h1) (by rw [hm]; exact sortB_ok h2) (by rw [lz]; exact Nat.le_trans h3 lim_line) (fun b hb => ?_) fun out ho eo => ?_
  · have hb2 : b.2 ∈ ps := by rw [← hm]; exact List.mem_map.mpr ⟨b, hb, rfl⟩
    obtain ⟨_, hd⟩ := pdns_shape deep xs ps e
    have hle : ∀ (ps : List PyData) (p : PyData), p ∈ ps → p.depth ≤ PyData.depthAll ps := by
      intro ps
      induction ps with
      | nil => intro p hp; cases hp
      | cons y r ih =>
        intro p hp
        simp only [PyData.depthAll]
        rcases List.mem_cons.mp hp with rfl | hp
        · omega
        · have := ih p hp; omega
    have h4 := hle ps b.2 hb2
    have h5 : b.2.depth ≤ 60 := Nat.le_trans h4 hd
    have := t.room.un
    omega
  · obtain ⟨ws, rw', rl'⟩ := each_fst eo
    obtain ⟨ep, he'⟩ := PyProof.Rows.sortedAll_at s.heap its out.toArray
    have hws : ws.length ≤ sizeLine := by
      rw [rw'.length, ho, lz]
      exact Nat.le_trans h3 lim_line
    have hn := I.hok.fresh (Nat.le_succ s.heap.objs.size)
    exact ⟨.ref _, upd H (s.heap.objs.size + 1) (.lst ws), I.laid (t' := s.toks) (fun _ _ => PyProof.Rows.sortedAll_old) (Nat.le_succ _) ⟨hws, out, ep, rw', he'⟩, rfl, q.new hs hn (.lst rl')⟩
theorem cr_bSorted (t : Tied T n X) : CallR X (.builtin "sorted") (rCN T bSorted) := by
  intro pins s σ H xs us Q I rv h
  obtain ⟨G, al, c, ds, d, c', hs, rl, hg, q⟩ := h
  unfold bSorted at hg
  split at hg
  case h_2 => cases hg
  case h_1 d0 =>
    split at hg
    case h_2 => cases hg
    case h_1 ys e =>
      split at hg
      case h_2 => cases hg
      case h_1 ps e2 =>
        split at hg
        case isFalse => cases hg
        case isTrue hb =>
          cases hg
          simp only [Bool.and_eq_true, decide_eq_true_eq] at hb
          obtain ⟨v, rfl, r⟩ := rl.one
          obtain ⟨a, vs, rfl, hv, rl2⟩ := r.lst' hs e
          rw [Vals.ref1 rv]
          obtain ⟨its, rw', hl, _⟩ := I.list (SqL.of hv : SqL X.K H a vs)
          exact sorted_gives t I hs rl2 rw' hl.isList e2 hb.1.1 hb.1.2 hb.2 q
end
end Pd
set_option Elab.async false
set_option linter.all false
set_option maxRecDepth 100000
/-! Pd11: changes of objects, stores, while, parallel stores, methods of texts and lists. -/
namespace Pd
open PySem PySem.Spec PyProof.Rows L2

section
variable {T : Tb} {B : Base} {G G' H H' : Hp} {al al' : List Addr} {c c' : Cs} {env : En} {σ : L2.St}
/-- an object of one's own changes -/
theorem Ok.putO (k : Ok T B G al c H env σ) {i : Nat} {d d' : D} {p : Addr} {o : HO} (hi : env[i]? = some (some (.o d))) (hp : σ[i]? = some (some (.ref p))) (hb : Bx T G al p o d') : Ok T B G al c (upd H p o) (env.set i (some (.o d'))) σ := by
  obtain ⟨a, o0, hs, hg, ha, hh, b0⟩ := k.he.own i d hi
  rw [hp] at hs; cases hs
  have hn := k.nw i d p hi hp
  have hl : i < env.length := (List.getElem?_eq_some_iff.mp hi).1
  have key : ∀ (j : Nat) (e : D), (env.set i (some (.o d')))[j]? = some (some (.o e)) → ∃ e', env[j]? = some (some (.o e')) := fun j e q => by
    by_cases hj : j = i
    · subst hj; exact ⟨d, hi⟩
    · rw [List.getElem?_set_ne (Ne.symm hj)] at q
      exact ⟨e, q⟩
  refine ⟨k.hs0, k.hs.apartPut hg ha, k.he.putO hi hp hb, ⟨k.st.le, fun a u g m e => ?_⟩, fun j e a q1 q2 => ?_, fun x e hx q1 => ?_⟩
  · obtain ⟨g', m', e'⟩ := k.st.fr a u g m e
    exact ⟨g', m', by rw [upd_ne (ne_of_none e hn)]; exact e'⟩
  · obtain ⟨e', h'⟩ := key j e q1
    exact k.nw j e' a h' q2
  · obtain ⟨e', h'⟩ := key 0 e q1
    exact k.se x e' hx h'
/-- a cell changes -/
theorem Ok.putC (k : Ok T B G al c H env σ) {j : Nat} {d : D} {p : Addr} {o : HO} (hk : al[j]? = some p) (hb : Bx T G al p o d) : Ok T B G al (c.set j d) (upd H p o) env σ := k.step (.put hk) (k.hs.put hk hb)
end

/-! ### changes by data -/
/-- a method that changes its object: what it gives, what the object is then -/
abbrev Up := D → List D → Option (D × D)
def rMu (T : Tb) (up : Up) : V → List V → Hp → VK → Prop := fun x xs H Q => ∃ (G : Hp) (al : List Addr) (c : Cs) (p : Addr) (ho : HO) (d : D) (ds : List D) (d' dr : D), x = .ref p ∧ HSt T G al c H ∧ H p = some ho ∧ Bx T G al p ho d ∧ RpL T G al ds xs ∧ up d ds = some (dr, d') ∧
  ∀ (r : V) (o' : HO), Rp T G al dr r → Bx T G al p o' d' → Q r (upd H p o')
def uApp : Up := fun d ds => match d, ds with
  | .lst xs, [y] => if xs.length < lim then some (.non, .lst (xs ++ [y])) else none
  | _, _ => none
def uPop : Up := fun d ds => match d, ds with
  | .lst xs, [] => match xs[xs.length - 1]? with | some y => some (y, .lst xs.dropLast) | none => none
  | .lst xs, [.int i] => if small62 i = true then match seqIndex? i xs.length with
    | some k => match xs[k]? with | some y => some (y, .lst (xs.eraseIdx k)) | none => none
    | none => none else none
  | _, _ => none
def uRev : Up := fun d ds => match d, ds with
  | .lst xs, [] => some (.non, .lst xs.reverse)
  | _, _ => none
def uClr : Up := fun d ds => match d, ds with
  | .lst _, [] => some (.non, .lst [])
  | _, _ => none
theorem RpL.dropLast {T : Tb} {G : Hp} {al : List Addr} {ds : List D} {vs : List V} (r : RpL T G al ds vs) : RpL T G al ds.dropLast vs.dropLast := by
  rw [List.dropLast_eq_take, List.dropLast_eq_take, r.length]
  exact r.take _
theorem RpL.eraseIdx {T : Tb} {G : Hp} {al : List Addr} : ∀ {ds : List D} {vs : List V} (i : Nat), RpL T G al ds vs → RpL T G al (ds.eraseIdx i) (vs.eraseIdx i)
  | _, _, _, .nil => .nil
  | _, _, 0, .cons _ t => t
  | _, _, i + 1, .cons r t => .cons r (RpL.eraseIdx i t)
section
variable {T : Tb} {X : Cx}
theorem Bx.lst_inv {G : Hp} {al : List Addr} {p : Addr} {o : HO} {ds : List D} (b : Bx T G al p o (.lst ds)) : ∃ vs, o = .lst vs ∧ RpL T G al ds vs := by
  cases b with
  | lst r => exact ⟨_, rfl, r⟩
theorem RpL.one' {G : Hp} {al : List Addr} {d : D} {vs : List V} (r : RpL T G al [d] vs) : ∃ v, vs = [v] ∧ Rp T G al d v := r.one
theorem RpL.nil_inv {G : Hp} {al : List Addr} {vs : List V} (r : RpL T G al [] vs) : vs = [] := by cases r; rfl
theorem mt_uApp : MtR X "list.append" (rMu T uApp) := by
  intro pins s σ H x xs v us Q I rx rxs h
  obtain ⟨G, al, c, p, ho, d, ds, d', dr, rfl, hs, hp, b, rl, hu, q⟩ := h
  unfold uApp at hu
  split at hu
  case h_2 => cases hu
  case h_1 ys y =>
    split at hu
    case isFalse => cases hu
    case isTrue hl =>
      cases hu
      obtain ⟨vs, rfl, rl2⟩ := b.lst_inv
      obtain ⟨w, rfl, rw'⟩ := rl.one
      exact mt_append pins s σ H _ _ v us Q I rx rxs ⟨p, vs, w, rfl, rfl, hp, by rw [← rl2.length]; exact Nat.lt_of_lt_of_le hl lim_line, q .non _ .non (.lst (rl2.append (.cons rw' .nil)))⟩
theorem mt_uPop : MtR X "list.pop" (rMu T uPop) := by
  intro pins s σ H x xs v us Q I rx rxs h
  obtain ⟨G, al, c, p, ho, d, ds, d', dr, rfl, hs, hp, b, rl, hu, q⟩ := h
  unfold uPop at hu
  split at hu
  case h_1 ys =>
    split at hu
    case h_2 => cases hu
    case h_1 y e =>
      cases hu
      obtain ⟨vs, rfl, rl2⟩ := b.lst_inv
      obtain ⟨w, hw, rw'⟩ := rl2.get e
      have e1 := rl.nil_inv
      subst e1
      exact mt_pop pins s σ H _ _ v us Q I rx rxs ⟨p, vs, w, rfl, rfl, hp, by rw [← rl2.length]; exact hw, q w _ rw' (.lst rl2.dropLast)⟩
  case h_2 ys i =>
    split at hu
    case isFalse => cases hu
    case isTrue hi =>
      split at hu
      case h_2 => cases hu
      case h_1 k e1 =>
        split at hu
        case h_2 => cases hu
        case h_1 y e2 =>
          cases hu
          obtain ⟨vs, rfl, rl2⟩ := b.lst_inv
          obtain ⟨w, hw, rw'⟩ := rl2.get e2
          obtain ⟨z, rfl, rz⟩ := rl.one
          have ez : z = .int i := Rq.int_inv (H := H) (.inl rz)
          subst ez
          obtain ⟨h1, h2⟩ := small62_ok hi
          rw [rl2.length] at e1
          exact mt_popAt pins s σ H _ _ v us Q I rx rxs ⟨p, vs, i, k, w, rfl, rfl, hp, by omega, by omega, e1, hw, q w _ rw' (.lst (rl2.eraseIdx k))⟩
  case h_3 => cases hu
theorem mt_uRev : MtR X "list.reverse" (rMu T uRev) := by
  intro pins s σ H x xs v us Q I rx rxs h
  obtain ⟨G, al, c, p, ho, d, ds, d', dr, rfl, hs, hp, b, rl, hu, q⟩ := h
  unfold uRev at hu
  split at hu
  case h_2 => cases hu
  case h_1 ys =>
    cases hu
    obtain ⟨vs, rfl, rl2⟩ := b.lst_inv
    have e1 := rl.nil_inv
    subst e1
    exact mt_reverse pins s σ H _ _ v us Q I rx rxs ⟨p, vs, rfl, rfl, hp, q .non _ .non (.lst rl2.reverse)⟩
theorem mt_uClr : MtR X "list.clear" (rMu T uClr) := by
  intro pins s σ H x xs v us Q I rx rxs h
  obtain ⟨G, al, c, p, ho, d, ds, d', dr, rfl, hs, hp, b, rl, hu, q⟩ := h
  unfold uClr at hu
  split at hu
  case h_2 => cases hu
  case h_1 ys =>
    cases hu
    obtain ⟨vs, rfl, rl2⟩ := b.lst_inv
    have e1 := rl.nil_inv
    subst e1
    exact mt_clear pins s σ H _ _ v us Q I rx rxs ⟨p, vs, rfl, rfl, hp, q .non _ .non (.lst .nil)⟩
end
/-- the built-in type by whose method the object is changed -/
def isTy (tn : String) (d : D) : Bool := match d with
  | .lst _ => tn == "list"
  | _ => false
section
variable {T : Tb} {n : Nat} {X : Cx} {pos p2 cpos apos px : Pos} {o e : Expr} {es : List Expr} {fo fe : FE} {fa : FA} {up : Up} {tn name : String} {nm x : Str} {bid : String}
theorem isTy_v {G : Hp} {al : List Addr} {H : Hp} {p : Addr} {ho : HO} {d : D} (h : isTy tn d = true) (hp : H p = some ho) (b : Bx T G al p ho d) : tyV X.K tn (.ref p) H := by
  cases d with
  | lst ds =>
    obtain ⟨vs, rfl, _⟩ := b.lst_inv
    have : tn = "list" := by simpa [isTy] using h
    exact .inl ⟨this, vs, SqL.of hp⟩
  | _ => cases h
/-- o.m(..), o a cell -/
def fMut (tn : String) (up : Up) (fo : FE) (fa : FA) : FE := fun env c => match fo env c with
  | some (.cell k, c1) => match c1[k]? with
    | some d0 => if isTy tn d0 = true then match fa env c1 with
      | some (ds, c2) => match c2[k]? with
        | some d => match up d ds with
          | some (r, d') => some (r, c2.set k d')
          | none => none
        | none => none
      | none => none else none
    | none => none
  | _ => none
theorem tr_mut (pa : PlainAttrs tn) (slot : Slot tn nm bid) (hty : typeOf (.builtin bid) = pure (.type "method_descriptor")) (hm : MtR X bid (rMu T up)) (ho : TrE T n X o fo) (ha : TrA T n X (e :: es) fa)
    (hbase : attributeBase o nm X.env (eval o X.env) = eval o X.env := by rfl)
    (hfew : ((backTo cpos (starEach (e :: es) X.env)).all (fun x => !x.1) && (backToKw cpos (keywordEach [] X.env)).all (fun x => x.1.isSome)
      && decide ((e :: es).length + ([] : List Keyword).length + (if ([] : List Keyword).isEmpty then 0 else 1) < 30)) = true := by rfl)
    (hline : (apos.endLine == cpos.line) = true := by rfl) (hs : starEach (e :: es) X.env = (false, eval e X.env) :: starEach es X.env := by rfl) (hplain : (backTo cpos (starEach es X.env)).any (·.1) = false := by rfl) :
    TrE T n X (.Call (.Attribute o nm apos) (e :: es) [] cpos) (fMut tn up fo fa) := by
  refine ⟨fun t G al c env σ H Q d c' hst he hf q => ofE (pe_bm pa slot hty hm (peS o) (paS (e :: es)) hbase hfew hline hs hplain) ?_⟩
  unfold fMut at hf
  split at hf
  case h_2 => cases hf
  case h_1 k c1 e1 =>
    split at hf
    case h_2 => cases hf
    case h_1 d0 e2 =>
      split at hf
      case isFalse => cases hf
      case isTrue hT =>
        split at hf
        case h_2 => cases hf
        case h_1 ds c2 e3 =>
          split at hf
          case h_2 => cases hf
          case h_1 d1 e4 =>
            split at hf
            case h_2 => cases hf
            case h_1 r d' e5 =>
              cases hf
              refine ho.run t G al c env σ H _ _ _ hst he e1 fun G1 al1 H1 v l1 hs1 r1 => ?_
              cases r1 with
              | box _ z => cases z
              | cell hk =>
                rename_i p
                obtain ⟨_, ho1, hp1, b1⟩ := hs1.at_ k _ _ hk e2
                refine ⟨isTy_v hT hp1 b1, ha.run t G1 al1 c1 env σ H1 _ _ _ hs1 (he.mono l1) e3 fun G2 al2 H2 vs l2 hs2 rl => ?_⟩
                have hk2 := l2.le.get hk
                obtain ⟨_, ho2, hp2, b2⟩ := hs2.at_ k _ _ hk2 e4
                refine ⟨G2, al2, c2, p, ho2, d1, ds, d', d, rfl, hs2, hp2, b2, rl, e5, fun w o' rw' b' => ?_⟩
                exact q G2 al2 _ w ((l1.trans l2).trans (.put hk2)) (hs2.put hk2 b') rw'
theorem tr_mut0 (pa : PlainAttrs tn) (slot : Slot tn nm bid) (hty : typeOf (.builtin bid) = pure (.type "method_descriptor")) (hm : MtR X bid (rMu T up)) (ho : TrE T n X o fo)
    (hbase : attributeBase o nm X.env (eval o X.env) = eval o X.env := by rfl) (hline : (apos.endLine == cpos.line) = true := by rfl) :
    TrE T n X (.Call (.Attribute o nm apos) [] [] cpos) (fMut tn up fo aNil) := by
  refine ⟨fun t G al c env σ H Q d c' hst he hf q => ofE (pe_bm0 pa slot hty hm (peS o) hbase hline) ?_⟩
  unfold fMut at hf
  split at hf
  case h_2 => cases hf
  case h_1 k c1 e1 =>
    split at hf
    case h_2 => cases hf
    case h_1 d0 e2 =>
      split at hf
      case isFalse => cases hf
      case isTrue hT =>
        split at hf
        case h_2 => cases hf
        case h_1 ds c2 e3 =>
          cases e3
          split at hf
          case h_2 => cases hf
          case h_1 d1 e4 =>
            split at hf
            case h_2 => cases hf
            case h_1 r d' e5 =>
              cases hf
              refine ho.run t G al c env σ H _ _ _ hst he e1 fun G1 al1 H1 v l1 hs1 r1 => ?_
              cases r1 with
              | box _ z => cases z
              | cell hk =>
                rename_i p
                obtain ⟨_, ho1, hp1, b1⟩ := hs1.at_ k _ _ hk e4
                rw [e2] at e4
                cases e4
                refine ⟨isTy_v hT hp1 b1, G1, al1, c1, p, ho1, d0, [], d', d, rfl, hs1, hp1, b1, .nil, e5, fun w o' rw' b' => ?_⟩
                exact q G1 al1 _ w (l1.trans (.put hk)) (hs1.put hk b') rw'
/-- x.m(..) as a statement, x an object of one's own -/
def fMutO (tn : String) (up : Up) (i : Nat) (fa : FA) : FS := fun env c => match env[i]? with
  | some (some (.o d)) => if isTy tn d = true then match fa env c with
    | some (ds, c1) => match up d ds with
      | some (_, d') => some (.nx, env.set i (some (.o d')), c1)
      | none => none
    | none => none else none
  | _ => none
theorem ts_mutO (i : Nat) (pa : PlainAttrs tn) (slot : Slot tn nm bid) (hty : typeOf (.builtin bid) = pure (.type "method_descriptor")) (hm : MtR X bid (rMu T up)) (ha : TrA T n X (e :: es) fa)
    (hN : X.N[i]? = some x := by rfl) (hv : Vis X.env.scope x := by first | exact Or.inl rfl | exact Or.inr (Or.inl rfl) | exact Or.inr (Or.inr rfl)) (hd : (x == ("__debug__" : Str)) = false := by decide) (hcd : (x == ("__classdict__" : Str)) = false := by decide)
    (hsw : swapsWith (.Call (.Attribute (.Name x px) nm apos) (e :: es) [] cpos) none pos.line X.env = pure false := by rfl)
    (hbase : attributeBase (.Name x px) nm X.env (eval (.Name x px) X.env) = eval (.Name x px) X.env := by rfl)
    (hfew : ((backTo cpos (starEach (e :: es) X.env)).all (fun x => !x.1) && (backToKw cpos (keywordEach [] X.env)).all (fun x => x.1.isSome)
      && decide ((e :: es).length + ([] : List Keyword).length + (if ([] : List Keyword).isEmpty then 0 else 1) < 30)) = true := by rfl)
    (hline : (apos.endLine == cpos.line) = true := by rfl) (hs : starEach (e :: es) X.env = (false, eval e X.env) :: starEach es X.env := by rfl) (hplain : (backTo cpos (starEach es X.env)).any (·.1) = false := by rfl) :
    TrS T n X (.Expr (.Call (.Attribute (.Name x px) nm apos) (e :: es) [] cpos) pos) (fMutO tn up i fa) := by
  refine ⟨fun t B G al c env σ H E r env' c' k hf q => ofS (ps_expr (pe_bm pa slot hty hm (pe_var hN hv hd hcd) (paS (e :: es)) hbase hfew hline hs hplain) hsw) ?_⟩
  unfold fMutO at hf
  split at hf
  case h_2 => cases hf
  case h_1 d0 e1 =>
    split at hf
    case isFalse => cases hf
    case isTrue hT =>
      split at hf
      case h_2 => cases hf
      case h_1 ds c1 e2 =>
        split at hf
        case h_2 => cases hf
        case h_1 dr d' e3 =>
          cases hf
          obtain ⟨a, o0, hsl, hg, hal, hh, b0⟩ := k.he.own i d0 e1
          refine ⟨.ref a, hsl, isTy_v hT hh b0, ha.run t G al c env σ H _ _ _ k.hs k.he e2 fun G2 al2 H2 vs l2 hs2 rl => ?_⟩
          have k2 := k.step l2 hs2
          obtain ⟨a', o2, hsl2, hg2, hal2, hh2, b2⟩ := k2.he.own i d0 e1
          rw [hsl] at hsl2; cases hsl2
          exact ⟨G2, al2, _, a, o2, d0, ds, d', dr, rfl, hs2, hh2, b2, rl, e3, fun w o' rw' b' => q G2 al2 σ _ l2.le (k2.putO e1 hsl b')⟩
theorem ts_mutO0 (i : Nat) (pa : PlainAttrs tn) (slot : Slot tn nm bid) (hty : typeOf (.builtin bid) = pure (.type "method_descriptor")) (hm : MtR X bid (rMu T up))
    (hN : X.N[i]? = some x := by rfl) (hv : Vis X.env.scope x := by first | exact Or.inl rfl | exact Or.inr (Or.inl rfl) | exact Or.inr (Or.inr rfl)) (hd : (x == ("__debug__" : Str)) = false := by decide) (hcd : (x == ("__classdict__" : Str)) = false := by decide)
    (hsw : swapsWith (.Call (.Attribute (.Name x px) nm apos) [] [] cpos) none pos.line X.env = pure false := by rfl)
    (hbase : attributeBase (.Name x px) nm X.env (eval (.Name x px) X.env) = eval (.Name x px) X.env := by rfl) (hline : (apos.endLine == cpos.line) = true := by rfl) :
    TrS T n X (.Expr (.Call (.Attribute (.Name x px) nm apos) [] [] cpos) pos) (fMutO tn up i aNil) := by
  refine ⟨fun t B G al c env σ H E r env' c' k hf q => ofS (ps_expr (pe_bm0 pa slot hty hm (pe_var hN hv hd hcd) hbase hline) hsw) ?_⟩
  unfold fMutO at hf
  split at hf
  case h_2 => cases hf
  case h_1 d0 e1 =>
    split at hf
    case isFalse => cases hf
    case isTrue hT =>
      split at hf
      case h_2 => cases hf
      case h_1 ds c1 e2 =>
        cases e2
        split at hf
        case h_2 => cases hf
        case h_1 dr d' e3 =>
          cases hf
          obtain ⟨a, o0, hsl, hg, hal, hh, b0⟩ := k.he.own i d0 e1
          exact ⟨.ref a, hsl, isTy_v hT hh b0, G, al, _, a, o0, d0, [], d', dr, rfl, k.hs, hh, b0, .nil, e3, fun w o' rw' b' => q G al σ _ (.refl _ _) (k.putO e1 hsl b')⟩
end
end Pd
set_option Elab.async false
set_option linter.all false
set_option maxRecDepth 100000
/-! Pd12: stores, while, parallel stores, methods of texts and lists. -/
namespace Pd
open PySem PySem.Spec PyProof.Rows L2

/-! ### o[i] = e -/
abbrev Ust := D → D → D → Option D
def rSt (T : Tb) (u : Ust) : TSet := fun o i v H Q => ∃ (G : Hp) (al : List Addr) (c : Cs) (p : Addr) (ho : HO) (d di dv d' : D), o = .ref p ∧ HSt T G al c H ∧ H p = some ho ∧ Bx T G al p ho d ∧ Rp T G al di i ∧ Rp T G al dv v ∧ u d di dv = some d' ∧
  ∀ o', Bx T G al p o' d' → Q (upd H p o')
def uSetL : Ust := fun d di dv => match d, di with
  | .lst xs, .int i => match ixN xs.length i with | some j => some (.lst (xs.set j dv)) | none => none
  | _, _ => none
section
variable {T : Tb} {n : Nat} {X : Cx} {pos p2 cpos apos px tpos : Pos} {o e ie tg : Expr} {es body : List Expr} {fo fe fi : FE} {fa : FA} {nm x : Str} {bid : String} {ust : Ust}
theorem set_uSetL : PSet X (rSt T uSetL) := by
  intro pins s σ H o i v ov iv u Q I ro ri rv h
  obtain ⟨G, al, c, p, ho, d, di, dv, d', rfl, hs, hp, b, r1, r2, hu, q⟩ := h
  unfold uSetL at hu
  split at hu
  case h_2 => cases hu
  case h_1 xs k =>
    split at hu
    case h_2 => cases hu
    case h_1 j e =>
      cases hu
      obtain ⟨vs, rfl, rl⟩ := b.lst_inv
      have ei : i = .int k := Rq.int_inv (H := H) (.inl r1)
      subst ei
      rw [rl.length] at e
      exact set_list pins s σ H _ _ v ov iv u Q I ro ri rv ⟨p, vs, k, j, rfl, rfl, hp, e, q _ (.lst (rl.set r2 j))⟩
/-- o a cell -/
def fStC (u : Ust) (fe fo fi : FE) : FS := fun env c => match fe env c with
  | some (dv, c1) => match fo env c1 with
    | some (.cell k, c2) => match fi env c2 with
      | some (di, c3) => match c3[k]? with
        | some d => match u d di dv with
          | some d' => some (.nx, env, c3.set k d')
          | none => none
        | none => none
      | none => none
    | _ => none
  | none => none
theorem ts_stC (hS : Tied T n X → PSet X (rSt T ust)) (he : TrE T n X e fe) (ho : TrE T n X o fo) (hi : TrE T n X ie fi)
    (ha : ∀ v, assign (.Subscript o ie tpos) X.env v = (do
      let ov ← holding [v] (eval o X.env)
      let iv ← holding [v, ov] (eval ie X.env)
      standAt tpos
      holding [v, ov, iv] (setItem ov iv v)
      release [v, ov, iv] []) := by intro _; rfl)
    (hs : swapsWithSole [.Subscript o ie tpos] e pos.line X.env = pure false := by rfl) (hw : swappedStores [.Subscript o ie tpos] e X.env = pure none := by rfl) (h1 : (assignEach [.Subscript o ie tpos] X.env).map (·.2) = [assign (.Subscript o ie tpos) X.env] := by rfl) :
    TrS T n X (.Assign [.Subscript o ie tpos] e pos) (fStC ust fe fo fi) := by
  refine ⟨fun t B G al c env σ H E r env' c' k hf q => ofS (ps_asg (peS e) (pg_sub (peS o) (peS ie) (hS t) ha) hs hw h1) ?_⟩
  unfold fStC at hf
  split at hf
  case h_2 => cases hf
  case h_1 dv c1 e1 =>
    split at hf
    case h_2 => cases hf
    case h_1 kk c2 e2 =>
      split at hf
      case h_2 => cases hf
      case h_1 di c3 e3 =>
        split at hf
        case h_2 => cases hf
        case h_1 d0 e4 =>
          split at hf
          case h_2 => cases hf
          case h_1 d' e5 =>
            cases hf
            refine he.run t G al c env σ H _ _ _ k.hs k.he e1 fun G1 al1 H1 v l1 hs1 r1 => ?_
            have k1 := k.step l1 hs1
            refine ho.run t G1 al1 c1 env σ H1 _ _ _ hs1 k1.he e2 fun G2 al2 H2 ov l2 hs2 r2 => ?_
            have k2 := k1.step l2 hs2
            refine hi.run t G2 al2 c2 env σ H2 _ _ _ hs2 k2.he e3 fun G3 al3 H3 iv l3 hs3 r3 => ?_
            have k3 := k2.step l3 hs3
            have r2' := r2.mono l3.le
            cases r2' with
            | box _ z => cases z
            | cell hk =>
              rename_i p
              obtain ⟨_, ho3, hp3, b3⟩ := hs3.at_ kk _ _ hk e4
              exact ⟨G3, al3, c3, p, ho3, d0, di, dv, d', rfl, hs3, hp3, b3, r3, (r1.mono l2.le).mono l3.le, e5, fun o' b' => q G3 al3 σ _ ((l1.le.trans l2.le).trans l3.le) (k3.putC hk b')⟩
/-- o an object of one's own -/
def fStO (u : Ust) (i : Nat) (fe fi : FE) : FS := fun env c => match fe env c with
  | some (dv, c1) => match env[i]? with
    | some (some (.o d)) => match fi env c1 with
      | some (di, c3) => match u d di dv with
        | some d' => some (.nx, env.set i (some (.o d')), c3)
        | none => none
      | none => none
    | _ => none
  | none => none
theorem ts_stO (i : Nat) (hS : Tied T n X → PSet X (rSt T ust)) (he : TrE T n X e fe) (hi : TrE T n X ie fi)
    (hN : X.N[i]? = some x := by rfl) (hv : Vis X.env.scope x := by first | exact Or.inl rfl | exact Or.inr (Or.inl rfl) | exact Or.inr (Or.inr rfl)) (hd : (x == ("__debug__" : Str)) = false := by decide) (hcd : (x == ("__classdict__" : Str)) = false := by decide)
    (ha : ∀ v, assign (.Subscript (.Name x px) ie tpos) X.env v = (do
      let ov ← holding [v] (eval (.Name x px) X.env)
      let iv ← holding [v, ov] (eval ie X.env)
      standAt tpos
      holding [v, ov, iv] (setItem ov iv v)
      release [v, ov, iv] []) := by intro _; rfl)
    (hs : swapsWithSole [.Subscript (.Name x px) ie tpos] e pos.line X.env = pure false := by rfl) (hw : swappedStores [.Subscript (.Name x px) ie tpos] e X.env = pure none := by rfl) (h1 : (assignEach [.Subscript (.Name x px) ie tpos] X.env).map (·.2) = [assign (.Subscript (.Name x px) ie tpos) X.env] := by rfl) :
    TrS T n X (.Assign [.Subscript (.Name x px) ie tpos] e pos) (fStO ust i fe fi) := by
  refine ⟨fun t B G al c env σ H E r env' c' k hf q => ofS (ps_asg (peS e) (pg_sub (pe_var hN hv hd hcd) (peS ie) (hS t) ha) hs hw h1) ?_⟩
  unfold fStO at hf
  split at hf
  case h_2 => cases hf
  case h_1 dv c1 e1 =>
    split at hf
    case h_2 => cases hf
    case h_1 d0 e4 =>
      split at hf
      case h_2 => cases hf
      case h_1 di c3 e3 =>
        split at hf
        case h_2 => cases hf
        case h_1 d' e5 =>
          cases hf
          refine he.run t G al c env σ H _ _ _ k.hs k.he e1 fun G1 al1 H1 v l1 hs1 r1 => ?_
          have k1 := k.step l1 hs1
          obtain ⟨a, o1, hsl, _, _, _, _⟩ := k1.he.own i d0 e4
          refine ⟨.ref a, hsl, hi.run t G1 al1 c1 env σ H1 _ _ _ hs1 k1.he e3 fun G3 al3 H3 iv l3 hs3 r3 => ?_⟩
          have k3 := k1.step l3 hs3
          obtain ⟨a', o3, hsl3, _, _, hh3, b3⟩ := k3.he.own i d0 e4
          rw [hsl] at hsl3; cases hsl3
          exact ⟨G3, al3, _, a, o3, d0, di, dv, d', rfl, hs3, hh3, b3, r3, r1.mono l3.le, e5, fun o' b' => q G3 al3 σ _ (l1.le.trans l3.le) (k3.putO e4 hsl b')⟩

/-! ### fields -/
/-- self.f = e, self an object of one's own at slot i (in __init__) -/
def fFldO (ks : List (Nat × Nat)) (i : Nat) (fe : FE) : FS := fun env c => match fe env c with
  | some (dv, c1) => match env[i]? with
    | some (some (.o (.obj k ds))) => match ks.lookup k with
      | some j => match fldPut j ds dv with
        | some ds' => some (.nx, env.set i (some (.o (.obj k ds'))), c1)
        | none => none
      | none => none
    | _ => none
  | none => none
theorem Bx.put {G : Hp} {al : List Addr} {p dx : Addr} {k j : Nat} {ds ds' : List D} {vs : List V} {dv : D} {v : V} {f : Str} (rl : RpL T G al ds vs) (hl : ds.length ≤ (T.fl k).length) (nd : (T.fl k).Nodup) (hf : (T.fl k)[j]? = some f) (r : Rp T G al dv v) (h : fldPut j ds dv = some ds') :
    Bx T G al p (.ins (T.cl k) dx (putF f v ((T.fl k).zip vs))) (.obj k ds') := by
  unfold fldPut at h
  have hj : j < (T.fl k).length := (List.getElem?_eq_some_iff.mp hf).1
  have hvl : vs.length ≤ (T.fl k).length := by rw [← rl.length]; exact hl
  split at h
  case isTrue h1 =>
    cases h
    have h1' : j < vs.length := by rw [← rl.length]; exact h1
    rw [putF_zip nd hf (by omega) hvl, if_pos h1']
    exact .obj (rl.set r j) (by rw [List.length_set]; exact hl)
  case isFalse h1 =>
    split at h
    case isFalse => cases h
    case isTrue h2 =>
      cases h
      have h2' : j = vs.length := by rw [← rl.length]; exact h2
      rw [putF_zip nd hf (by omega) hvl, if_neg (by omega)]
      exact .obj (rl.append (.cons r .nil)) (by rw [List.length_append, List.length_singleton]; omega)
theorem ts_fldO {f : Str} {ks : List (Nat × Nat)} (i : Nat) (A : Acc T f ks) (he : TrE T n X e fe) (hk : ∀ k, (T.fl k).length < 1000) (hN : X.N[i]? = some x := by rfl) (hv : Vis X.env.scope x := by first | exact Or.inl rfl | exact Or.inr (Or.inl rfl) | exact Or.inr (Or.inr rfl)) (hd : (x == ("__debug__" : Str)) = false := by decide) (hcd : (x == ("__classdict__" : Str)) = false := by decide)
    (hs : swapsWith e (some (.Attribute (.Name x px) f tpos)) pos.line X.env = pure false := by rfl) : TrS T n X (.Assign [.Attribute (.Name x px) f tpos] e pos) (fFldO ks i fe) := by
  refine ⟨fun t B G al c env σ H E r env' c' k hf q => ofS (ps_fld (pe_var hN hv hd hcd) (peS e) hs) ?_⟩
  unfold fFldO at hf
  split at hf
  case h_2 => cases hf
  case h_1 dv c1 e1 =>
    split at hf
    case h_2 => cases hf
    case h_1 kk ds e4 =>
      split at hf
      case h_2 => cases hf
      case h_1 j e3 =>
        split at hf
        case h_2 => cases hf
        case h_1 ds' e5 =>
          cases hf
          refine he.run t G al c env σ H _ _ _ k.hs k.he e1 fun G1 al1 H1 v l1 hs1 r1 => ?_
          have k1 := k.step l1 hs1
          obtain ⟨a, o1, hsl, hg, hal, hh, b⟩ := k1.he.own i _ e4
          obtain ⟨h1, h2, h3, h4⟩ := A.ok kk j e3
          cases b with
          | obj rl hl =>
            rename_i dx vs
            refine ⟨.ref a, hsl, a, _, dx, _, rfl, hh, by rw [t.K]; exact h1, by rw [t.K]; exact h2, ?_, ?_⟩
            · have := hk kk
              rw [List.length_zip]
              omega
            · exact q G1 al1 σ _ l1.le (k1.putO e4 hsl (Bx.put rl hl h4 h3 r1 e5))
/-- o.f = e, o a cell -/
def fFldC (ks : List (Nat × Nat)) (fe fo : FE) : FS := fun env c => match fe env c with
  | some (dv, c1) => match fo env c1 with
    | some (.cell m, c2) => match c2[m]? with
      | some (.obj k ds) => match ks.lookup k with
        | some j => match fldPut j ds dv with
          | some ds' => some (.nx, env, c2.set m (.obj k ds'))
          | none => none
        | none => none
      | _ => none
    | _ => none
  | none => none
theorem ts_fldC {f : Str} {ks : List (Nat × Nat)} (A : Acc T f ks) (he : TrE T n X e fe) (ho : TrE T n X o fo) (hk : ∀ k, (T.fl k).length < 1000) (hs : swapsWith e (some (.Attribute o f tpos)) pos.line X.env = pure false := by rfl) : TrS T n X (.Assign [.Attribute o f tpos] e pos) (fFldC ks fe fo) := by
  refine ⟨fun t B G al c env σ H E r env' c' k hf q => ofS (ps_fld (peS o) (peS e) hs) ?_⟩
  unfold fFldC at hf
  split at hf
  case h_2 => cases hf
  case h_1 dv c1 e1 =>
    split at hf
    case h_2 => cases hf
    case h_1 m c2 e2 =>
      split at hf
      case h_2 => cases hf
      case h_1 kk ds e4 =>
        split at hf
        case h_2 => cases hf
        case h_1 j e3 =>
          split at hf
          case h_2 => cases hf
          case h_1 ds' e5 =>
            cases hf
            refine he.run t G al c env σ H _ _ _ k.hs k.he e1 fun G1 al1 H1 v l1 hs1 r1 => ?_
            have k1 := k.step l1 hs1
            refine ho.run t G1 al1 c1 env σ H1 _ _ _ hs1 k1.he e2 fun G2 al2 H2 ov l2 hs2 r2 => ?_
            have k2 := k1.step l2 hs2
            cases r2 with
            | box _ z => cases z
            | cell hm =>
              rename_i p
              obtain ⟨_, ho2, hp2, b⟩ := hs2.at_ m _ _ hm e4
              obtain ⟨h1, h2, h3, h4⟩ := A.ok kk j e3
              cases b with
              | obj rl hl =>
                rename_i dx vs
                refine ⟨p, _, dx, _, rfl, hp2, by rw [t.K]; exact h1, by rw [t.K]; exact h2, ?_, ?_⟩
                · have := hk kk
                  rw [List.length_zip]
                  omega
                · exact q G2 al2 σ _ (l1.le.trans l2.le) (k2.putC hm (Bx.put rl hl h4 h3 (r1.mono l2.le) e5))
end

/-! ### targets: a tuple or a list -/
def gSeq (k : Nat) (gs : FGs) : FG := fun d env => match d with
  | .tup ds => if ds.length = k then gs ds env else none
  | .lst ds => if ds.length = k then gs ds env else none
  | _ => none
section
variable {T : Tb} {n : Nat} {X : Cx} {pos : Pos} {es : List Expr} {gs : FGs} {ws : List Nat}
theorem tg_seq {k0 k : Nat} (h : TrGs T n X es ws gs) (hn : (assignEach es X.env).length = k := by rfl) (hst : (assignEach es X.env).findIdx? (·.1) = none := by rfl) : TrG T n X (.Tuple es k0 pos) ws (gSeq k gs) := by
  refine ⟨fun t G al c env σ H d v env' Q hs he r hg q => ?_⟩
  unfold gSeq at hg
  split at hg
  case h_3 => cases hg
  case h_1 ds =>
    split at hg
    case isFalse => cases hg
    case isTrue hl =>
      obtain ⟨a, vs, rfl, hq, rl⟩ := r.tup_inv
      refine ofG (pg_tup t.calm (pgsS es) hn hst) ⟨a, vs, rfl, ?_, rl.length.symm.trans hl, h.run t G al c env σ H ds vs env' Q hs he rl hg q⟩
      rw [t.K]
      exact sqT_h hs.ex hq
  case h_2 ds =>
    split at hg
    case isFalse => cases hg
    case isTrue hl =>
      obtain ⟨a, vs, rfl, hq, rl⟩ := r.lst_inv
      exact ofG (pg_lst t.calm (pgsS es) hn hst) ⟨a, vs, rfl, SqL.of (hs.ex _ _ hq), rl.length.symm.trans hl, h.run t G al c env σ H ds vs env' Q hs he rl hg q⟩
end

/-! ### while -/
/-- k turns at most -/
def whileD (ft : FT) (fb : FS) : Nat → FS
  | 0, _, _ => none
  | k + 1, env, c => match ft env c with
    | some (true, c1) => match fb env c1 with
      | some (.nx, env2, c2) => whileD ft fb k env2 c2
      | some (.ct, env2, c2) => whileD ft fb k env2 c2
      | some (.bk, env2, c2) => some (.nx, env2, c2)
      | some (.rt d, env2, c2) => some (.rt d, env2, c2)
      | none => none
    | some (false, c1) => some (.nx, env, c1)
    | none => none
theorem whileD_mono {ft : FT} {fb : FS} : ∀ {k m : Nat} {env : En} {c : Cs} {r : Fl × En × Cs}, whileD ft fb k env c = some r → k ≤ m → whileD ft fb m env c = some r
  | 0, _, _, _, _, h, _ => by cases h
  | k + 1, 0, _, _, _, _, hm => by omega
  | k + 1, m + 1, env, c, r, h, hm => by
    unfold whileD at h ⊢
    cases e1 : ft env c with
    | none => rw [e1] at h; cases h
    | some p =>
      obtain ⟨b, c1⟩ := p
      rw [e1] at h
      cases b with
      | false => exact h
      | true =>
        dsimp only at h ⊢
        cases e2 : fb env c1 with
        | none => rw [e2] at h; cases h
        | some p2 =>
          obtain ⟨fl, env2, c2⟩ := p2
          rw [e2] at h
          cases fl with
          | nx => exact whileD_mono h (by omega)
          | ct => exact whileD_mono h (by omega)
          | bk => exact h
          | rt d => exact h
def fWhile (ft : FT) (fb : FS) : FS := whileD ft fb lim
section
variable {T : Tb} {n : Nat} {X : Cx} {pos : Pos} {e : Expr} {body : List Stmt} {ft : FT} {fb : FS}
theorem ts_while (hc : TrT T n X e ft) (hb : TrB T n X body fb) (hp : Tied T n X → PassesOwn (model X.prog X.w) X.A X.env X.xe := by intro _; exact PassesOwn.never) : TrS T n X (.While e body [] pos) (fWhile ft fb) := by
  refine ⟨fun t B G al c env σ H E r env' c' k hf q => ofS (ps_while (hp t) (ptS e) (pbS body)) ?_⟩
  unfold fWhile at hf
  refine ⟨fun m σ2 H2 => ∃ G2 al2 c2 env2, Le G al G2 al2 ∧ Ok T B G2 al2 c2 H2 env2 σ2 ∧ whileD ft fb m env2 c2 = some (r, env', c'), ⟨lim, G, al, c, env, .refl _ _, k, hf⟩, ?_⟩
  rintro m σ2 H2 ⟨G2, al2, c2, env2, le2, k2, hr⟩
  cases m with
  | zero => cases hr
  | succ m =>
    unfold whileD at hr
    split at hr
    case h_3 => cases hr
    case h_2 c3 e1 =>
      cases hr
      exact hc.run t G2 al2 c2 _ σ2 H2 _ _ _ k2.hs k2.he e1 fun G3 al3 H3 l3 hs3 => iteF (q G3 al3 σ2 H3 (le2.trans l3.le) (k2.step l3 hs3))
    case h_1 c3 e1 =>
      refine hc.run t G2 al2 c2 env2 σ2 H2 _ _ _ k2.hs k2.he e1 fun G3 al3 H3 l3 hs3 => iteT ?_
      have k3 := k2.step l3 hs3
      have le3 := le2.trans l3.le
      refine ⟨fun σ' H' => ∃ G' al' cn en, Le G al G' al' ∧ Ok T B G' al' cn H' en σ' ∧ whileD ft fb m en cn = some (r, env', c'), fun σ' H' ⟨G', al', cn, en, le', k', hr'⟩ => ⟨m, Nat.lt_succ_self m, G', al', cn, en, le', k', hr'⟩, ?_⟩
      split at hr
      case h_1 en cn eb => exact hb.run t B G3 al3 c3 env2 σ2 H3 _ _ _ _ k3 eb fun G5 al5 σ5 H5 l5 k5 => ⟨G5, al5, cn, en, le3.trans l5, k5, hr⟩
      case h_2 en cn eb => exact hb.run t B G3 al3 c3 env2 σ2 H3 _ _ _ _ k3 eb fun G5 al5 σ5 H5 l5 k5 => ⟨G5, al5, cn, en, le3.trans l5, k5, hr⟩
      case h_3 en cn eb => cases hr; exact hb.run t B G3 al3 c3 env2 σ2 H3 _ _ _ _ k3 eb fun G5 al5 σ5 H5 l5 k5 => q G5 al5 σ5 H5 (le3.trans l5) k5
      case h_4 dd en cn eb => cases hr; exact hb.run t B G3 al3 c3 env2 σ2 H3 _ _ _ _ k3 eb fun G5 al5 σ5 H5 l5 k5 => q G5 al5 σ5 H5 (le3.trans l5) k5
      case h_5 => cases hr
end

/-! ### a datum or an object of one's own -/
abbrev FX := En → Cs → Option (Sl × Cs)
abbrev AftX (T : Tb) (G : Hp) (al : List Addr) (H : Hp) (s : Sl) (c' : Cs) (Q : VK) : Prop := match s with
  | .f d => Aft T G al H d c' Q
  | .o d => AftN T G al H d c' Q
structure TrX (T : Tb) (n : Nat) (X : Cx) (e : Expr) (f : FX) : Prop where
  run : Tied T n X → ∀ (G : Hp) (al : List Addr) (c : Cs) (env : En) (σ : L2.St) (H : Hp) (Q : VK) (s : Sl) (c' : Cs), HSt T G al c H → EOk T G al H env σ → f env c = some (s, c') → AftX T G al H s c' Q → SemE X e σ H Q
def xF (f : FE) : FX := fun env c => match f env c with | some (d, c1) => some (.f d, c1) | none => none
def xO (f : FE) : FX := fun env c => match f env c with | some (d, c1) => some (.o d, c1) | none => none
section
variable {T : Tb} {n : Nat} {X : Cx} {pos px py pz pt pt2 : Pos} {a b e : Expr} {f : FE} {fa fb fc : FX}
theorem TrE.x (h : TrE T n X e f) : TrX T n X e (xF f) := by
  refine ⟨fun t G al c env σ H Q s c' hs he hf q => ?_⟩
  unfold xF at hf
  split at hf
  case h_2 => cases hf
  case h_1 d c1 e1 => cases hf; exact h.run t G al c env σ H Q d _ hs he e1 q
theorem TrN.x (h : TrN T n X e f) : TrX T n X e (xO f) := by
  refine ⟨fun t G al c env σ H Q s c' hs he hf q => ?_⟩
  unfold xO at hf
  split at hf
  case h_2 => cases hf
  case h_1 d c1 e1 => cases hf; exact h.run t G al c env σ H Q d _ hs he e1 q
/-- v is what the slot says; p: where it lies if it is one's own -/
def IsSl (T : Tb) (G : Hp) (al : List Addr) (H0 H : Hp) (s : Sl) (v : V) : Prop := match s with
  | .f d => Rp T G al d v
  | .o d => ∃ p o, v = .ref p ∧ G p = none ∧ p ∉ al ∧ H0 p = none ∧ H p = some o ∧ Bx T G al p o d
theorem IsSl.mono {G G' H0 H H' : Hp} {al al' : List Addr} {s : Sl} {v : V} (l : Stp G al H G' al' H') (h : IsSl T G al H0 H s v) : IsSl T G' al' H0 H' s v := by
  cases s with
  | f d => exact Rp.mono l.le h
  | o d =>
    obtain ⟨p, o, e, g, m, h0, hh, b⟩ := h
    obtain ⟨g', m', h'⟩ := l.fr p o g m hh
    exact ⟨p, o, e, g', m', h0, h', b.mono l.le⟩
theorem TrX.is (h : TrX T n X e fa) (t : Tied T n X) {G : Hp} {al : List Addr} {c c' : Cs} {env : En} {σ : L2.St} {H : Hp} {Q : VK} {s : Sl} (hs : HSt T G al c H) (he : EOk T G al H env σ) (hf : fa env c = some (s, c'))
    (q : ∀ (G' : Hp) (al' : List Addr) (H' : Hp) (v : V), Stp G al H G' al' H' → HSt T G' al' c' H' → IsSl T G' al' H H' s v → Q v H') : SemE X e σ H Q := by
  refine h.run t G al c env σ H Q s c' hs he hf ?_
  cases s with
  | f d => exact fun G' al' H' v l hs' r => q G' al' H' v l hs' r
  | o d => exact fun G' al' H' p o l hs' g m h0 hh b => q G' al' H' _ l hs' ⟨p, o, rfl, g, m, h0, hh, b⟩
def NewSl (T : Tb) (B : Base) (G : Hp) (al : List Addr) (H : Hp) (env : En) (σ : L2.St) (i : Nat) (v : V) : Sl → Prop
  | .f d => Rp T G al d v
  | .o d => ∃ p o, v = .ref p ∧ G p = none ∧ p ∉ al ∧ H p = some o ∧ Bx T G al p o d ∧ B.H p = none ∧ ∀ (j : Nat) (e : D), j ≠ i → env[j]? = some (some (.o e)) → σ[j]? ≠ some (some (.ref p))
theorem Ok.setS {B : Base} {G H : Hp} {al : List Addr} {c : Cs} {env : En} {σ : L2.St} (k : Ok T B G al c H env σ) (i : Nat) {s : Sl} {v : V} (h0 : i ≠ 0) (r : NewSl T B G al H env σ i v s) : Ok T B G al c H (env.set i (some s)) (σ.set i (some v)) := by
  cases s with
  | f d => exact k.set i r
  | o d =>
    obtain ⟨p, o, rfl, hg, ha, hp, hb, hB, hn⟩ := r
    refine ⟨k.hs0, k.hs, k.he.setO i hg ha hp hb hn, k.st, fun j e a q1 q2 => ?_, fun x e hx q1 => ?_⟩
    · by_cases hj : j = i
      · subst hj
        by_cases hl : j < env.length
        · rw [List.getElem?_set_self (by rw [← k.he.len]; exact hl)] at q2
          cases q2
          exact hB
        · rw [List.getElem?_eq_none (by simpa using hl)] at q1; cases q1
      · rw [List.getElem?_set_ne (Ne.symm hj)] at q1 q2
        exact k.nw j e a q1 q2
    · rw [List.getElem?_set_ne h0] at q1 ⊢
      exact k.se x e hx q1
/-- x, y = a, b -/
def fPar (i j : Nat) (fa fb : FX) : FS := fun env c => match fa env c with
  | some (s, c1) => match fb env c1 with
    | some (u, c2) => some (.nx, (env.set i (some s)).set j (some u), c2)
    | none => none
  | none => none
theorem IsSl.put {B : Base} {G H : Hp} {al : List Addr} {c : Cs} {env : En} {σ : L2.St} {G0 H0 : Hp} {al0 : List Addr} {c0 : Cs} {σ0 : L2.St} {env0 : En} (k0 : Ok T B G0 al0 c0 H0 env0 σ0) (k : Ok T B G al c H env σ) (i : Nat) {s : Sl} {v : V} (h0 : i ≠ 0) (r : IsSl T G al H0 H s v)
    (hn : ∀ (p : Addr) (d : D), s = .o d → v = .ref p → H0 p = none → ∀ (j : Nat) (e : D), j ≠ i → env[j]? = some (some (.o e)) → σ[j]? ≠ some (some (.ref p))) : Ok T B G al c H (env.set i (some s)) (σ.set i (some v)) := by
  refine k.setS i h0 ?_
  cases s with
  | f d => exact r
  | o d =>
    obtain ⟨p, o, e, g, m, hz, hh, b⟩ := r
    exact ⟨p, o, e, g, m, hh, b, fresh_before k0.hs0 k0.hs k0.st hz, hn p d rfl e hz⟩
theorem ts_par (i j : Nat) {x y : Str} {kt k2 : Nat} (ha : TrX T n X a fa) (hb : TrX T n X b fb) (hi0 : i ≠ 0 := by decide) (hj0 : j ≠ 0 := by decide) (hij : i ≠ j := by decide) (hi : X.N[i]? = some x := by rfl) (hj : X.N[j]? = some y := by rfl)
    (hx : X.env.scope.names.lookup x = some .local := by rfl) (hy : X.env.scope.names.lookup y = some .local := by rfl)
    (hst : starEach [a, b] X.env = (false, eval a X.env) :: starEach [b] X.env := by rfl) (hst2 : starEach [b] X.env = (false, eval b X.env) :: starEach [] X.env := by rfl)
    (hw : swappedStores [.Tuple [.Name x px, .Name y py] kt pt] (.Tuple [a, b] k2 pt2) X.env = pure (some [x, y]) := by rfl) (hs : swapsWithSole [.Tuple [.Name x px, .Name y py] kt pt] (.Tuple [a, b] k2 pt2) pos.line X.env = pure false := by rfl) :
    TrS T n X (.Assign [.Tuple [.Name x px, .Name y py] kt pt] (.Tuple [a, b] k2 pt2) pos) (fPar i j fa fb) := by
  refine ⟨fun t B G al c env σ H E r env' c' k hf q => ofS (ps_par t.calm t.nd hi hj hij hx hy (pa_cons (peS a) (pa_cons (peS b) pa_nil hst2) hst) hw hs) ?_⟩
  unfold fPar at hf
  split at hf
  case h_2 => cases hf
  case h_1 s c1 e1 =>
    split at hf
    case h_2 => cases hf
    case h_1 u c2 e2 =>
      cases hf
      refine ha.is t k.hs k.he e1 fun G1 al1 H1 v l1 hs1 r1 => ?_
      have k1 := k.step l1 hs1
      refine hb.is t hs1 k1.he e2 fun G2 al2 H2 w l2 hs2 r2 => ?_
      have k2 := k1.step l2 hs2
      have r1' := r1.mono l2
      refine ⟨v, w, rfl, ?_⟩
      -- names of one's own lie where they lay
      have old : ∀ (p : Addr) (jj : Nat) (e : D), H p = none → env[jj]? = some (some (.o e)) → σ[jj]? ≠ some (some (.ref p)) := fun p jj e hz q1 q2 => by
        obtain ⟨a', o', s', _, _, hh', _⟩ := k.he.own jj e q1
        rw [q2] at s'; cases s'
        rw [hz] at hh'; cases hh'
      have k3 := r1'.put k k2 i hi0 fun p d _ _ hz jj e _ q1 => old p jj e hz q1
      have k4 := r2.put k1 k3 j hj0 fun p d _ _ hz jj e hne q1 q2 => by
        by_cases hji : jj = i
        · subst hji
          by_cases hl : jj < env.length
          · rw [List.getElem?_set_self hl] at q1
            rw [List.getElem?_set_self (by rw [← k.he.len]; exact hl)] at q2
            cases q1; cases q2
            obtain ⟨p', o', e', _, _, _, hh', _⟩ := r1
            cases e'
            rw [hz] at hh'; cases hh'
          · rw [List.getElem?_eq_none (by simpa using hl)] at q1; cases q1
        · rw [List.getElem?_set_ne (Ne.symm hji)] at q1 q2
          exact old p jj e (fresh_before k.hs hs1 l1 hz) q1 q2
      exact q G2 al2 _ H2 (l1.le.trans l2.le) k4
end

/-! ### methods that change nothing -/
/-- a method by data -/
def rMd (T : Tb) (g : FC) : V → List V → Hp → VK → Prop := fun x xs H Q => ∃ (G : Hp) (al : List Addr) (c : Cs) (ds : List D) (d : D) (c' : Cs), HSt T G al c H ∧ RqL T G al H ds (x :: xs) ∧ g ds c = some (d, c') ∧ Aft T G al H d c' Q
def isTyM (tn : String) (c : Cs) (d : D) : Bool := match deref c d with
  | some (.lst _) => tn == "list"
  | some (.str _) => tn == "str"
  | _ => false
def fMd (tn : String) (g : FC) (fo : FE) (fa : FA) : FE := fun env c => match fo env c with
  | some (d0, c1) => if isTyM tn c1 d0 = true then match fa env c1 with
    | some (ds, c2) => g (d0 :: ds) c2
    | none => none else none
  | _ => none
section
variable {T : Tb} {n : Nat} {X : Cx} {pos p2 cpos apos : Pos} {o e : Expr} {es : List Expr} {fo : FE} {fa : FA} {g : FC} {tn : String} {nm : Str} {bid : String}
theorem isTyM_v (t : Tied T n X) {G : Hp} {al : List Addr} {c : Cs} {H : Hp} {d : D} {v : V} (hs : HSt T G al c H) (h : isTyM tn c d = true) (r : Rq T G al H d v) : tyV X.K tn v H := by
  unfold isTyM at h
  split at h
  case h_1 ds e =>
    obtain ⟨a, vs, rfl, hv, _⟩ := r.lst' hs e
    exact .inl ⟨by simpa using h, vs, SqL.of hv⟩
  case h_2 x e =>
    have := r.cellEq hs e ⟨fun _ z => (by cases z), fun _ _ z => (by cases z), fun _ _ z => (by cases z)⟩
    subst this
    rw [r.str_inv]
    show tn = "str"
    simpa using h
  case h_3 => cases h
theorem tr_md (pa : PlainAttrs tn) (slot : Slot tn nm bid) (hty : typeOf (.builtin bid) = pure (.type "method_descriptor")) (hm : Tied T n X → MtR X bid (rMd T g)) (ho : TrQ T n X o fo) (ha : TrQA T n X (e :: es) fa)
    (hbase : attributeBase o nm X.env (eval o X.env) = eval o X.env := by rfl)
    (hfew : ((backTo cpos (starEach (e :: es) X.env)).all (fun x => !x.1) && (backToKw cpos (keywordEach [] X.env)).all (fun x => x.1.isSome)
      && decide ((e :: es).length + ([] : List Keyword).length + (if ([] : List Keyword).isEmpty then 0 else 1) < 30)) = true := by rfl)
    (hline : (apos.endLine == cpos.line) = true := by rfl) (hs : starEach (e :: es) X.env = (false, eval e X.env) :: starEach es X.env := by rfl) (hplain : (backTo cpos (starEach es X.env)).any (·.1) = false := by rfl) :
    TrE T n X (.Call (.Attribute o nm apos) (e :: es) [] cpos) (fMd tn g fo fa) := by
  refine ⟨fun t G al c env σ H Q d c' hst he hf q => ofE (pe_bm pa slot hty (hm t) (peS o) (paS (e :: es)) hbase hfew hline hs hplain) ?_⟩
  unfold fMd at hf
  split at hf
  case h_2 => cases hf
  case h_1 d0 c1 e1 =>
    split at hf
    case isFalse => cases hf
    case isTrue hT =>
      split at hf
      case h_2 => cases hf
      case h_1 ds c2 e2 =>
        refine ho.run t G al c env σ H _ _ _ hst he e1 fun G1 al1 H1 v l1 hs1 r1 => ⟨isTyM_v t hs1 hT r1, ha.run t G1 al1 c1 env σ H1 _ _ _ hs1 (he.mono l1) e2 fun G2 al2 H2 vs l2 hs2 rl => ?_⟩
        exact ⟨G2, al2, c2, d0 :: ds, d, c', hs2, .cons (r1.mono l2) rl, hf, fun G' al' H' v' l' => q G' al' H' v' ((l1.trans l2).trans l')⟩
theorem mtr_of {r : V → List V → Hp → VK → Prop} (h : ∀ x xs H Q, r x xs H Q → ∃ r' : V → List V → Hp → VK → Prop, MtR X bid r' ∧ r' x xs H Q) : MtR X bid r :=
  fun pins s σ H x xs v us Q I rx rv hr => let ⟨_, o, q⟩ := h x xs H Q hr; o pins s σ H x xs v us Q I rx rv q
theorem RqL.cons_inv {G : Hp} {al : List Addr} {H : Hp} {d : D} {ds : List D} {v : V} {vs : List V} (h : RqL T G al H (d :: ds) (v :: vs)) : Rq T G al H d v ∧ RqL T G al H ds vs := by
  cases h with
  | cons a b => exact ⟨a, b⟩
/-- xs.count(k), ints -/
def mCount : FC := fun ds c => match ds with
  | [d, .int k] => match deref c d with
    | some (.lst xs) => match ints? xs with
      | some ns => some (.int (ns.count k : Nat), c)
      | none => none
    | _ => none
  | _ => none
theorem mt_mCount (t : Tied T n X) : MtR X "list.count" (rMd T mCount) := by
  refine mtr_of fun x xs H Q ⟨G, al, c, ds, d, c', hs, rl, hg, q⟩ => ?_
  unfold mCount at hg
  split at hg
  case h_2 => cases hg
  case h_1 d0 k =>
    split at hg
    case h_2 => cases hg
    case h_1 ys e =>
      split at hg
      case h_2 => cases hg
      case h_1 ns e2 =>
        cases hg
        obtain ⟨r0, rl0⟩ := rl.cons_inv
        obtain ⟨a, vs, rfl, hv, rl2⟩ := r0.lst' hs e
        have := ints?_map e2
        subst this
        rw [rl2.ints] at hv
        exact ⟨_, mt_lcount, a, ns, k, rfl, rl0.int1, SqL.of hv, q.now hs (.int _)⟩
/-- xs.index(y): the first place of an equal one -/
def firstEq (q : PyData) : List PyData → Option Nat
  | [] => none
  | p :: ps => if PyData.eqv p q = true then some 0 else (firstEq q ps).map (· + 1)
def mIndex : FC := fun ds c => match ds with
  | [d, y] => match deref c d with
    | some (.lst xs) => match pdns 59 xs, pdn deep y with
      | some ps, some q => match firstEq q ps with
        | some j => some (.int (j : Nat), c)
        | none => none
      | _, _ => none
    | _ => none
  | _ => none
theorem firstEq_spec {q : PyData} : ∀ {ps : List PyData} {j : Nat}, firstEq q ps = some j → (∃ z, ps[j]? = some z ∧ PyData.eqv z q = true) ∧ ∀ (m : Nat) (z : PyData), m < j → ps[m]? = some z → PyData.eqv z q = false
  | p :: ps, j, h => by
    unfold firstEq at h
    split at h
    case isTrue e => cases h; exact ⟨⟨p, rfl, e⟩, fun m z hm => by omega⟩
    case isFalse e =>
      obtain ⟨i, hi, rfl⟩ := Option.map_eq_some_iff.mp h
      obtain ⟨⟨z, h1, h2⟩, h3⟩ := firstEq_spec hi
      refine ⟨⟨z, by simpa using h1, h2⟩, fun m z hm hz => ?_⟩
      cases m with
      | zero => simp at hz; subst hz; simpa using e
      | succ m => exact h3 m z (by omega) (by simpa using hz)
theorem mt_mIndex (t : Tied T n X) : MtR X "list.index" (rMd T mIndex) := by
  refine mtr_of fun x xs H Q ⟨G, al, c, ds, d, c', hs, rl, hg, q⟩ => ?_
  unfold mIndex at hg
  split at hg
  case h_2 => cases hg
  case h_1 d0 y =>
    split at hg
    case h_2 => cases hg
    case h_1 ys e =>
      split at hg
      case h_2 => cases hg
      case h_1 ps p e2 e3 =>
        split at hg
        case h_2 => cases hg
        case h_1 j e4 =>
          cases hg
          obtain ⟨r0, rl0⟩ := rl.cons_inv
          obtain ⟨a, vs, rfl, hv, rl2⟩ := r0.lst' hs e
          obtain ⟨w, rfl, rw'⟩ := rl0.one
          obtain ⟨⟨z, h1, h2⟩, h3⟩ := firstEq_spec e4
          have hps := rl2.dp hs.ex 59 ys ps vs e2
          have hp := rw'.dp hs e3
          rw [← t.K] at hps hp
          have sh : SeqAt.shaped (.list ps) = true := by
            obtain ⟨h1, h2⟩ := pdns_shape 59 ys ps e2
            unfold SeqAt.shaped
            rw [Bool.and_eq_true, decide_eq_true_eq]
            refine ⟨by simpa [PyData.canLay0] using h1, ?_⟩
            show PyData.depthAll ps + 1 ≤ 64
            omega
          have un : X.A.units + 65 < cLine := by have := t.room.un; omega
          exact ⟨_, mt_indexD un, a, w, p, ps, j, z, rfl, rfl, .lst (SqL.of hv) hps, hp, sh, pdn_shaped e3, h1, h2, h3, q.now hs (.int _)⟩
def strs? : List D → Option (List Str)
  | [] => some []
  | .str i :: r => match strs? r with | some is => some (i :: is) | none => none
  | _ :: _ => none
theorem strs?_map : ∀ {ds : List D} {ns : List Str}, strs? ds = some ns → ds = ns.map D.str
  | [], _, h => by cases h; rfl
  | .str i :: r, ns, h => by
    simp only [strs?] at h
    split at h
    case h_2 => cases h
    case h_1 is e => cases h; rw [strs?_map e]; rfl
  | .non :: _, _, h => by simp [strs?] at h
  | .bl _ :: _, _, h => by simp [strs?] at h
  | .int _ :: _, _, h => by simp [strs?] at h
  | .tup _ :: _, _, h => by simp [strs?] at h
  | .lst _ :: _, _, h => by simp [strs?] at h
  | .dic _ _ :: _, _, h => by simp [strs?] at h
  | .obj _ _ :: _, _, h => by simp [strs?] at h
  | .cell _ :: _, _, h => by simp [strs?] at h
  | .scr _ :: _, _, h => by simp [strs?] at h
  | .cls _ :: _, _, h => by simp [strs?] at h
theorem strs?_of (ns : List Str) : strs? (ns.map D.str) = some ns := by
  induction ns with
  | nil => rfl
  | cons a r ih => simp [strs?, ih]
theorem RpL.strs {G : Hp} {al : List Addr} {H : Hp} : ∀ {bs : List Str} {vs : List V}, RpL T G al (bs.map D.str) vs → vs = bs.map V.str
  | [], _, .nil => rfl
  | b :: bs, _, .cons r t => by
    have e := Rq.str_inv (H := G) (.inl r)
    rw [e, RpL.strs (H := G) t]; rfl
/-- sep.join(xs) -/
def mJoin : FC := fun ds c => match ds with
  | [.str a, d] => match seqOf c d with
    | some xs => match strs? xs with
      | some ys => if (ys.map (·.length)).sum + ys.length * a.length ≤ lim then some (.str (Txt.join a ys), c) else none
      | none => none
    | none => none
  | _ => none
theorem mt_mJoin (t : Tied T n X) : MtR X "str.join" (rMd T mJoin) := by
  refine mtr_of fun x xs H Q ⟨G, al, c, ds, d, c', hs, rl, hg, q⟩ => ?_
  unfold mJoin at hg
  split at hg
  case h_2 => cases hg
  case h_1 a d0 =>
    split at hg
    case h_2 => cases hg
    case h_1 ys e =>
      split at hg
      case h_2 => cases hg
      case h_1 ns e2 =>
        split at hg
        case isFalse => cases hg
        case isTrue hl =>
          cases hg
          obtain ⟨r0, rl0⟩ := rl.cons_inv
          obtain ⟨w, rfl, rw'⟩ := rl0.one
          obtain ⟨p, vs, rfl, hv, rl2⟩ := rw'.seq' hs e
          have := strs?_map e2
          subst this
          rw [rl2.strs (H := G), ← t.K] at hv
          exact ⟨_, mt_join, a, p, ns, r0.str_inv, rfl, hv, Nat.le_trans hl (by decide), q.now hs (.str _)⟩
/-- x.split(sep): a new list -/
def mSplit : FC := fun ds c => match ds with
  | [.str a, .str b] => if (!(b.length == 0) && decide (a.length + 2 ≤ lim)) = true then some (.lst ((Txt.split a b).map D.str), c) else none
  | _ => none
theorem RpL.of_strs {G : Hp} {al : List Addr} : ∀ (ns : List Str), RpL T G al (ns.map D.str) (ns.map V.str)
  | [] => .nil
  | n :: ns => .cons (.str n) (RpL.of_strs ns)
theorem mt_mSplit (t : Tied T n X) : MtR X "str.split" (rMd T mSplit) := by
  refine mtr_of fun x xs H Q ⟨G, al, c, ds, d, c', hs, rl, hg, q⟩ => ?_
  unfold mSplit at hg
  split at hg
  case h_2 => cases hg
  case h_1 a b =>
    split at hg
    case isFalse => cases hg
    case isTrue hl =>
      cases hg
      obtain ⟨r0, rl0⟩ := rl.cons_inv
      obtain ⟨w, rfl, rw'⟩ := rl0.one
      simp only [Bool.and_eq_true, decide_eq_true_eq, Bool.not_eq_true'] at hl
      exact ⟨_, mt_split, a, b, r0.str_inv, by rw [rw'.str_inv], hl.1, Nat.le_trans hl.2 lim_line, fun p hp => q.new hs hp (.lst (RpL.of_strs _))⟩
end
end Pd
set_option Elab.async false
set_option linter.all false
set_option maxRecDepth 100000
/-! Pd13: dicts whose keys are tuples. -/
namespace Pd
open PySem PySem.Spec PyProof.Rows L2

def isTupD : D → Bool
  | .tup _ => true
  | _ => false
def dHas (ks : List D) (key : D) : Bool := ks.any fun k => decide (nk k = nk key)
def dPutV (ks ds : List D) (key v : D) : List D := List.zipWith (fun k d => if nk k = nk key then v else d) ks ds
def dPut (ks ds : List D) (key v : D) : List D × List D := if dHas ks key = true then (ks, dPutV ks ds key v) else (ks ++ [key], ds ++ [v])
def dGet (ks ds : List D) (key : D) : Option D := ((ks.zip ds).find? fun p => decide (nk p.1 = nk key)).map (·.2)
/-- a key that may be used -/
def keyOk (d : D) : Bool := match d with
  | .tup _ => match nk d with | some k => decide (k.depth ≤ 8) | none => false
  | _ => false
section
variable {T : Tb} {n : Nat} {X : Cx}
mutual
theorem Rp.nested {pins : List (Addr × Obj)} {s : Shared} {σ : L2.St} {G H : Hp} {al : List Addr} (I : Inv X pins σ H s) (hK : X.K = T.K) (ex : ∀ a o, G a = some o → H a = some o) : ∀ (d : D) (k : NestedKey) (v : V) (u : Value), nk d = some k → Rp T G al d v → RelV v u → NestedIs s.heap k u
  | .non, k, v, u, e, r, rv => by
    simp only [nk] at e; cases e
    have := Rq.non_inv (H := H) (.inl r)
    subst this
    obtain rfl : u = .none := rv
    exact .none
  | .bl b, k, v, u, e, r, rv => by
    simp only [nk] at e; cases e
    have := r.bl_inv
    subst this
    obtain rfl : u = .bool b := rv
    exact .bool rfl
  | .int i, k, v, u, e, r, rv => by
    simp only [nk] at e; cases e
    have := Rq.int_inv (H := H) (.inl r)
    subst this
    obtain ⟨t, rfl⟩ := rv
    exact .int i t
  | .str x, k, v, u, e, r, rv => by
    simp only [nk] at e; cases e
    have := Rq.str_inv (H := H) (.inl r)
    subst this
    obtain ⟨t, rfl⟩ := rv
    exact .text x t
  | .tup xs, k, v, u, e, r, rv => by
    simp only [nk] at e
    obtain ⟨ks, e1, rfl⟩ := Option.map_eq_some_iff.mp e
    obtain ⟨a, vs, rfl, hq, rl⟩ := r.tup_inv
    obtain rfl : u = .ref a := rv
    have hq' := sqT_h ex hq
    rw [← hK] at hq'
    obtain ⟨its, rv', ⟨o, ho, hc, m, hd⟩, _⟩ := I.tuple hq'
    exact .tup ho hc hd (by simpa using RpL.nested I hK ex xs ks vs its e1 rl rv')
  | .lst _, k, v, u, e, r, rv => by simp [nk] at e
  | .dic _ _, k, v, u, e, r, rv => by simp [nk] at e
  | .obj _ _, k, v, u, e, r, rv => by simp [nk] at e
  | .cell _, k, v, u, e, r, rv => by simp [nk] at e
  | .scr _, k, v, u, e, r, rv => by simp [nk] at e
  | .cls _, k, v, u, e, r, rv => by simp [nk] at e
theorem RpL.nested {pins : List (Addr × Obj)} {s : Shared} {σ : L2.St} {G H : Hp} {al : List Addr} (I : Inv X pins σ H s) (hK : X.K = T.K) (ex : ∀ a o, G a = some o → H a = some o) : ∀ (ds : List D) (ks : List NestedKey) (vs : List V) (us : List Value), nks ds = some ks → RpL T G al ds vs → Vals vs us → NestedAll s.heap ks us
  | [], ks, vs, us, e, r, rv => by
    simp only [nks] at e; cases e
    cases r
    cases rv
    exact .nil
  | d :: ds, ks, vs, us, e, r, rv => by
    simp only [nks] at e
    split at e
    case h_2 => cases e
    case h_1 k ks' e1 e2 =>
      cases e
      cases r with
      | cons r1 r2 =>
        cases rv with
        | cons v1 v2 => exact .cons (Rp.nested I hK ex d k _ _ e1 r1 v1) (RpL.nested I hK ex ds ks' _ _ e2 r2 v2)
end
/-- the dict at p, its keys tuples: xs its entries -/
structure DAt (T : Tb) (G : Hp) (al : List Addr) (h : Heap) (p : Addr) (ks ds : List D) (xs : List (NestedKey × Addr × Value)) (vs : List V) : Prop where
  of_ : h.DictOfH (nestedKind T.P T.w) p xs
  ns : (p == sysModules) = false
  hk : ks.map nk = xs.map (fun x => some x.1)
  dp : ∀ x ∈ xs, x.1.depth ≤ 8
  rk : RpL T G al ks (xs.map fun x => V.ref x.2.1)
  rd : RpL T G al ds vs
  rv : Vals vs (xs.map fun x => x.2.2)
  tp : ∀ k ∈ ks, ∃ es, k = D.tup es
theorem key_is (t : Tied T n X) {pins : List (Addr × Obj)} {s : Shared} {σ : L2.St} {G H : Hp} {al : List Addr} {c : Cs} (I : Inv X pins σ H s) (hs : HSt T G al c H) {d : D} {v : V} {u : Value} (h : keyOk d = true) (r : Rp T G al d v) (ru : RelV v u) :
    ∃ k a, nk d = some k ∧ u = .ref a ∧ v = .ref a ∧ (nestedKind T.P T.w).is s.heap k a := by
  unfold keyOk at h
  split at h
  case h_2 => cases h
  case h_1 es =>
    split at h
    case h_2 => cases h
    case h_1 k e =>
      obtain ⟨a, vs, rfl, _, _⟩ := r.tup_inv
      obtain rfl : u = .ref a := ru
      exact ⟨k, a, e, rfl, rfl, r.nested I t.K hs.ex _ _ _ _ e rfl, of_decide_eq_true h⟩
theorem dict_at (t : Tied T n X) {pins : List (Addr × Obj)} {s : Shared} {σ : L2.St} {G H : Hp} {al : List Addr} {c : Cs} (I : Inv X pins σ H s) (hs : HSt T G al c H) {p : Addr} {ho : HO} {ks ds : List D} (hp : H p = some ho) (b : Bx T G al p ho (.dic ks ds)) (hT : ks.all isTupD = true) :
    ∃ xs vs, DAt T G al s.heap p ks ds xs vs := by
  cases b with
  | dK e r =>
    rename_i kvs
    have hnil : kvs = [] := by
      cases kvs with
      | nil => rfl
      | cons q r =>
        subst e
        obtain ⟨k, v⟩ := q
        cases k <;> simp [keyD, isTupD] at hT
    subst hnil
    obtain ⟨z, hd, vs, rel, dd⟩ := dk_of I.hok hp
    cases rel
    obtain ⟨o, es, ep, h1, h2, h3, h4, h5, h6⟩ := dd
    have hes : es.toList = [] := by
      cases q : es.toList with
      | nil => rfl
      | cons y r => rw [q] at h5; cases h5
    cases r
    subst e
    exact ⟨[], [], ⟨o, es, ep, h1, h2, h3, by rw [hes]; rfl, fun x hx => (by cases hx), List.nodup_nil⟩, hd, rfl, fun x hx => (by cases hx), .nil, .nil, .nil, fun k hk => (by cases hk)⟩
  | dN h0 hk hd r1 r2 hv htp =>
    rename_i xs vs
    obtain ⟨⟨hns, o, es, ep, h1, h2, h3, h4, h5⟩, _⟩ := I.hok p _ hp
    refine ⟨xs, vs, ⟨o, es, ep, h1, h2, h3, h4, fun x hx => ?_, h5⟩, hns, hk, hd, r1, r2, hv, htp⟩
    obtain ⟨j, hj⟩ := List.mem_iff_getElem?.mp hx
    have hkj : ∃ d, ks[j]? = some d ∧ nk d = some x.1 := by
      have : (ks.map nk)[j]? = some (some x.1) := by rw [hk, List.getElem?_map, hj]; rfl
      rw [List.getElem?_map] at this
      obtain ⟨d, e1, e2⟩ := Option.map_eq_some_iff.mp this
      exact ⟨d, e1, e2⟩
    obtain ⟨d, e1, e2⟩ := hkj
    obtain ⟨v, hv', rv⟩ := r1.get e1
    rw [List.getElem?_map, hj] at hv'
    cases hv'
    exact ⟨rv.nested I t.K hs.ex d _ _ _ e2 rfl, hd x hx⟩
theorem dHas_at {ks : List D} {xs : List (NestedKey × Addr × Value)} {key : D} {k : NestedKey} (h : ks.map nk = xs.map (fun x => some x.1)) (hk : nk key = some k) : dHas ks key = (atKey xs k).isSome := by
  induction xs generalizing ks with
  | nil =>
    cases ks with
    | nil => rfl
    | cons _ _ => simp at h
  | cons x xs ih =>
    cases ks with
    | nil => simp at h
    | cons d ks =>
      simp only [List.map_cons, List.cons.injEq] at h
      have := ih h.2
      unfold dHas at this ⊢
      rw [List.any_cons, this, h.1, hk]
      unfold atKey
      rw [List.find?_cons]
      by_cases e : x.1 = k
      · simp [e]
      · simp [e]
theorem dGet_at {G : Hp} {al : List Addr} {ks ds : List D} {xs : List (NestedKey × Addr × Value)} {vs : List V} {key d : D} {k : NestedKey} (h : ks.map nk = xs.map (fun x => some x.1)) (hk : nk key = some k) (rd : RpL T G al ds vs) (rv : Vals vs (xs.map fun x => x.2.2)) (hg : dGet ks ds key = some d) :
    ∃ (p : Addr × Value) (v : V), atKey xs k = some p ∧ RelV v p.2 ∧ Rp T G al d v := by
  induction xs generalizing ks ds vs with
  | nil =>
    cases ks with
    | nil => simp [dGet] at hg
    | cons _ _ => simp at h
  | cons x xs ih =>
    cases ks with
    | nil => simp at h
    | cons d0 ks =>
      simp only [List.map_cons, List.cons.injEq] at h
      cases rv with
      | cons v1 v2 =>
        cases rd with
        | cons r1 r2 =>
          unfold dGet at hg
          rw [List.zip_cons_cons, List.find?_cons, h.1, hk] at hg
          unfold atKey
          rw [List.find?_cons]
          by_cases e : x.1 = k
          · simp [e] at hg ⊢
            subst hg
            exact ⟨_, v1, r1⟩
          · simp only [e, decide_false, Option.some.injEq] at hg ⊢
            obtain ⟨p, v, h1, h2, h3⟩ := ih h.2 r2 v2 (by unfold dGet; rw [hk]; exact hg)
            exact ⟨p, v, by unfold atKey at h1; exact h1, h2, h3⟩
theorem put_vals {G : Hp} {al : List Addr} {key dv : D} {k : NestedKey} {w : Value} {v : V} (hk : nk key = some k) (r : Rp T G al dv v) (rw' : RelV v w) : ∀ {xs : List (NestedKey × Addr × Value)} {ks ds : List D} {vs : List V}, ks.map nk = xs.map (fun x => some x.1) → RpL T G al ds vs → Vals vs (xs.map fun x => x.2.2) →
    ∃ vs', RpL T G al (dPutV ks ds key dv) vs' ∧ Vals vs' ((xs.map (putAt k w)).map fun x => x.2.2)
  | [], [], _, _, _, .nil, .nil => ⟨[], .nil, .nil⟩
  | x :: xs, d0 :: ks, d1 :: ds, v0 :: vs, h, .cons r1 r2, .cons v1 v2 => by
    simp only [List.map_cons, List.cons.injEq] at h
    obtain ⟨vs', h1, h2⟩ := put_vals hk r rw' h.2 r2 v2
    unfold dPutV at h1 ⊢
    rw [List.zipWith_cons_cons, h.1, hk]
    rw [hk] at h1
    by_cases e : x.1 = k
    · refine ⟨v :: vs', ?_, ?_⟩
      · simp only [e, if_true]
        exact .cons r h1
      · simp only [List.map_cons]
        refine .cons ?_ h2
        unfold putAt
        rw [if_pos e]
        exact rw'
    · refine ⟨v0 :: vs', ?_, ?_⟩
      · simp only [Option.some.injEq, e, if_false]
        exact .cons r1 h1
      · simp only [List.map_cons]
        refine .cons ?_ h2
        unfold putAt
        rw [if_neg e]
        exact v1
  | [], _ :: _, _, _, h, _, _ => by simp at h
  | _ :: _, [], _, _, h, _, _ => by simp at h
  | _ :: _, _ :: _, [], _, _, .nil, rv => by cases rv
theorem keys_putAt (xs : List (NestedKey × Addr × Value)) (k : NestedKey) (w : Value) : (xs.map (putAt k w)).map (fun x => V.ref x.2.1) = xs.map fun x => V.ref x.2.1 := by
  rw [List.map_map]
  refine List.map_congr_left fun x _ => ?_
  unfold Function.comp putAt
  dsimp only
  split <;> rfl
theorem keys_putAt' (xs : List (NestedKey × Addr × Value)) (k : NestedKey) (w : Value) : (xs.map (putAt k w)).map (fun x => some x.1) = xs.map fun x => some x.1 := by
  rw [List.map_map]
  refine List.map_congr_left fun x _ => ?_
  unfold Function.comp putAt
  dsimp only
  split <;> rfl
def uSetN : Ust := fun d di dv => match d with
  | .dic ks ds => if (ks.all isTupD && keyOk di && decide (ks.length < lim)) = true then some (.dic (dPut ks ds di dv).1 (dPut ks ds di dv).2) else none
  | _ => none
theorem raw_ok {H : Hp} {h : Heap} {p : Addr} {xs : List (NestedKey × Addr × Value)} (hns : (p == sysModules) = false) (of_ : h.DictOfH (nestedKind T.P T.w) p xs) : ObjOk T.P T.w H h p (.ext (RawK T.P T.w p xs)) := by
  obtain ⟨o, es, ep, h1, h2, h3, h4, h5, h6⟩ := of_
  exact ⟨⟨hns, o, es, ep, h1, h2, h3, h4, h6⟩, ⟨o, h1⟩, fun a b ⟨hn, o', es', ep', g1, g2⟩ k => ⟨hn, o', es', ep', k o' g1, g2⟩⟩
theorem set_uSetN (t : Tied T n X) : PSet X (rSt T uSetN) := by
  intro pins s σ H o i v ov iv u Q I ro ri rv h
  obtain ⟨G, al, c, p, ho, d, di, dv, d', rfl, hs, hp, b, r1, r2, hu, q⟩ := h
  unfold uSetN at hu
  split at hu
  case h_2 => cases hu
  case h_1 ks ds =>
    split at hu
    case isFalse => cases hu
    case isTrue hb =>
      cases hu
      simp only [Bool.and_eq_true, decide_eq_true_eq] at hb
      obtain ⟨⟨hT, hko⟩, hlen⟩ := hb
      obtain ⟨k, a, ek, rfl, rfl, his⟩ := key_is t I hs hko r1 ri
      obtain ⟨xs, vs, D0⟩ := dict_at t I hs hp b hT
      have ro' : ov = .ref p := ro
      subst ro'
      have hx : xs.length = ks.length := by have := congrArg List.length D0.hk; simpa using this.symm
      have hroom : (nestedKind T.P T.w).room X.A.in1 := by
        show X.A.in1.units + 8 < cLine
        have := t.room.un
        show X.A.units + 1 + 8 < cLine
        omega
      have hmod : model X.prog X.w = model T.P T.w := by rw [t.P, t.w]
      rw [hmod]
      have mu : Mut (H p) := by
        rw [hp]
        cases b <;> exact True.intro
      refine wpAny_setItem_heap (knd := nestedKind T.P T.w) hroom his D0.of_ (fun h' of' hsb => ?_) (by rw [hx]; exact Nat.le_trans (Nat.le_of_lt hlen) lim_line)
      have ex' : ∃ q, h'.get? p = some q := let ⟨q, _, _, e, _⟩ := of'; ⟨q, e⟩
      have I' : Inv X pins σ (upd H p (.ext (RawK T.P T.w p (storedH xs k a u)))) { s with heap := h', toks := s.toks + (nestedKind T.P T.w).draws k } :=
        d_write I mu hsb ex' (by rw [t.P, t.w]; exact raw_ok D0.ns of')
      refine ⟨_, I', q _ ?_⟩
      have hdk : k.depth ≤ 8 := his.2
      have tpk : ∃ es, di = D.tup es := by
        cases di with
        | tup es => exact ⟨es, rfl⟩
        | _ => simp [keyOk] at hko
      unfold dPut
      rw [dHas_at D0.hk ek]
      cases hat : atKey xs k with
      | none =>
        rw [storedH_new hat]
        simp only [Option.isSome_none, Bool.false_eq_true, if_false]
        refine .dN (by simp) (by simp [D0.hk, ek]) (fun x hx => ?_) (by rw [List.map_append]; exact D0.rk.append (.cons r1 .nil)) (D0.rd.append (.cons r2 .nil)) (by rw [List.map_append]; exact Vals.append D0.rv (.cons rv .nil)) (fun y hy => ?_)
        · rcases List.mem_append.mp hx with hx | hx
          · exact D0.dp x hx
          · simp at hx; subst hx; exact hdk
        · rcases List.mem_append.mp hy with hy | hy
          · exact D0.tp y hy
          · simp at hy; subst hy; exact tpk
      | some pp =>
        rw [storedH_old hat]
        simp only [Option.isSome_some, if_true]
        obtain ⟨vs', h1, h2⟩ := put_vals ek r2 rv D0.hk D0.rd D0.rv
        refine .dN (fun e => ?_) (by rw [keys_putAt']; exact D0.hk) (fun x hx => ?_) (by rw [keys_putAt]; exact D0.rk) h1 h2 D0.tp
        · have : xs = [] := by simpa using e
          rw [this] at hat; cases hat
        · obtain ⟨y, hy, rfl⟩ := List.mem_map.mp hx
          have := D0.dp y hy
          unfold putAt
          split <;> exact this
end
end Pd
set_option Elab.async false
set_option linter.all false
set_option maxRecDepth 100000
/-! Pd14: sorted dicts and sets of tuples; what else is asked of a dict; texts written. -/
namespace Pd
open PySem PySem.Spec PyProof.Rows L2

/-! ### rows of ints in their order -/
def insL (x : List Int) : List (List Int) → List (List Int)
  | [] => [x]
  | y :: r => if x < y then x :: y :: r else if x = y then y :: r else y :: insL x r
/-- in order, each once -/
def sortL : List (List Int) → List (List Int)
  | [] => []
  | x :: r => insL x (sortL r)
theorem ltI_irrefl (a : List Int) : ¬ a < a := List.lt_irrefl a
theorem ltI_trans {a b c : List Int} (h : a < b) (k : b < c) : a < c := List.lt_trans h k
theorem ltI_tri (a b : List Int) : a < b ∨ a = b ∨ b < a := by
  induction a generalizing b with
  | nil =>
    cases b with
    | nil => exact .inr (.inl rfl)
    | cons y s => exact .inl (by simp)
  | cons x r ih =>
    cases b with
    | nil => exact .inr (.inr (by simp))
    | cons y s =>
      simp only [List.cons_lt_cons_iff, List.cons.injEq]
      rcases Int.lt_trichotomy x y with h | h | h
      · exact .inl (.inl h)
      · rcases ih s with k | k | k
        · exact .inl (.inr ⟨h, k⟩)
        · exact .inr (.inl ⟨h, k⟩)
        · exact .inr (.inr (.inr ⟨h.symm, k⟩))
      · exact .inr (.inr (.inl h))
abbrev StrI (l : List (List Int)) : Prop := l.Pairwise (· < ·)
theorem mem_insL {x y : List Int} {l : List (List Int)} : y ∈ insL x l ↔ y = x ∨ y ∈ l := by
  induction l with
  | nil => simp [insL]
  | cons z r ih =>
    unfold insL
    split
    · simp
    · split
      · rename_i h; subst h; simp
      · simp only [List.mem_cons, ih]
        constructor
        · rintro (h | h | h) <;> simp [h]
        · rintro (h | h | h) <;> simp [h]
theorem mem_sortL {x : List Int} : ∀ {l : List (List Int)}, x ∈ sortL l ↔ x ∈ l
  | [] => by simp [sortL]
  | y :: r => by rw [sortL, mem_insL, mem_sortL, List.mem_cons]
theorem str_insL {x : List Int} {l : List (List Int)} (h : StrI l) : StrI (insL x l) := by
  induction l with
  | nil => simp [insL]
  | cons z r ih =>
    have h' := List.pairwise_cons.mp h
    unfold insL
    split
    · rename_i hlt
      refine List.pairwise_cons.mpr ⟨fun y hy => ?_, h⟩
      rcases List.mem_cons.mp hy with rfl | hy
      · exact hlt
      · exact ltI_trans hlt (h'.1 y hy)
    · rename_i hn
      split
      · exact h
      · rename_i hne
        refine List.pairwise_cons.mpr ⟨fun y hy => ?_, ih h'.2⟩
        rcases mem_insL.mp hy with rfl | hy
        · rcases ltI_tri y z with q | q | q
          · exact absurd q hn
          · exact absurd q hne
          · exact q
        · exact h'.1 y hy
theorem str_sortL : ∀ l : List (List Int), StrI (sortL l)
  | [] => List.Pairwise.nil
  | x :: r => str_insL (str_sortL r)
theorem str_uniq : ∀ {a b : List (List Int)}, StrI a → StrI b → (∀ x, x ∈ a ↔ x ∈ b) → a = b
  | [], [], _, _, _ => rfl
  | [], y :: s, _, _, h => by have := (h y).mpr List.mem_cons_self; cases this
  | x :: r, [], _, _, h => by have := (h x).mp List.mem_cons_self; cases this
  | x :: r, y :: s, ha, hb, h => by
    have ha' := List.pairwise_cons.mp ha
    have hb' := List.pairwise_cons.mp hb
    have e : x = y := by
      rcases List.mem_cons.mp ((h x).mp List.mem_cons_self) with q | q
      · exact q
      · rcases List.mem_cons.mp ((h y).mpr List.mem_cons_self) with p | p
        · exact p.symm
        · exact absurd (ltI_trans (ha'.1 y p) (hb'.1 x q)) (ltI_irrefl _)
    subst e
    have : r = s := str_uniq ha'.2 hb'.2 fun z => by
      constructor
      · intro hz
        rcases List.mem_cons.mp ((h z).mp (List.mem_cons_of_mem _ hz)) with q | q
        · subst q; exact absurd (ha'.1 z hz) (ltI_irrefl _)
        · exact q
      · intro hz
        rcases List.mem_cons.mp ((h z).mpr (List.mem_cons_of_mem _ hz)) with q | q
        · subst q; exact absurd (hb'.1 z hz) (ltI_irrefl _)
        · exact q
    rw [this]
theorem sortL_of_str {l : List (List Int)} (h : StrI l) : sortL l = l := str_uniq (str_sortL l) h fun _ => mem_sortL
theorem sortL_congr {a b : List (List Int)} (h : ∀ x, x ∈ a ↔ x ∈ b) : sortL a = sortL b := str_uniq (str_sortL a) (str_sortL b) fun x => by rw [mem_sortL, mem_sortL]; exact h x
theorem code_lex64 {B : Int} : ∀ {a b : List Int}, a.length = b.length → TS.Bd B a → TS.Bd B b → (TS.code B a < TS.code B b ↔ a < b)
  | [], [], _, _, _ => by simp [TS.code]
  | x :: r, y :: s, hl, ha, hb => by
    have hl' : r.length = s.length := by simpa using hl
    rw [List.cons_lt_cons_iff]
    rcases Int.lt_trichotomy x y with h | h | h
    · exact ⟨fun _ => .inl h, fun _ => TS.code_lt hl' ha.tail hb.tail h⟩
    · subst h
      rw [TS.code_same hl', code_lex64 hl' ha.tail hb.tail]
      exact ⟨fun q => .inr ⟨rfl, q⟩, fun q => by rcases q with q | ⟨_, q⟩; exact absurd q (Int.lt_irrefl _); exact q⟩
    · have := TS.code_lt (B := B) hl'.symm hb.tail ha.tail h
      exact ⟨fun q => by omega, fun q => by rcases q with q | ⟨q, _⟩ <;> omega⟩
theorem str_of_code {B : Int} {d : Nat} {l : List (List Int)} (hb : ∀ x ∈ l, x.length = d ∧ TS.Bd B x) (hn : l.Nodup) (hp : l.Pairwise fun a b => TS.code B a ≤ TS.code B b) : StrI l := by
  induction l with
  | nil => exact .nil
  | cons x r ih =>
    have hn' := List.nodup_cons.mp hn
    have hp' := List.pairwise_cons.mp hp
    refine List.pairwise_cons.mpr ⟨fun y hy => ?_, ih (fun z hz => hb z (List.mem_cons_of_mem _ hz)) hn'.2 hp'.2⟩
    obtain ⟨l1, b1⟩ := hb x List.mem_cons_self
    obtain ⟨l2, b2⟩ := hb y (List.mem_cons_of_mem _ hy)
    rcases ltI_tri x y with q | q | q
    · exact q
    · subst q; exact absurd hy hn'.1
    · have h1 := hp'.1 y hy
      have h2 := (code_lex64 (l2.trans l1.symm) b2 b1).mpr q
      omega

/-! ### tuples of ints -/
def tupsI? : List D → Option (List (List Int))
  | [] => some []
  | .tup xs :: r => match ints? xs, tupsI? r with
    | some ns, some nss => some (ns :: nss)
    | _, _ => none
  | _ :: _ => none
def tupI (ns : List Int) : D := .tup (ns.map D.int)
theorem tupsI?_map : ∀ {ds : List D} {nss : List (List Int)}, tupsI? ds = some nss → ds = nss.map tupI
  | [], _, h => by cases h; rfl
  | .tup xs :: r, nss, h => by
    simp only [tupsI?] at h
    split at h
    case h_2 => cases h
    case h_1 ns nss' e1 e2 => cases h; rw [tupsI?_map e2, ints?_map e1]; rfl
  | .non :: _, _, h => by simp [tupsI?] at h
  | .bl _ :: _, _, h => by simp [tupsI?] at h
  | .int _ :: _, _, h => by simp [tupsI?] at h
  | .str _ :: _, _, h => by simp [tupsI?] at h
  | .lst _ :: _, _, h => by simp [tupsI?] at h
  | .dic _ _ :: _, _, h => by simp [tupsI?] at h
  | .obj _ _ :: _, _, h => by simp [tupsI?] at h
  | .cell _ :: _, _, h => by simp [tupsI?] at h
  | .scr _ :: _, _, h => by simp [tupsI?] at h
  | .cls _ :: _, _, h => by simp [tupsI?] at h
theorem tupsI?_of (nss : List (List Int)) : tupsI? (nss.map tupI) = some nss := by
  induction nss with
  | nil => rfl
  | cons a r ih => simp [tupsI?, tupI, ints?_of] at ih ⊢; rw [ih]

/-! ### sorted(set(xs)), xs rows of ints -/
def rowsOk (nss : List (List Int)) : Bool := decide (nss.length < 64) && nss.all fun ns => decide (1 ≤ ns.length) && (nss.all fun ms => decide (ms.length = ns.length)) && ns.all fun m => decide (0 ≤ m) && decide (m < 64)
def fSortSet (f : FE) : FE := fun env c => match f env c with
  | some (.lst xs, c1) => match tupsI? xs with
    | some nss => if rowsOk nss = true then some (.lst ((sortL nss).map tupI), c1) else none
    | none => none
  | _ => none
section
variable {T : Tb} {n : Nat} {X : Cx} {pos p p2 pos2 : Pos} {e : Expr} {fe : FE}
theorem rows_at {G H : Hp} {al : List Addr} (ex : ∀ a o, G a = some o → H a = some o) : ∀ {nss : List (List Int)} {vs : List V}, RpL T G al (nss.map tupI) vs → ∃ ks : List (Addr × List Int), vs = ks.map (fun q => V.ref q.1) ∧ ks.map (·.2) = nss ∧ ∀ q ∈ ks, SqT T.K H q.1 (q.2.map V.int) ∧ Rp T G al (tupI q.2) (.ref q.1)
  | [], _, .nil => ⟨[], rfl, rfl, fun q hq => (by cases hq)⟩
  | ns :: nss, _, .cons r t => by
    obtain ⟨ks, rfl, h2, h3⟩ := rows_at ex t
    obtain ⟨a, ws, rfl, hq, rl⟩ := Rp.tup_inv (ds := ns.map D.int) r
    rw [rl.ints] at hq
    refine ⟨(a, ns) :: ks, rfl, by rw [List.map_cons, h2], fun q hq' => ?_⟩
    rcases List.mem_cons.mp hq' with rfl | hq'
    · exact ⟨sqT_h ex hq, r⟩
    · exact h3 q hq'
theorem rows_rp {G : Hp} {al : List Addr} : ∀ {L : List (Addr × List Int)}, (∀ q ∈ L, Rp T G al (tupI q.2) (.ref q.1)) → RpL T G al ((L.map (·.2)).map tupI) (L.map fun q => V.ref q.1)
  | [], _ => .nil
  | q :: L, h => .cons (h q List.mem_cons_self) (rows_rp fun r hr => h r (List.mem_cons_of_mem _ hr))
theorem tn_sortSet (h : TrQ T n X e fe) (hm : X.mg "sorted" = none) (hm2 : X.mg "set" = none) (hg : Gl X "sorted" := by rfl) (hg2 : Gl X "set" := by rfl)
    (hst : starEach [.Call (.Name "set" p2) [e] [] pos2] X.env = (false, eval (.Call (.Name "set" p2) [e] [] pos2) X.env) :: starEach [] X.env := by rfl) (hst2 : starEach [e] X.env = (false, eval e X.env) :: starEach [] X.env := by rfl)
    (hpl : (backTo pos (starEach [] X.env)).any (·.1) = false := by rfl) (hpl2 : (backTo pos2 (starEach [] X.env)).any (·.1) = false := by rfl) :
    TrN T n X (.Call (.Name "sorted" p) [.Call (.Name "set" p2) [e] [] pos2] [] pos) (fSortSet fe) := by
  refine ⟨fun t G al c env σ H Q d c' hs he hf q => ?_⟩
  refine ofE (pe_callB (cr_sortedT t.calm) hg hm (by decide +kernel) (pa_cons (pe_callTy (cr_setOfT t.calm t.room.units) hg2 hm2 (by decide +kernel) (pa_cons (peS e) pa_nil hst2) (he := hst2) (hpl := hpl2)) pa_nil hst) (he := hst) (hpl := hpl)) ?_
  unfold fSortSet at hf
  split at hf
  case h_2 => cases hf
  case h_1 xs c1 e1 =>
    split at hf
    case h_2 => cases hf
    case h_1 nss e2 =>
      split at hf
      case isFalse => cases hf
      case isTrue hok =>
        cases hf
        have := tupsI?_map e2
        subst this
        unfold rowsOk at hok
        simp only [Bool.and_eq_true, decide_eq_true_eq, List.all_eq_true] at hok
        obtain ⟨hlen, hall⟩ := hok
        refine h.run t G al c env σ H _ _ _ hs he e1 fun G1 al1 H1 v l1 hs1 r1 => ?_
        obtain ⟨a, vs, rfl, hv, rl⟩ := r1.lst_inv hs1
        obtain ⟨ks, rfl, hk2, hk3⟩ := rows_at hs1.ex rl
        refine ⟨a, ks, rfl, SqL.of hv, fun q hq => by rw [t.K]; exact (hk3 q hq).1, by rw [← hk2, List.length_map] at hlen; exact hlen, fun b L hb hL1 hL2 => ?_⟩
        have sub : ∀ q ∈ L, q.2 ∈ nss := fun q hq => by rw [← hk2]; exact List.mem_map.mpr ⟨q, hL1 q hq, rfl⟩
        have bd : ∀ ns ∈ nss, TS.Bd 64 ns := fun ns hns m hm => (hall ns hns).2 m hm
        have hd : ∃ dd, 1 ≤ dd ∧ ∀ ns ∈ nss, ns.length = dd := by
          cases nss with
          | nil => exact ⟨1, Nat.le_refl _, fun ns h => (by cases h)⟩
          | cons n0 r => exact ⟨n0.length, (hall n0 List.mem_cons_self).1.1, fun ns hns => (hall n0 List.mem_cons_self).1.2 ns hns⟩
        obtain ⟨dd, hd1, hd2⟩ := hd
        refine ⟨b, L, dd, 64, rfl, upd_same, fun q hq => ?_, hd1, fun q hq => ⟨hd2 _ (sub q hq), bd _ (sub q hq)⟩, fun L' pp hperm hnd hl64 hpw hpp => ?_⟩
        · have hz := (hk3 q (hL1 q hq)).1
          rw [← t.K] at hz
          exact sqT_le (fun a' o' e' => by rw [upd_ne (ne_of_none e' hb)]; exact e') hz
        · have hsub' : ∀ q ∈ L', q ∈ L := fun q hq => hperm.mem_iff.mp hq
          have hstr : StrI (L'.map (·.2)) := by
            refine str_of_code (B := 64) (d := dd) (fun x hx => ?_) hnd ?_
            · obtain ⟨q, hq, rfl⟩ := List.mem_map.mp hx
              exact ⟨hd2 _ (sub q (hsub' q hq)), bd _ (sub q (hsub' q hq))⟩
            · rw [List.pairwise_map]
              exact hpw
          have heq : L'.map (·.2) = sortL nss := by
            refine str_uniq hstr (str_sortL _) fun x => ?_
            rw [mem_sortL]
            constructor
            · intro hx
              obtain ⟨q, hq, rfl⟩ := List.mem_map.mp hx
              exact sub q (hsub' q hq)
            · intro hx
              rw [← hk2] at hx
              obtain ⟨q, hq, rfl⟩ := List.mem_map.mp hx
              exact (hperm.map (·.2)).mem_iff.mpr (hL2 q hq)
          have hs2 := hs1.junk (o := SetTO X.prog X.w b L) hb
          have hrp : RpL T G1 al1 ((sortL nss).map tupI) (L'.map fun q => V.ref q.1) := by
            rw [← heq]
            exact rows_rp fun q hq => (hk3 q (hL1 q (hsub' q hq))).2
          have hp0 : H1 pp = none := by
            by_cases hpb : pp = b
            · subst hpb; exact hb
            · rw [upd_ne hpb] at hpp; exact hpp
          exact q G1 al1 _ pp _ (l1.trans ((Stp.junk hb).trans (.junk hpp))) (hs2.junk hpp) (hs2.free hpp) (hs2.apart hpp) (fresh_before hs hs1 l1 hp0) upd_same (.lst hrp)
end
end Pd
set_option Elab.async false
set_option linter.all false
set_option maxRecDepth 100000
/-! Pd15: dicts asked, sorted; texts. -/
namespace Pd
open PySem PySem.Spec PyProof.Rows L2

section
variable {T : Tb} {n k0 : Nat} {X : Cx} {pos p p2 pos2 : Pos} {e : Expr} {es : List Expr} {fe : FE} {fa : FA} {ms : Ms}
/-! ### {} -/
theorem tn_dic0 : TrN T n X (.Dict [] [] pos) (fC (.dic [] [])) := by
  refine ⟨fun t G al c env σ H Q d c' hs he hf q => ofE pe_dnewK fun p hp => ?_⟩
  cases hf
  exact q G al _ p _ (.junk hp) (hs.junk hp) (hs.free hp) (hs.apart hp) hp upd_same (.dK (kvs := []) rfl .nil)

/-! ### k in d, d[k] -/
theorem dict_of (t : Tied T n X) {pins : List (Addr × Obj)} {s : Shared} {σ : L2.St} {G H : Hp} {al : List Addr} {c : Cs} (I : Inv X pins σ H s) (hs : HSt T G al c H) {d : D} {v : V} {ks ds : List D} (r : Rq T G al H d v) (hd : deref c d = some (.dic ks ds)) (hT : ks.all isTupD = true) :
    ∃ p xs vs, v = .ref p ∧ DAt T G al s.heap p ks ds xs vs := by
  cases d with
  | cell j =>
    have hd : c[j]? = some (.dic ks ds) := hd
    rcases r with r | ⟨a, o, e, _, _, hh, b⟩
    · cases r with
      | box g b => cases b
      | cell ha =>
        obtain ⟨_, o, ho, b⟩ := hs.at_ j _ _ ha hd
        obtain ⟨xs, vs, D0⟩ := dict_at t I hs ho b hT
        exact ⟨_, xs, vs, rfl, D0⟩
    · cases b
  | dic ks' ds' =>
    cases hd
    rcases r with r | ⟨a, o, e, _, _, hh, b⟩
    · cases r with
      | box g b =>
        obtain ⟨xs, vs, D0⟩ := dict_at t I hs (hs.ex _ _ g) b hT
        exact ⟨_, xs, vs, rfl, D0⟩
    · obtain ⟨xs, vs, D0⟩ := dict_at t I hs hh b hT
      exact ⟨_, xs, vs, e, D0⟩
  | _ => cases hd
def inDic (c : Cs) (x y : D) : Option Bool := match deref c y with
  | some (.dic ks _) => if (ks.all isTupD && keyOk x) = true then some (dHas ks x) else none
  | _ => none
theorem room8 (t : Tied T n X) : (nestedKind T.P T.w).room X.A.in1 := by
  have := t.room.un
  show X.A.units + 1 + 8 < cLine
  omega
theorem op_inDic (t : Tied T n X) (neg : Bool) {pins : List (Addr × Obj)} {s : Shared} {σ : L2.St} {G H : Hp} {al : List Addr} {c : Cs} {dx dy : D} {b : Bool} {x y : V} {u v : Value} {Q : VK} (I : Inv X pins σ H s) (hs : HSt T G al c H) (rx : Rq T G al H dx x) (ry : Rq T G al H dy y) (ru : RelV x u) (rv : RelV y v) (e : inDic c dx dy = some b)
    (q : Q (.bl (if neg = true then !b else b)) H) : wpAny (model X.prog X.w) X.A (compareOp (if neg = true then .NotIn else .In) u v) (EP X pins σ Q) X.xe s := by
  unfold inDic at e
  split at e
  case h_2 => cases e
  case h_1 ks ds e1 =>
    split at e
    case isFalse => cases e
    case isTrue hb =>
      cases e
      simp only [Bool.and_eq_true] at hb
      obtain ⟨p, xs, vs, rfl, D0⟩ := dict_of t I hs ry e1 hb.1
      have rx' : Rp T G al dx x := by
        rcases rx with r | ⟨a, o, _, _, _, _, b⟩
        · exact r
        · cases b <;> simp [keyOk] at hb
      obtain ⟨k, a, ek, rfl, rfl, his⟩ := key_is t I hs hb.2 rx' ru
      obtain rfl : v = .ref p := rv
      have hmod : model X.prog X.w = model T.P T.w := by rw [t.P, t.w]
      rw [hmod]
      have hh : (valueAt (pairsH xs) k).isSome = dHas ks dx := by rw [valueAt_pairsH, Option.isSome_map, dHas_at D0.hk ek]
      cases neg with
      | false => exact in_keyed (room8 t) his D0.ns ⟨xs, D0.of_, rfl⟩ (by rw [hh]; exact ⟨.bl _, H, I.tok _, rfl, q⟩)
      | true => exact notIn_keyed (room8 t) his D0.ns ⟨xs, D0.of_, rfl⟩ (by rw [hh]; exact ⟨.bl _, H, I.tok _, rfl, q⟩)
/-- x in y: y an instance, a dict, or data -/
def oInA (ms : Ms) (neg : Bool) : F2 := fun x y c => match deref c y with
  | some (.dic _ _) => match inDic c x y with
    | some b => some (.bl (if neg = true then !b else b), c)
    | none => none
  | _ => oInM ms neg x y c
theorem op_oInA (D0 : Duns T k0 "__contains__" ms) (hk : k0 ≤ n) (neg : Bool) (t : Tied T n X) : OpR X (compareOp (if neg = true then .NotIn else .In)) (rP T (oInA ms neg)) := by
  intro pins s σ H x y u v Q I ru rv h
  obtain ⟨G, al, c, dx, dy, d, c', hs, rx, ry, hf, q⟩ := h
  unfold oInA at hf
  split at hf
  case h_1 ks ds e1 =>
    split at hf
    case h_2 => cases hf
    case h_1 b e2 => cases hf; exact op_inDic t neg I hs (.inl rx) (.inl ry) ru rv e2 (q.now hs (.bl _))
  case h_2 => exact op_oInM D0 hk neg t pins s σ H x y u v Q I ru rv ⟨G, al, c, dx, dy, d, c', hs, rx, ry, hf, q⟩
/-- .. an object of one's own too -/
def oInQ (neg : Bool) : F2 := fun x y c => match deref c y with
  | some (.dic _ _) => match inDic c x y with
    | some b => some (.bl (if neg = true then !b else b), c)
    | none => none
  | _ => match inD c x y with
    | some b => some (.bl (if neg = true then !b else b), c)
    | none => none
theorem op_oInQ (neg : Bool) (t : Tied T n X) : OpR X (compareOp (if neg = true then .NotIn else .In)) (rD T (oInQ neg)) := by
  intro pins s σ H x y u v Q I ru rv h
  obtain ⟨G, al, c, dx, dy, d, c', hs, rx, ry, hf, q⟩ := h
  unfold oInQ at hf
  split at hf
  case h_1 ks ds e1 =>
    split at hf
    case h_2 => cases hf
    case h_1 b e2 => cases hf; exact op_inDic t neg I hs rx ry ru rv e2 (q.now hs (.bl _))
  case h_2 =>
    split at hf
    case h_2 => cases hf
    case h_1 b e2 =>
      cases hf
      obtain ⟨r', o, z⟩ := Pd.op_inD (Q := Q) t neg hs rx ry e2 (q.now hs (.bl _))
      exact o pins s σ H x y u v Q I ru rv z

/-! ### sorted(d) -/
mutual
theorem reads_apart {h : Heap} {a : Addr} (ha : h.get? a = none) : ∀ {d : PyData} {v : Value} {as : List Addr}, Reads h v d as → ∀ b ∈ as, b ≠ a
  | _, _, _, .none => fun b hb => (by cases hb)
  | _, _, _, .bool _ => fun b hb => (by cases hb)
  | _, _, _, .int _ _ => fun b hb => (by cases hb)
  | _, _, _, .str _ _ => fun b hb => (by cases hb)
  | _, _, _, .list h1 _ _ r => fun b hb => by
    rcases List.mem_cons.mp hb with rfl | hb
    · intro e; subst e; rw [ha] at h1; cases h1
    · exact reads_apartAll ha r b hb
  | _, _, _, .tuple h1 _ _ r => fun b hb => reads_apartAll ha r b hb
  | _, _, _, .dict h1 _ _ r1 r2 => fun b hb => by
    rcases List.mem_append.mp hb with hb | hb
    · rcases List.mem_cons.mp hb with rfl | hb
      · intro e; subst e; rw [ha] at h1; cases h1
      · exact reads_apartAll ha r1 b hb
    · exact reads_apartAll ha r2 b hb
theorem reads_apartAll {h : Heap} {a : Addr} (ha : h.get? a = none) : ∀ {ds : List PyData} {vs : List Value} {as : List Addr}, ReadsAll h vs ds as → ∀ b ∈ as, b ≠ a
  | _, _, _, .nil => fun b hb => (by cases hb)
  | _, _, _, .cons r1 r2 => fun b hb => by
    rcases List.mem_append.mp hb with hb | hb
    · exact reads_apart ha r1 b hb
    · exact reads_apartAll ha r2 b hb
end
/-- the sorted keys of a dict -/
def fSortDic (f : FE) : FE := fun env c => match f env c with
  | some (d, c1) => match deref c1 d with
    | some (.dic ks _) => match pdns deep ks with
      | some ps => if (ks.all isTupD && alikeB ps && sortB ps && decide (ks.length ≤ lim)) = true then some (.lst (sortD ks ps), c1) else none
      | none => none
    | _ => none
  | none => none
theorem each_vals {G : Hp} {al : List Addr} {h : Heap} {us : List Value} {ds : List D} {ps : List PyData} {vs : List V} (hl : ds.length = ps.length) (hr : RpL T G al ds vs) (hv : Vals vs us) (hd : ∀ (i : Nat) u p, us[i]? = some u → ps[i]? = some p → ∃ as, Reads h u p as) :
    PySem.W.EachIs (fun (u : Value) (b : D × PyData) => (∃ x, RelV x u ∧ Rp T G al b.1 x) ∧ ∃ as, Reads h u b.2 as) us (ds.zip ps) := by
  induction hv generalizing ds ps with
  | nil =>
    cases hr
    exact .nil
  | cons r t ih =>
    cases hr with
    | cons r1 t1 =>
      cases ps with
      | nil => simp at hl
      | cons q qs =>
        exact .cons ⟨⟨_, r, r1⟩, hd 0 _ _ rfl rfl⟩ (ih (by simpa using hl) t1 fun i u p h1 h2 => hd (i + 1) u p (by simpa using h1) (by simpa using h2))
theorem vals_keys : ∀ xs : List (NestedKey × Addr × Value), Vals (xs.map fun x => V.ref x.2.1) (xs.map fun x => Value.ref x.2.1)
  | [] => .nil
  | x :: xs => .cons rfl (vals_keys xs)
theorem depth_le {p : PyData} : ∀ {ps : List PyData}, p ∈ ps → p.depth ≤ PyData.depthAll ps
  | [], hp => by cases hp
  | y :: r, hp => by
    simp only [PyData.depthAll]
    rcases List.mem_cons.mp hp with rfl | hp
    · omega
    · have := depth_le hp
      omega
theorem sort_dict (t : Tied T n X) {pins : List (Addr × Obj)} {s : Shared} {σ : L2.St} {H : Hp} {Q : VK} {G : Hp} {al : List Addr} {c : Cs} {p : Addr} {ks ds : List D} {ps : List PyData} {xs : List (NestedKey × Addr × Value)} {vs : List V} (I : Inv X pins σ H s) (hs : HSt T G al c H) (D0 : DAt T G al s.heap p ks ds xs vs)
    (e : pdns deep ks = some ps) (h1 : alikeB ps = true) (h2 : sortB ps = true) (h3 : ks.length ≤ lim) (q : AftN T G al H (.lst (sortD ks ps)) c Q) : wpAny (model X.prog X.w) X.A (call (.builtin "sorted") [.ref p]) (EP X pins σ Q) X.xe s := by
  obtain ⟨es, ep, hraw, hsz, hes⟩ := D0.of_.raw
  have hx : xs.length = ks.length := by have := congrArg List.length D0.hk; simpa using this.symm
  have hsz' : es.size = ks.length := by rw [hsz, hx]
  have hraw2 : ∀ i (hi : i < es.size), ∃ y, xs[i]? = some y ∧ es[i].key = .ref y.2.1 ∧ es[i].val = y.2.2 ∧ (nestedKind T.P T.w).is s.heap y.1 y.2.1 := hes
  have hle : es.size ≤ sizeLine := by rw [hsz']; exact Nat.le_trans h3 lim_line
  have hhd : X.A.in1.handled = none := I.ok.hd t.calm
  have hmod : model X.prog X.w = model T.P T.w := by rw [t.P, t.w]
  -- what is gathered: the keys, in their sequence
  have hkeys : ∀ (acc : Array Value), PySem.ItemsOf (fun i v => ∃ hi : i < es.size, v = es[i].key) acc es.size → Vals (xs.map fun x => V.ref x.2.1) acc.toList := by
    intro acc hacc
    have : acc.toList = xs.map fun x => Value.ref x.2.1 := by
      apply List.ext_getElem?
      intro i
      by_cases hi : i < es.size
      · have ha : i < acc.size := by rw [hacc.1]; exact hi
        have h0 : acc[i]? = some acc[i] := Array.getElem?_eq_getElem ha
        obtain ⟨hi', e1⟩ := hacc.2 i acc[i] h0
        obtain ⟨y, hy, hk', _, _⟩ := hraw2 i hi
        rw [Array.getElem?_toList, h0, List.getElem?_map, hy, e1, hk']
        rfl
      · rw [List.getElem?_eq_none (by rw [Array.length_toList, hacc.1]; omega), List.getElem?_eq_none (by rw [List.length_map, hx, ← hsz']; omega)]
    rw [this]
    exact vals_keys xs
  refine Calls.call_function_entry kind_sorted plain_sorted entry_sorted (args_sorted1 _) ?_
  unfold Builtin.«sorted»
  refine wpAny_bind (wpAny_pure ?_)
  dsimp only
  refine wpAny_bind (PySem.W.kdu_collect (A := X.A.in1) (PySem.KdlSrc.rawDict (prog := X.prog) (w := X.w) D0.ns) hhd hraw hle fun h' tk acc hk hacc => ?_)
  have hv := hkeys acc hacc
  have hal : acc.toList.length = ks.length := by rw [Array.length_toList, hacc.1, hsz']
  have hm : (ks.zip ps).map (·.2) = ps := List.map_snd_zip (Nat.le_of_eq (pdns_length e).symm)
  have lz : (ks.zip ps).length = ks.length := by rw [List.length_zip, pdns_length e, Nat.min_self]
  refine wpAny_bind (wpAny_newList ?_ (by rw [hal, ← hsz']; exact hle))
  have each := each_of I t hs e D0.rk hv
  have fresh : h'.get? h'.objs.size = none := Heap.get?_none_of_le (Nat.le_refl _)
  have hL : (h'.push { cls := .type "list", data := .seq acc.toList.toArray }).get? h'.objs.size = some (seqObj "list" acc.toList.toArray 0) := Heap.get?_push_size _ rfl
  have er : PySem.W.EachIs (fun (u : Value) (b : D × PyData) => ∃ as, Reads (h'.push { cls := .type "list", data := .seq acc.toList.toArray }) u b.2 as ∧ h'.objs.size ∉ as) acc.toList (ks.zip ps) :=
    each.mono fun u b ⟨_, as, r⟩ => ⟨as, PyProof.Rows.Reads.keeps (fun b o q => Heap.get?_push_of_some _ (hk b o q)) r, fun hm => by
      have r' := PyProof.Rows.Reads.keeps hk r
      exact reads_apart fresh r' _ hm rfl⟩
  have hu5 : ∀ b ∈ ks.zip ps, X.A.in1.units + 1 + (b.2).depth < cLine := by
    intro b hb
    have hb2 : b.2 ∈ ps := by rw [← hm]; exact List.mem_map.mpr ⟨b, hb, rfl⟩
    obtain ⟨_, hd⟩ := pdns_shape deep ks ps e
    have h4 := depth_le hb2
    have h5 : b.2.depth ≤ 60 := Nat.le_trans h4 hd
    have := t.room.un
    show X.A.units + 1 + 1 + b.2.depth < cLine
    omega
  refine wpAny_bind (wpAny_holding (PySem.W.list_sort_data (s := { s with heap := h'.push { cls := .type "list", data := .seq acc.toList.toArray }, toks := tk }) (enc := fun b : D × PyData => b.2) hL each er (by rw [hm]; exact alikeB_ok h1) (by rw [hm]; exact sortB_ok h2) (by rw [lz, ← hsz']; exact hle) hu5 fun out ho eo => ?_))
  refine wpAny_pure ⟨_, rfl, ?_⟩
  obtain ⟨ws, rw', rl'⟩ := each_fst eo
  obtain ⟨cc, hc⟩ := sortedHeap_at (vs := acc.toList) (out := out.toArray) hL
  have hws : ws.length ≤ sizeLine := by rw [rw'.length, ho, lz, ← hsz']; exact hle
  have I1 : Inv X pins σ H { s with heap := h', toks := tk } := I.kept hk
  have hn : H h'.objs.size = none := I1.hok.fresh (Nat.le_refl _)
  have keep : ∀ b o, h'.get? b = some o → (sortedHeap (h'.push { cls := .type "list", data := .seq acc.toList.toArray }) h'.objs.size acc.toList out.toArray).get? b = some o := fun b o q' => by
    have hlt := Heap.lt_size q'
    rw [sortedHeap_old (Nat.ne_of_lt hlt) (by rw [Heap.size_push]; exact Nat.lt_succ_of_lt hlt)]
    exact Heap.get?_push_of_some _ q'
  exact ⟨.ref _, upd H h'.objs.size (.lst ws), I1.laid (t' := tk) keep (Nat.le_refl _) ⟨hws, out, cc, rw', hc⟩, rfl, q.new hs hn (.lst rl')⟩
end
end Pd
set_option Elab.async false
set_option linter.all false
set_option maxRecDepth 100000
/-! Pd16: sorted(d), d[k], texts, list(range). -/
namespace Pd
open PySem PySem.Spec PyProof.Rows L2

section
variable {T : Tb} {n k0 : Nat} {X : Cx} {pos p p2 pos2 : Pos} {e e2 : Expr} {es : List Expr} {fe fe2 : FE} {fa : FA} {ms : Ms}
/-! ### sorted(x): a list, a dict -/
def bSortA : FC := fun ds c => match ds with
  | [d] => match deref c d with
    | some (.dic ks _) => match pdns deep ks with
      | some ps => if (ks.all isTupD && alikeB ps && sortB ps && decide (ks.length ≤ lim)) = true then some (.lst (sortD ks ps), c) else none
      | none => none
    | _ => bSorted [d] c
  | _ => none
theorem cr_bSortA (t : Tied T n X) : CallR X (.builtin "sorted") (rCN T bSortA) := by
  intro pins s σ H xs us Q I rv h
  obtain ⟨G, al, c, ds, d, c', hs, rl, hg, q⟩ := h
  unfold bSortA at hg
  split at hg
  case h_2 => cases hg
  case h_1 d0 =>
    split at hg
    case h_2 => exact cr_bSorted t pins s σ H xs us Q I rv ⟨G, al, c, _, d, c', hs, rl, hg, q⟩
    case h_1 ks vs e1 =>
      split at hg
      case h_2 => cases hg
      case h_1 ps e3 =>
        split at hg
        case isFalse => cases hg
        case isTrue hb =>
          cases hg
          simp only [Bool.and_eq_true, decide_eq_true_eq] at hb
          obtain ⟨v, rfl, r⟩ := rl.one
          obtain ⟨a, xs', vs', rfl, D0⟩ := dict_of t I hs r e1 hb.1.1.1
          rw [Vals.ref1 rv]
          exact sort_dict t I hs D0 e3 hb.1.1.2 hb.1.2 hb.2 q

/-! ### d[k] -/
/-- x[y]: x an instance, a dict, or data -/
def oIxA (ms : Ms) : F2 := fun x y c => match deref c x with
  | some (.dic ks ds) => if (ks.all isTupD && keyOk y) = true then match dGet ks ds y with | some d => some (d, c) | none => none else none
  | _ => oIxM ms x y c
theorem ix_oIxA (D0 : Duns T k0 "__getitem__" ms) (hk : k0 + 1 ≤ n) (t : Tied T n X) : IxR2 X (rP T (oIxA ms)) := by
  intro value slice pins s σ H x y v u Q I ru rv h hsub hsub2
  obtain ⟨G, al, c, dx, dy, d, c', hs, rx, ry, hf, q⟩ := h
  unfold oIxA at hf
  split at hf
  case h_2 => exact ix_oIxM D0 hk t value slice pins s σ H x y v u Q I ru rv ⟨G, al, c, dx, dy, d, c', hs, rx, ry, hf, q⟩ hsub hsub2
  case h_1 ks ds e1 =>
    split at hf
    case isFalse => cases hf
    case isTrue hb =>
      split at hf
      case h_2 => cases hf
      case h_1 d1 e2 =>
        cases hf
        simp only [Bool.and_eq_true] at hb
        obtain ⟨p, xs, vs, rfl, D0⟩ := dict_of t I hs (.inl rx) e1 hb.1
        obtain ⟨k, a, ek, rfl, rfl, his⟩ := key_is t I hs hb.2 ry rv
        obtain rfl : v = .ref p := ru
        obtain ⟨pp, w, hp, rw', rd⟩ := dGet_at D0.hk ek D0.rd D0.rv e2
        have hmod : model X.prog X.w = model T.P T.w := by rw [t.P, t.w]
        refine subscriptTail_builtinR (x := pp.2) D0.of_.typeIs slot_dict_getitem.lookup ?_ (hsub _ _)
        rw [hmod]
        exact wpAny_getItem_heap (Q := fun r s' => r = pp.2 ∧ EP X pins σ Q r s') (room8 t) his D0.of_ hp ⟨rfl, w, H, I.tok _, rw', q.now hs rd⟩

/-! ### int, str of texts -/
def bIntS : FC := fun ds c => match ds with
  | [.str x] => match PySem.intText? x with
    | some i => if x.length ≤ 640 then some (.int i, c) else none
    | none => none
  | _ => bInt ds c
theorem cr_bIntS (t : Tied T n X) : CallR X (.type "int") (rC T bIntS) := by
  intro pins s σ H xs us Q I rv h
  obtain ⟨G, al, c, ds, d, c', hs, rl, hg, q⟩ := h
  unfold bIntS at hg
  split at hg
  case h_1 x =>
    split at hg
    case h_2 => cases hg
    case h_1 i e =>
      split at hg
      case isFalse => cases hg
      case isTrue hl =>
        cases hg
        obtain ⟨v, rfl, r⟩ := rl.one
        have := r.str_inv
        subst this
        exact call_int_str pins s σ H _ us Q I rv ⟨x, i, rfl, e, hl, q.now hs (.int _)⟩
  case h_2 => exact cr_bInt t pins s σ H xs us Q I rv ⟨G, al, c, ds, d, c', hs, rl, hg, q⟩

/-! ### f-strings -/
def fFmt (f : FE) : FE := fun env c => match f env c with
  | some (.str x, c1) => if x.length ≤ lim then some (.str x, c1) else none
  | some (.int i, c1) => if smStr i = true then some (.str (toString i), c1) else none
  | _ => none
theorem tr_fmt (h : TrE T n X e fe) : TrE T n X (.FormattedValue e (-1) none pos) (fFmt fe) := by
  refine ⟨fun t G al c env σ H Q d c' hs he hf q => ofE (pe_fmt (peS e)) ?_⟩
  unfold fFmt at hf
  split at hf
  case h_3 => cases hf
  case h_1 x c1 e1 =>
    split at hf
    case isFalse => cases hf
    case isTrue hl =>
      cases hf
      refine h.run t G al c env σ H _ _ _ hs he e1 fun G1 al1 H1 v l hs1 r => ?_
      have := Rq.str_inv (H := H1) (.inl r)
      subst this
      exact .inl ⟨x, rfl, Nat.le_trans hl lim_line, q G1 al1 H1 _ l hs1 (.str _)⟩
  case h_2 i c1 e1 =>
    split at hf
    case isFalse => cases hf
    case isTrue hl =>
      cases hf
      refine h.run t G al c env σ H _ _ _ hs he e1 fun G1 al1 H1 v l hs1 r => ?_
      have := Rq.int_inv (H := H1) (.inl r)
      subst this
      exact .inr ⟨i, rfl, of_decide_eq_true hl, q G1 al1 H1 _ l hs1 (.str _)⟩
/-- the parts' texts, one behind the other -/
def catS : Str → List D → Option Str
  | acc, [] => some acc
  | acc, .str y :: r => if (acc ++ y).length ≤ lim then catS (acc ++ y) r else none
  | _, _ => none
def fJoined (fa : FA) : FE := fun env c => match fa env c with
  | some (ds, c1) => match catS Str.empty ds with
    | some x => some (.str x, c1)
    | none => none
  | none => none
/-- parts, one by one -/
structure TrJ (T : Tb) (n : Nat) (X : Cx) (es : List Expr) (f : FA) : Prop where
  run : Tied T n X → ∃ ts, PJ X es ts ∧ ∀ (G : Hp) (al : List Addr) (c : Cs) (env : En) (σ : L2.St) (H : Hp) (acc : Str) (Q : Str → Hp → Prop) (ds : List D) (c' : Cs) (x : Str), HSt T G al c H → EOk T G al H env σ → f env c = some (ds, c') → catS acc ds = some x →
    (∀ (G' : Hp) (al' : List Addr) (H' : Hp), Stp G al H G' al' H' → HSt T G' al' c' H' → Q x H') → tJs ts acc σ H Q
theorem tj_nil : TrJ T n X [] aNil := ⟨fun t => ⟨[], .nil, fun G al c env σ H acc Q ds c' x hs he hf hc q => by
  cases hf
  cases hc
  exact q G al H (.refl _ _ _) hs⟩⟩
theorem tj_cons (h : TrE T n X e fe) (hr : TrJ T n X es fa) : TrJ T n X (e :: es) (aCons fe fa) := by
  refine ⟨fun t => ?_⟩
  obtain ⟨ts, pj, run⟩ := hr.run t
  refine ⟨_ :: ts, .cons (peS e) pj, fun G al c env σ H acc Q ds c' x hs he hf hc q => ?_⟩
  unfold aCons at hf
  split at hf
  case h_2 => cases hf
  case h_1 d c1 e1 =>
    split at hf
    case h_2 => cases hf
    case h_1 ds' c2 e2 =>
      cases hf
      cases d with
      | str y =>
        have hc : (if (acc ++ y).length ≤ lim then catS (acc ++ y) ds' else none) = some x := hc
        split at hc
        case isFalse => cases hc
        case isTrue hl =>
          refine h.run t G al c env σ H _ _ _ hs he e1 fun G1 al1 H1 v l1 hs1 r1 => ?_
          have := Rq.str_inv (H := H1) (.inl r1)
          exact ⟨y, this, Nat.le_trans hl lim_line, run G1 al1 c1 env σ H1 (acc ++ y) Q _ _ x hs1 (he.mono l1) e2 hc fun G' al' H' l' => q G' al' H' (l1.trans l')⟩
      | _ => cases hc
theorem tr_joined (h : TrJ T n X (e :: e2 :: es) fa) : TrE T n X (.JoinedStr (e :: e2 :: es) pos) (fJoined fa) := by
  refine ⟨fun t G al c env σ H Q d c' hs he hf q => ?_⟩
  obtain ⟨ts, pj, run⟩ := h.run t
  refine ofE (pe_joined pj) ?_
  unfold fJoined at hf
  split at hf
  case h_2 => cases hf
  case h_1 ds c1 e1 =>
    split at hf
    case h_2 => cases hf
    case h_1 x e3 => cases hf; exact run G al c env σ H _ _ ds _ x hs he e1 e3 fun G' al' H' l hs' => q G' al' H' _ l hs' (.str x)
theorem tr_joined1 (h : TrE T n X e fe) : TrE T n X (.JoinedStr [e] pos) fe := ⟨fun t G al c env σ H Q d c' hs he hf q => ofE (pe_joined1 (peS e)) (h.run t G al c env σ H Q d c' hs he hf q)⟩

/-! ### list(range(..)) -/
def rgOk (a b : Int) : Bool := small62 a && small62 b && decide ((b - a).toNat ≤ 16777216)
def fLstRg (fr : FA) : FE := fun env c => match fr env c with
  | some ([.int a, .int b], c1) => if rgOk a b = true then some (.lst (rangeD a (b - a).toNat), c1) else none
  | some ([.int b], c1) => if rgOk 0 b = true then some (.lst (rangeD 0 (b - 0).toNat), c1) else none
  | _ => none
theorem rgOk_ok {a b : Int} (h : rgOk a b = true) : RgOk a b := by
  unfold rgOk at h
  simp only [Bool.and_eq_true, decide_eq_true_eq] at h
  obtain ⟨⟨h1, h2⟩, h3⟩ := h
  obtain ⟨h4, h5⟩ := small62_ok h1
  obtain ⟨h6, h7⟩ := small62_ok h2
  exact ⟨h4, h5, h6, h7, h3⟩
theorem rl_range {G : Hp} {al : List Addr} (a : Int) (k : Nat) : RpL T G al (rangeD a k) ((List.range k).map fun i => V.int (a + (i : Nat))) := by
  have : ∀ (l : List Nat), RpL T G al (l.map fun i => D.int (a + (i : Nat))) (l.map fun i => V.int (a + (i : Nat))) := by
    intro l
    induction l with
    | nil => exact .nil
    | cons x r ih => exact .cons (.int _) ih
  exact this _
theorem tn_lstRg1 (h : TrE T n X e fe) (hm : X.mg "list" = none) (hm2 : X.mg "range" = none) (hg : Gl X "list" := by rfl) (hg2 : Gl X "range" := by rfl) (na : starEach [.Call (.Name "range" p2) [e] [] pos2] X.env = (false, eval (.Call (.Name "range" p2) [e] [] pos2) X.env) :: starEach [] X.env := by rfl)
    (na2 : starEach [e] X.env = (false, eval e X.env) :: starEach [] X.env := by rfl) : TrN T n X (.Call (.Name "list" p) [.Call (.Name "range" p2) [e] [] pos2] [] pos) (fLstRg (aCons fe aNil)) := by
  refine ⟨fun t G al c env σ H Q d c' hs he hf q => ofE (pe_listRg t.calm hg hm (prg_1 hg2 hm2 (peS e) na2) na) ?_⟩
  unfold fLstRg at hf
  split at hf
  case h_1 a b c1 e1 =>
    unfold aCons aNil at e1
    split at e1 <;> simp at e1
  case h_2 b c1 e1 =>
    unfold aCons aNil at e1
    split at e1
    case h_2 => cases e1
    case h_1 d1 c2 e2 =>
      simp only [Option.some.injEq, Prod.mk.injEq, List.cons.injEq, and_true] at e1
      obtain ⟨rfl, rfl⟩ := e1
      split at hf
      case isFalse => cases hf
      case isTrue hl =>
        cases hf
        refine h.run t G al c env σ H _ _ _ hs he e2 fun G1 al1 H1 v l hs1 r => ?_
        have := Rq.int_inv (H := H1) (.inl r)
        subst this
        exact ⟨b, rfl, rgOk_ok hl, fun w hw => q G1 al1 _ w _ (l.trans (.junk hw)) (hs1.junk hw) (hs1.free hw) (hs1.apart hw) (fresh_before hs hs1 l hw) upd_same (.lst (rl_range 0 _))⟩
  case h_3 => cases hf
end
end Pd
set_option Elab.async false
set_option linter.all false
set_option maxRecDepth 100000
/-! Pd17: what was left over; defs as mirrors; the head's facts. -/
namespace Pd
open PySem PySem.Spec PyProof.Rows L2

section
variable {T : Tb} {n : Nat} {X : Cx} {pos p : Pos} {a b e e3 tg : Expr} {fa fb fc fe : FE}
theorem tr_chain {op op' : CmpOp} {g g' : F2} (ho : Tied T n X → OpR X (compareOp op) (rD T g)) (ho' : Tied T n X → OpR X (compareOp op') (rD T g')) (ha : TrQ T n X a fa) (hb : TrQ T n X b fb) (hc : TrQ T n X e3 fc) (hm : lastMarks [op, op'] [b, e3] = false := by with_unfolding_all rfl) :
    TrE T n X (.Compare a [op, op'] [b, e3] pos) (fChain g g' fa fb fc) :=
  ⟨fun t G al c env σ H Q d c' hs he hf q => ofE (pe_chain (ho t) (ho' t) (peS a) (peS b) (peS e3) hm) (chain (op := op) (op' := op') t ha hb hc hs he hf q)⟩
theorem tt_chain {op op' : CmpOp} {g g' : F2} (ho : Tied T n X → OpR X (compareOp op) (rD T g)) (ho' : Tied T n X → OpR X (compareOp op') (rD T g')) (ha : TrQ T n X a fa) (hb : TrQ T n X b fb) (hc : TrQ T n X e3 fc) (hm : lastMarks [op, op'] [b, e3] = false := by with_unfolding_all rfl) :
    TrT T n X (.Compare a [op, op'] [b, e3] pos) (asB (fChain g g' fa fb fc)) := by
  refine ⟨fun t G al c env σ H Q k c' hs he hf q => ofT (pt_chain (ho t) (ho' t) (peS a) (peS b) (peS e3) hm) ?_⟩
  unfold asB at hf
  split at hf
  case h_2 => cases hf
  case h_1 k' c1 e1 =>
    cases hf
    exact chain (op := op) (op' := op') t ha hb hc hs he e1 fun G' al' H' v l hs' r => ⟨_, r.bl_inv, q G' al' H' l hs'⟩
theorem tt_cmpP {op : CmpOp} {g : F2} (ho : Tied T n X → OpR X (compareOp op) (rP T g)) (ha : TrE T n X a fa) (hb : TrE T n X b fb) (hm : behindInMarks op b = false := by first | exact nomark _ | rfl) : TrT T n X (.Compare a [op] [b] pos) (asB (fOp g fa fb)) := by
  refine ⟨fun t G al c env σ H Q k c' hs he hf q => ofT (pt_cmpR (ho t) (peS a) (peS b) hm) ?_⟩
  unfold asB at hf
  split at hf
  case h_2 => cases hf
  case h_1 k' c1 e1 =>
    cases hf
    exact twoP t ha hb hs he e1 fun G2 al2 c2 H2 x y v u l hs2 rx ry hg => ⟨G2, al2, c2, x, y, _, _, hs2, rx, ry, hg, fun G' al' H' v' l' hs' r => ⟨_, r.bl_inv, q G' al' H' (l.trans l') hs'⟩⟩
def fNeg (f : FE) : FE := fun env c => match f env c with | some (.int i, c1) => some (.int (-i), c1) | _ => none
theorem tr_neg (h : TrE T n X e fe) : TrE T n X (.UnaryOp .USub e pos) (fNeg fe) := by
  refine ⟨fun t G al c env σ H Q d c' hs he hf q => ofE (pe_un un_neg (peS e)) ?_⟩
  unfold fNeg at hf
  split at hf
  case h_2 => cases hf
  case h_1 i c1 e1 =>
    cases hf
    exact h.run t G al c env σ H _ _ _ hs he e1 fun G1 al1 H1 v l hs1 r => ⟨i, Rq.int_inv (H := H1) (.inl r), q G1 al1 H1 _ l hs1 (.int _)⟩
/-! ### the signs of a text -/
def signs (x : Str) : List D := x.cps.toList.map fun k => .str ⟨#[k]⟩
def fSig (f : FE) : FA := fun env c => match f env c with
  | some (.str x, c1) => some (signs x, c1)
  | _ => none
theorem ti_str (h : TrE T n X e fe) : TrI T n X tg e (fSig fe) := by
  refine ⟨fun t G al c env σ H R ds c' hs he hf q => ofI (pi_str (peS e)) ?_⟩
  unfold fSig at hf
  split at hf
  case h_2 => cases hf
  case h_1 x c1 e1 =>
    cases hf
    refine h.run t G al c env σ H _ _ _ hs he e1 fun G1 al1 H1 v l1 hs1 r1 => ⟨x, Rq.str_inv (H := H1) (.inl r1), q G1 al1 H1 _ l1 hs1 fun i G2 al2 c2 H2 le hs2 => ⟨fun d hd => ?_, fun hl => ?_⟩⟩
    · unfold signs at hd
      rw [List.getElem?_map] at hd
      obtain ⟨k, hk, rfl⟩ := Option.map_eq_some_iff.mp hd
      have hk' : x.cps[i]? = some k := by rw [← Array.getElem?_toList]; exact hk
      refine ⟨(Array.getElem?_eq_some_iff.mp hk').1, fun y H3 ⟨e2, kk, e3, e4⟩ => ?_⟩
      subst e2
      rw [hk'] at e3
      cases e3
      subst e4
      exact ⟨G2, .refl _ _ _, hs2, .str _⟩
    · have : x.cps.size ≤ i := by simpa [signs] using hl
      exact this
end

/-! ### defs as mirrors -/
def mOf (N : List Str) (k : Nat) (fb : FS) : FC := fun ds c => if ds.length = k then match fb (startD N ds) c with
  | some (.rt d, _, c1) => some (d, c1)
  | some (.nx, _, c1) => some (.non, c1)
  | _ => none else none
def mInit (j : Nat) (N : List Str) (k : Nat) (fb : FS) : FC := fun ds c => if ds.length + 1 = k then match fb (startI j N ds) c with
  | some (.nx, env1, c1) => match env1[0]? with
    | some (some (Sl.o d)) => some (d, c1)
    | _ => none
  | _ => none else none
section
variable {T : Tb} {n : Nat} {N ps : List Str} {x qual : Str} {params : Arguments} {body : List Stmt} {scope : Scope} {f : Addr} {fd : FuncData} {kws : List (Str × V)} {fb : FS} {st : Stmt}
theorem mOf_len {ds : List D} {c : Cs} {r : D × Cs} {k : Nat} (h : mOf N k fb ds c = some r) : ds.length = k := by
  unfold mOf at h
  split at h
  case isTrue e => exact e
  case isFalse => cases h
theorem mInit_len {j : Nat} {ds : List D} {c : Cs} {r : D × Cs} {k : Nat} (h : mInit j N k fb ds c = some r) : ds.length + 1 = k := by
  unfold mInit at h
  split at h
  case isTrue e => exact e
  case isFalse => cases h
theorem fnat_of (F : FunD T.K x qual params body scope [] kws f fd) (S : FnScope N ps scope) (b : Binds T.K fd ps [])
    (tr : ∀ (cdv : Value) (A : Around) (outer : List Env) (s : Shared) (H : Hp) (E : XK), TrB T n (BX T N qual scope f cdv A outer s H E) body fb) : FnAt T (n + 1) f fd ps (mOf N ps.length fb) := by
  refine ⟨fnok_body F S S.nd tr fun ds c r h => ?_, F.kp, b, fun ds c r h => mOf_len h⟩
  unfold mOf at h
  split at h
  case isFalse => cases h
  case isTrue hl =>
    split at h
    case h_1 d env1 c1 e => cases h; exact ⟨_, _, e, .inl rfl⟩
    case h_2 env1 c1 e => cases h; exact ⟨_, _, e, .inr ⟨rfl, rfl⟩⟩
    case h_3 => cases h
theorem mkr_of {j : Nat} {y : Str} (F : FunD T.K x qual params body scope [] kws f fd) (S : FnScope N ps scope) (b : Binds T.K fd ps []) (M : Mk T.K (T.cl j) f) (g : T.mg y = some (.ref (T.cl j)))
    (tr : ∀ (cdv : Value) (A : Around) (outer : List Env) (s : Shared) (H : Hp) (E : XK), TrB T n (BX T N qual scope f cdv A outer s H E) body fb) : Mkr T (n + 1) j y ps (mInit j N ps.length fb) := by
  refine ⟨⟨f, fd, fnok_init F S S.nd tr fun ds c r h => ?_, M, b⟩, fun ds c r h => mInit_len h, g⟩
  unfold mInit at h
  split at h
  case isFalse => cases h
  case isTrue hl =>
    split at h
    case h_2 => cases h
    case h_1 env1 c1 e =>
      split at h
      case h_2 => cases h
      case h_1 d e2 => cases h; exact ⟨_, _, e, .inr rfl, e2⟩
end

/-! ### the head -/
/-- what is read off the head: Bools, defs -/
def obsP (ex : PySem.W.Frag → List Bool) (fn : List He5.DefA) (K : PySem.W.Frag) : He.AlD := ((ex K).all (fun b => b) && fn.all (fun d => d.ok K), fn.map fun d => He5.fnA K (d.at_ K))
def SaysP (ex : PySem.W.Frag → List Bool) (fn : List He5.DefA) (K : PySem.W.Frag) : Prop := obsP ex fn K = He5.valA fn
def obsPG (n : Nat) (ex : PySem.W.Frag → List Bool) (fn : List He5.DefA) (g : Addr → Option Obj) : He.AlD := obsP ex fn (He.frG g (He5.asA g n))
def hookP (n : Nat) (ex : PySem.W.Frag → List Bool) (fn : List He5.DefA) : PySem.W.Hook where
  α := He.AlD
  obs := fun s => obsPG n ex fn s.heap.get?
  val := fun _ => He5.valA fn
  says := fun _ h => ∃ K : PySem.W.Frag, K.In h ∧ SaysP ex fn K
  of := fun _ _ e => ⟨_, He.frG_in, e⟩
  keeps := fun _ _ _ ⟨K, hK, c⟩ k => ⟨K, PySem.W.Frag.In.keeps hK k, c⟩
theorem obsPG_eq {n : Nat} {ex : PySem.W.Frag → List Bool} {fn : List He5.DefA} {g : Addr → Option Obj} {s : Shared} (h : ∀ a, g a = s.heap.get? a) : obsPG n ex fn g = (hookP n ex fn).obs s := by
  have e : g = s.heap.get? := funext h
  subst e
  rfl
section
variable {ex : PySem.W.Frag → List Bool} {fn : List He5.DefA} {K : PySem.W.Frag}
theorem SaysP.fact (c : SaysP ex fn K) (i : Nat) {b : Bool} (h : (ex K)[i]? = some b) : b = true := by
  have c1 := (He.ba (show ((ex K).all (fun b => b) && fn.all fun d => d.ok K) = true from congrArg (fun z : He.AlD => z.1) c)).1
  exact List.all_eq_true.mp c1 b (List.mem_of_getElem? h)
theorem SaysP.all (c : SaysP ex fn K) {b : Bool} (h : b ∈ ex K) : b = true := by
  have c1 := (He.ba (show ((ex K).all (fun b => b) && fn.all fun d => d.ok K) = true from congrArg (fun z : He.AlD => z.1) c)).1
  exact List.all_eq_true.mp c1 b h
theorem SaysP.def_ (c : SaysP ex fn K) (i : Nat) {d : He5.DefA} (h : fn[i]? = some d := by rfl) : ∃ fd, FunD K d.name d.qual d.params d.body d.scope (d.dvs K) (d.kws K) (d.at_ K) fd := by
  have c2 := (He.ba (show ((ex K).all (fun b => b) && fn.all fun d => d.ok K) = true from congrArg (fun z : He.AlD => z.1) c)).2
  have e : fn.map (fun d => He5.fnA K (d.at_ K)) = fn.map He5.DefA.val := congrArg (fun z : He.AlD => z.2) c
  have e2 : (fn.map fun d => He5.fnA K (d.at_ K))[i]? = (fn.map He5.DefA.val)[i]? := by rw [e]
  rw [List.getElem?_map, List.getElem?_map, h] at e2
  exact He5.DefA.funD (Option.some.inj e2) (List.all_eq_true.mp c2 d (List.mem_of_getElem? h))
end
/-- a property's getter -/
def pAd (K : PySem.W.Frag) (C : Addr) (m : Str) : Addr := match PySem.W.recIn K (He.ma K C m) "property" with
  | some (.ref g :: _) => g
  | _ => 0
def propB (K : PySem.W.Frag) (C : Addr) (m : Str) : Bool := He.eqO (PySem.W.findIn K (.ref C) m) (some (some (.ref (He.ma K C m)))) && (He.eqO (PySem.W.specialIn K (.ref (He.ma K C m)) "__get__") (some (some (.builtin "property.__get__"))) && (decide (PySem.W.takesIn K (.ref (He.ma K C m)) = some true) &&
  (match PySem.W.recIn K (He.ma K C m) "property" with
  | some (.ref _ :: _) => true
  | _ => false)))
theorem propB_ok {K : PySem.W.Frag} {C : Addr} {m : Str} (h : propB K C m = true) : PropOf K C m (He.ma K C m) (pAd K C m) := by
  obtain ⟨h1, h⟩ := He.ba h
  obtain ⟨h2, h⟩ := He.ba h
  obtain ⟨h3, h4⟩ := He.ba h
  refine ⟨He.eqO_ok h1, He.eqO_ok h2, of_decide_eq_true h3, ?_⟩
  unfold pAd
  split at h4
  · rename_i g r e
    exact ⟨r, by rw [e]⟩
  · cases h4
/-- a special method -/
def dunB (K : PySem.W.Frag) (C : Addr) (m : Str) : Bool := He.eqO (PySem.W.findIn K (.ref C) m) (some (some (.ref (He.ma K C m)))) && (PySem.W.isFn K (.ref (He.ma K C m)) && PySem.W.fnIn K (He.ma K C m))
theorem dunB_ok {K : PySem.W.Frag} {C : Addr} {m : Str} (h : dunB K C m = true) : PySem.W.findIn K (.ref C) m = some (some (.ref (He.ma K C m))) ∧ PySem.W.isFn K (.ref (He.ma K C m)) = true ∧ PySem.W.fnIn K (He.ma K C m) = true := by
  obtain ⟨h1, h⟩ := He.ba h
  obtain ⟨h2, h3⟩ := He.ba h
  exact ⟨He.eqO_ok h1, h2, h3⟩
def obcB (K : PySem.W.Frag) (C : Addr) : Bool := He.eqO (PySem.W.findIn K (.ref C) "__class__") (some (some (.builtin "object.__class__"))) && (He.eqO (PySem.W.specialIn K (.builtin "object.__class__") "__get__") (some (some (.builtin "getset_descriptor.__get__"))) &&
  (decide (PySem.W.takesIn K (.builtin "object.__class__") = some true) && decide (PySem.W.mroIn K C (.type "object") = some true)))
theorem obcB_ok {K : PySem.W.Frag} {C : Addr} (c : Cls K C) (h : obcB K C = true) : Obc K C := by
  obtain ⟨h1, h⟩ := He.ba h
  obtain ⟨h2, h⟩ := He.ba h
  obtain ⟨h3, h4⟩ := He.ba h
  exact ⟨c, He.eqO_ok h1, He.eqO_ok h2, of_decide_eq_true h3, of_decide_eq_true h4⟩
def neB (K : PySem.W.Frag) (C : Addr) : Bool := He.eqO (PySem.W.findIn K (.ref C) "__ne__") (some (some (.builtin "object.__ne__"))) && decide (PySem.W.subIn K (.ref C) (.type "object") = some true)
theorem neB_ok {K : PySem.W.Frag} {C : Addr} (h : neB K C = true) : NeC K C := by
  obtain ⟨h1, h2⟩ := He.ba h
  exact ⟨He.eqO_ok h1, of_decide_eq_true h2⟩
end Pd
set_option Elab.async false
set_option linter.all false
set_option maxRecDepth 100000
/-! Pd18: what the printed derivations lean on. -/
namespace Pd
open PySem PySem.Spec PyProof.Rows L2
def clsBody (s : Stmt) : List Stmt := match s with
  | .ClassDef _ _ _ b _ _ _ _ _ _ _ => b
  | _ => []
abbrev Der (T : Tb) (n : Nat) (N : List Str) (qual : Str) (st : Stmt) (fb : FS) : Prop :=
  ∀ (f : Addr) (cdv : Value) (A : Around) (outer : List Env) (s : Shared) (H : Hp) (E : XK), TrB T n (BX T N qual (defScope st) f cdv A outer s H E) (defBody st) fb
def tc_cls (n i : Nat) : Nat → Option Bool := fun k => if k < n then some (decide (k = i)) else none
def tc_none (n : Nat) : Nat → Option Bool := fun k => if k < n then some false else none
def Prps (T : Tb) (k : Nat) (x : Str) (ms : Ms) : Prop := ∀ j m, ms j = some m → Prp T k j x m
def Mths (T : Tb) (k : Nat) (x : Str) (ms : Ms) : Prop := ∀ j m, ms j = some m → ∃ ps, Mth T k j x ps m
theorem Prps.at {T : Tb} {k n : Nat} {x : Str} {ms : Ms} (h : Prps T k x ms) (hk : k + 1 ≤ n) : ∀ j m, ms j = some m → ∃ k, k + 1 ≤ n ∧ Prp T k j x m := fun j m e => ⟨k, hk, h j m e⟩
theorem Mths.at {T : Tb} {k n : Nat} {x : Str} {ms : Ms} (h : Mths T k x ms) (hk : k ≤ n) : ∀ j m, ms j = some m → ∃ k ps, k ≤ n ∧ Mth T k j x ps m := fun j m e => let ⟨ps, M⟩ := h j m e; ⟨k, ps, hk, M⟩
end Pd
set_option Elab.async false
set_option linter.all false
set_option maxRecDepth 100000
/-! Pd19: readings that leave the cells alone; the head's facts as the derivations want them. -/
namespace Pd
open PySem PySem.Spec PyProof.Rows L2
class NcE (f : FE) : Prop where
  h : ∀ env c d c', f env c = some (d, c') → c' = c
class NcA (f : FA) : Prop where
  h : ∀ env c d c', f env c = some (d, c') → c' = c
class NcT (f : FT) : Prop where
  h : ∀ env c d c', f env c = some (d, c') → c' = c
class NcS (f : FS) : Prop where
  h : ∀ env c l e c', f env c = some (l, e, c') → c' = c
class Nc2 (f : F2) : Prop where
  h : ∀ x y c d c', f x y c = some (d, c') → c' = c
class NcC (f : FC) : Prop where
  h : ∀ ds c d c', f ds c = some (d, c') → c' = c
class NcM (ms : Ms) : Prop where
  h : ∀ j m, ms j = some m → NcC m
instance (i : Nat) : NcE (fVar i) := ⟨fun env c d c' h => by unfold fVar at h; split at h <;> first | (cases h; rfl) | cases h⟩
instance (i : Nat) : NcE (fVarQ i) := ⟨fun env c d c' h => by unfold fVarQ at h; split at h <;> first | (cases h; rfl) | cases h⟩
instance (d : D) : NcE (fC d) := ⟨fun env c d c' h => by unfold fC at h; cases h; rfl⟩
instance (ks : List (Nat × Nat)) (f : FE) [n : NcE f] : NcE (fFld ks f) := ⟨fun env c d c' h => by
  unfold fFld at h
  split at h
  case h_2 => cases h
  case h_1 d1 c1 e =>
    repeat (split at h <;> try cases h)
    exact n.h _ _ _ _ e⟩
instance (g : F2) (f f' : FE) [n : NcE f] [n' : NcE f'] [n2 : Nc2 g] : NcE (fOp g f f') := ⟨fun env c d c' h => by
  unfold fOp at h
  split at h
  case h_2 => cases h
  case h_1 d1 c1 e =>
    split at h
    case h_2 => cases h
    case h_1 d2 c2 e2 => exact (n2.h _ _ _ _ _ h).trans ((n'.h _ _ _ _ e2).trans (n.h _ _ _ _ e))⟩
instance : NcA aNil := ⟨fun env c d c' h => by unfold aNil at h; cases h; rfl⟩
instance (f : FE) (g : FA) [n : NcE f] [n' : NcA g] : NcA (aCons f g) := ⟨fun env c d c' h => by
  unfold aCons at h
  split at h
  case h_2 => cases h
  case h_1 d1 c1 e =>
    split at h
    case h_2 => cases h
    case h_1 d2 c2 e2 =>
      cases h
      exact (n'.h _ _ _ _ e2).trans (n.h _ _ _ _ e)⟩
instance (g : FA) [n : NcA g] : NcE (fTup g) := ⟨fun env c d c' h => by
  unfold fTup at h
  split at h
  case h_2 => cases h
  case h_1 d1 c1 e =>
    split at h <;> cases h
    exact n.h _ _ _ _ e⟩
instance (g : FA) [n : NcA g] (m : FC) [n2 : NcC m] : NcE (fCall m g) := ⟨fun env c d c' h => by
  unfold fCall at h
  split at h
  case h_2 => cases h
  case h_1 d1 c1 e => exact (n2.h _ _ _ _ h).trans (n.h _ _ _ _ e)⟩
instance (ms : Ms) (f : FE) (g : FA) [n : NcE f] [n2 : NcA g] [n3 : NcM ms] : NcE (fMeth ms f g) := ⟨fun env c d c' h => by
  unfold fMeth at h
  split at h
  case h_2 => cases h
  case h_1 d1 c1 e =>
    split at h
    case h_2 => cases h
    case h_1 j ds0 e2 =>
      split at h
      case h_2 => cases h
      case h_1 m em =>
        split at h
        case h_2 => cases h
        case h_1 ds c2 e3 => exact ((n3.h _ _ em).h _ _ _ _ h).trans ((n2.h _ _ _ _ e3).trans (n.h _ _ _ _ e))⟩
instance (ms : Ms) (f : FE) [n : NcE f] [n3 : NcM ms] : NcE (fProp ms f) := ⟨fun env c d c' h => by
  unfold fProp at h
  split at h
  case h_2 => cases h
  case h_1 d1 c1 e =>
    split at h
    case h_2 => cases h
    case h_1 j ds0 e2 =>
      split at h
      case h_2 => cases h
      case h_1 m em => exact ((n3.h _ _ em).h _ _ _ _ h).trans (n.h _ _ _ _ e)⟩
instance (tb : String → Bool) (tc : Nat → Option Bool) (f : FE) [n : NcE f] : NcE (fIsi tb tc f) := ⟨fun env c d c' h => by
  unfold fIsi at h
  split at h
  case h_2 => cases h
  case h_1 d1 c1 e =>
    split at h <;> cases h
    exact n.h _ _ _ _ e⟩
instance (f g : FE) [n : NcE f] [n2 : NcE g] : NcE (fAndV f g) := ⟨fun env c d c' h => by
  unfold fAndV at h
  split at h
  case h_3 => cases h
  case h_1 c1 e => exact (n2.h _ _ _ _ h).trans (n.h _ _ _ _ e)
  case h_2 c1 e => cases h; exact n.h _ _ _ _ e⟩
instance (f g : FE) [n : NcE f] [n2 : NcE g] : NcE (fOrV f g) := ⟨fun env c d c' h => by
  unfold fOrV at h
  split at h
  case h_3 => cases h
  case h_1 c1 e => exact (n2.h _ _ _ _ h).trans (n.h _ _ _ _ e)
  case h_2 c1 e => cases h; exact n.h _ _ _ _ e⟩
instance (f : FE) [n : NcE f] : NcE (fNotV f) := ⟨fun env c d c' h => by
  unfold fNotV at h
  split at h
  case h_2 => cases h
  case h_1 c1 e => cases h; exact n.h _ _ _ _ e⟩
instance (f : FE) [n : NcE f] : NcE (fLenQ f) := ⟨fun env c d c' h => by
  unfold fLenQ at h
  split at h
  case h_2 => cases h
  case h_1 d1 c1 e =>
    split at h <;> cases h
    exact n.h _ _ _ _ e⟩
instance (f : FE) [n : NcE f] : NcT (asB f) := ⟨fun env c d c' h => by
  unfold asB at h
  split at h
  case h_2 => cases h
  case h_1 c1 e => cases h; exact n.h _ _ _ _ e⟩
instance (f : FT) [n : NcT f] : NcT (fNot f) := ⟨fun env c d c' h => by
  unfold fNot at h
  split at h
  case h_2 => cases h
  case h_1 c1 e => cases h; exact n.h _ _ _ _ e⟩
instance (f g : FT) [n : NcT f] [n2 : NcT g] : NcT (fAnd f g) := ⟨fun env c d c' h => by
  unfold fAnd at h
  split at h
  case h_3 => cases h
  case h_1 c1 e => exact (n2.h _ _ _ _ h).trans (n.h _ _ _ _ e)
  case h_2 c1 e => cases h; exact n.h _ _ _ _ e⟩
instance (f g : FT) [n : NcT f] [n2 : NcT g] : NcT (fOr f g) := ⟨fun env c d c' h => by
  unfold fOr at h
  split at h
  case h_3 => cases h
  case h_1 c1 e => exact (n2.h _ _ _ _ h).trans (n.h _ _ _ _ e)
  case h_2 c1 e => cases h; exact n.h _ _ _ _ e⟩
instance (t : FT) (f g : FE) [n0 : NcT t] [n : NcE f] [n2 : NcE g] : NcE (fIf t f g) := ⟨fun env c d c' h => by
  unfold fIf at h
  split at h
  case h_3 => cases h
  case h_1 c1 e => exact (n.h _ _ _ _ h).trans (n0.h _ _ _ _ e)
  case h_2 c1 e => exact (n2.h _ _ _ _ h).trans (n0.h _ _ _ _ e)⟩
instance : NcS fNx := ⟨fun env c l e c' h => by unfold fNx at h; cases h; rfl⟩
instance (f : FE) [n : NcE f] : NcS (fRet f) := ⟨fun env c l e c' h => by
  unfold fRet at h
  split at h
  case h_2 => cases h
  case h_1 d1 c1 e1 => cases h; exact n.h _ _ _ _ e1⟩
instance (i : Nat) (f : FE) [n : NcE f] : NcS (fSet i f) := ⟨fun env c l e c' h => by
  unfold fSet at h
  split at h
  case h_2 => cases h
  case h_1 d1 c1 e1 => cases h; exact n.h _ _ _ _ e1⟩
instance (t : FT) (f g : FS) [n0 : NcT t] [n : NcS f] [n2 : NcS g] : NcS (fIte t f g) := ⟨fun env c l e c' h => by
  unfold fIte at h
  split at h
  case h_3 => cases h
  case h_1 c1 e1 => exact (n.h _ _ _ _ _ h).trans (n0.h _ _ _ _ e1)
  case h_2 c1 e1 => exact (n2.h _ _ _ _ _ h).trans (n0.h _ _ _ _ e1)⟩
instance (f g : FS) [n : NcS f] [n2 : NcS g] : NcS (fSeq f g) := ⟨fun env c l e c' h => by
  unfold fSeq at h
  split at h
  case h_1 env1 c1 e1 => exact (n2.h _ _ _ _ _ h).trans (n.h _ _ _ _ _ e1)
  case h_2 => exact n.h _ _ _ _ _ h⟩
instance : NcS fNo := ⟨fun env c l e c' h => by unfold fNo at h; cases h⟩
instance (N : List Str) (k : Nat) (f : FS) [n : NcS f] : NcC (mOf N k f) := ⟨fun ds c d c' h => by
  unfold mOf at h
  split at h
  case isFalse => cases h
  case isTrue =>
    split at h
    case h_3 => cases h
    case h_1 d1 e1 c1 e => cases h; exact n.h _ _ _ _ _ e
    case h_2 e1 c1 e => cases h; exact n.h _ _ _ _ _ e⟩
instance : Nc2 oEq := ⟨fun x y c d c' h => by unfold oEq at h; split at h <;> first | (cases h; rfl) | cases h⟩
instance : Nc2 oNe := ⟨fun x y c d c' h => by unfold oNe at h; split at h <;> first | (cases h; rfl) | cases h⟩
theorem nc_eqObj (ms : Ms) [n : NcM ms] {x y : D} {c : Cs} {b : Bool} {c' : Cs} (h : eqObj ms x y c = some (b, c')) : c' = c := by
  unfold eqObj at h
  split at h
  case h_2 => cases h
  case h_1 j _ k _ e1 e2 =>
    split at h
    case isFalse => cases h
    case isTrue =>
      split at h
      case h_2 => cases h
      case h_1 m em =>
        split at h
        case h_2 => cases h
        case h_1 b1 c1 e => cases h; exact (n.h _ _ em).h _ _ _ _ e
theorem nc_eqObjs (ms : Ms) [n : NcM ms] : ∀ {xs ys : List D} {c c' : Cs}, eqObjs ms xs ys c = some c' → c' = c
  | [], [], c, c', h => by unfold eqObjs at h; cases h; rfl
  | [], _ :: _, c, c', h => by unfold eqObjs at h; cases h
  | _ :: _, [], c, c', h => by unfold eqObjs at h; cases h
  | x :: xs, y :: ys, c, c', h => by
    unfold eqObjs at h
    split at h
    case h_2 => cases h
    case h_1 c1 e => exact (nc_eqObjs ms h).trans (nc_eqObj ms e)
theorem still_of (ms : Ms) [n : NcM ms] : Still ms := fun x y c b c' h => nc_eqObj ms h
instance (ms : Ms) [n : NcM ms] : Nc2 (oEqM ms) := ⟨fun x y c d c' h => by
  unfold oEqM eqM at h
  split at h
  case h_2 => cases h
  case h_1 b c1 e =>
    cases h
    split at e
    · cases e; rfl
    · split at e
      · split at e
        · cases e; rename_i e3; exact nc_eqObjs ms e3
        · cases e
      · exact nc_eqObj ms e⟩
instance (ms : Ms) [n : NcM ms] : Nc2 (oNeM ms) := ⟨fun x y c d c' h => by
  unfold oNeM neM at h
  split at h
  case h_2 => cases h
  case h_1 b c1 e =>
    cases h
    split at e
    · cases e; rfl
    · exact nc_eqObj ms e⟩
/-! ### the head -/
abbrev Bls := List (PySem.W.Frag → Bool)
def exOf (l : Bls) (K : PySem.W.Frag) : List Bool := l.map fun f => f K
theorem SaysP.at {l : Bls} {fn : List He5.DefA} {K : PySem.W.Frag} (c : SaysP (exOf l) fn K) (i : Nat) {f : PySem.W.Frag → Bool} (h : l[i]? = some f := by rfl) : f K = true :=
  c.fact i (by rw [exOf, List.getElem?_map, h]; rfl)
def kitB (x : Str) (v : PySem.W.Frag → Value) (b : Bool) (K : PySem.W.Frag) : Bool := decide (PySem.W.kitOne K (.ref (He.ga K x)) (v K) = some b)
def faB (f : He.Fa) (K : PySem.W.Frag) : Bool := f.ok K
def obB (x : Str) (K : PySem.W.Frag) : Bool := obcB K (He.ga K x)
def neB' (x : Str) (K : PySem.W.Frag) : Bool := neB K (He.ga K x)
def duB (x m : Str) (K : PySem.W.Frag) : Bool := dunB K (He.ga K x) m
def prB (x m : Str) (K : PySem.W.Frag) : Bool := propB K (He.ga K x) m
def smB (x m : Str) (K : PySem.W.Frag) : Bool := He5.wrapB K (He.ga K x) "staticmethod" "staticmethod.__get__" m
def crB (x : Str) (K : PySem.W.Frag) : Bool := PySem.W.readsIn K (He.ga K x) (.type "type")
theorem kitB_ok {x : Str} {v : PySem.W.Frag → Value} {b : Bool} {K : PySem.W.Frag} (h : kitB x v b K = true) : PySem.W.kitOne K (.ref (He.ga K x)) (v K) = some b := of_decide_eq_true h
theorem crB_ok {x : Str} {K : PySem.W.Frag} (N : crB x K = true) : ClX.CRead K (He.ga K x) (.type "type") := by
  unfold crB at N
  refine ⟨N, ?_⟩
  have h := N
  unfold PySem.W.readsIn at h
  obtain ⟨h, _⟩ := He.ba h
  obtain ⟨h, _⟩ := He.ba h
  obtain ⟨h, h3⟩ := He.ba h
  obtain ⟨_, h2⟩ := He.ba h
  unfold PySem.W.specialIn
  rw [beq_iff_eq.mp h2, Option.bind_some]
  exact beq_iff_eq.mp h3
/-- Isi of a class of the program -/
theorem Isi.own {T : Tb} {nm : Str} {a : Addr} {tc : Nat → Option Bool} (g : T.mg nm = some (.ref a)) (ht : tyNames.all (fun s => decide (PySem.W.kitOne T.K (.type s) (.ref a) = some false)) = true)
    (hc : ∀ k b, tc k = some b → PySem.W.kitOne T.K (.ref (T.cl k)) (.ref a) = some b ∧ Obc T.K (T.cl k)) : Isi T nm (fun _ => false) tc :=
  ⟨.ref a, .ref a, .own a, rfl, .inr g, fun s hs => of_decide_eq_true (List.all_eq_true.mp ht s hs), hc⟩
def tyB (x : Str) (K : PySem.W.Frag) : Bool := tyNames.all fun s => decide (PySem.W.kitOne K (.type s) (.ref (He.ga K x)) = some false)
end Pd
set_option Elab.async false
set_option linter.all false
set_option maxRecDepth 100000
/-! Pd20: own errors with one field: raised, handed through, caught. -/
namespace Pd
open PySem PySem.Spec PyProof.Rows L2

/-- a value, or an error: its class, its fields -/
inductive Rx where
  | ok (d : D)
  | er (k : Nat) (ds : List D)
abbrev FCX := List D → Cs → Option (Rx × Cs)
abbrev FEX := En → Cs → Option (Rx × Cs)
/-- an error that is on its way: its class, its fields -/
def ErAt (T : Tb) (G : Hp) (al : List Addr) (H : Hp) (k : Nat) (ds : List D) (cls : Value) (dx : Option Addr) : Prop :=
  cls = .ref (T.cl k) ∧ ∃ (a : Addr) (vs : List V), dx = some a ∧ H a = some (.xd ((T.fl k).zip vs)) ∧ RpL T G al ds vs
abbrev AftR (T : Tb) (G : Hp) (al : List Addr) (H : Hp) (r : Rx) (c' : Cs) (Q : VK) (E : XK) : Prop := match r with
  | .ok d => Aft T G al H d c' Q
  | .er k ds => ∀ (G' : Hp) (al' : List Addr) (H' : Hp) (cls : Value) (dx : Option Addr), Stp G al H G' al' H' → HSt T G' al' c' H' → ErAt T G' al' H' k ds cls dx → E cls dx H'
/-- a def's promise by data, errors told -/
def SpX (T : Tb) (k : Nat) (m : FCX) : Sp := fun vs H Q E => vs.length = k ∧ ∃ (G : Hp) (al : List Addr) (c : Cs) (ds : List D) (r : Rx) (c' : Cs), HSt T G al c H ∧ RpL T G al ds vs ∧ m ds c = some (r, c') ∧ AftR T G al H r c' Q E
structure FnAtX (T : Tb) (n : Nat) (f : Addr) (fd : FuncData) (ps : List Str) (m : FCX) : Prop where
  ok : FnOk T.P T.w T.K T.mg T.base (L2.CX T.P T.w) n f fd ps (SpX T ps.length m)
  kp : PySem.W.keepIn T.K (.ref f) = true
  b : Binds T.K fd ps []
  len : ∀ ds c r, m ds c = some r → ds.length = ps.length
structure FnX (T : Tb) (n : Nat) (x : Str) (ps : List Str) (m : FCX) : Prop where
  ex : ∃ f fd, FnAtX T n f fd ps m ∧ T.mg x = some (.ref f)
/-- what is known of an error's class with one field -/
structure ErC (T : Tb) (n : Nat) (k : Nat) (x f : Str) : Prop where
  mg : T.mg x = some (.ref (T.cl k))
  oex : OexC T.K (T.cl k)
  noN : PySem.W.findIn T.K (.ref (T.cl k)) f = some none
  ini : ∃ fI fd ps, PySem.W.findIn T.K (.ref (T.cl k)) "__init__" = some (some (.ref fI)) ∧ PySem.W.typeIn T.K (.ref fI) = some (.type "function") ∧ Binds T.K fd ps [] ∧
    FnOk T.P T.w T.K T.mg T.base CX0 n fI fd ps (fun vs H Q _ => ∃ (a : Addr) (y : V), vs = [.ref a, y] ∧ OexC T.K (T.cl k) ∧ H a = some (exo a (T.cl k) none) ∧ ∀ dx, H dx = none → dx ≠ a → Q .non (upd (upd H dx (exd dx [(f, y)])) a (exo a (T.cl k) (some dx))))
  fl : T.fl k = [f]
  xf : XfC T.K (T.cl k)
  te : PySem.W.exmOne T.K (.ref (T.cl k)) (.ref (T.cl k)) = some true

structure TrEX (T : Tb) (n : Nat) (X : Cx) (e : Expr) (f : FEX) : Prop where
  run : Tied T n X → ∀ (W : WX), Takes X W → ∀ (G : Hp) (al : List Addr) (c : Cs) (env : En) (σ : L2.St) (H : Hp) (Q : VK) (r : Rx) (c' : Cs), HSt T G al c H → EOk T G al H env σ → f env c = some (r, c') →
    AftR T G al H r c' Q (fun cls dx H' => W cls dx σ H') → SemE X e σ H Q
section
variable {T : Tb} {n k : Nat} {X : Cx} {pos p : Pos} {e a b : Expr} {es : List Expr} {fe : FE} {fa : FA} {fx fy : FEX} {ft : FT} {m : FC} {mx : FCX} {x : Str} {ps : List Str}
def fV (f : FE) : FEX := fun env c => match f env c with | some (d, c1) => some (.ok d, c1) | none => none
theorem ex_val (h : TrE T n X e fe) : TrEX T n X e (fV fe) := by
  refine ⟨fun t W tk G al c env σ H Q r c' hs he hf q => ?_⟩
  unfold fV at hf
  split at hf
  case h_2 => cases hf
  case h_1 d c1 e1 => cases hf; exact h.run t G al c env σ H Q d c' hs he e1 q
theorem Tied.fnX {f : Addr} {fd : FuncData} {sp : Sp} (t : Tied T n X) (h : FnOk T.P T.w T.K T.mg T.base (L2.CX T.P T.w) k f fd ps sp) : FnOk X.prog X.w X.K X.mg X.base (L2.CX X.prog X.w) k f fd ps sp := by
  rw [t.P, t.w, t.K, t.mg, t.base]; exact h
theorem AftR.after {G G1 H H1 : Hp} {al al1 : List Addr} {r : Rx} {c' : Cs} {Q : VK} {E : XK} (l : Stp G al H G1 al1 H1) (q : AftR T G al H r c' Q E) : AftR T G1 al1 H1 r c' Q E := by
  cases r with
  | ok d => exact fun G' al' H' v l' => q G' al' H' v (l.trans l')
  | er k ds => exact fun G' al' H' cls dx l' => q G' al' H' cls dx (l.trans l')
def fCallX (m : FCX) (fa : FA) : FEX := fun env c => match fa env c with
  | some (ds, c1) => m ds c1
  | none => none
theorem ex_call (F : FnX T k x ps mx) (ha : TrA T n X (e :: es) fa) (hk : k ≤ n := by decide) (hg : Gl X x := by rfl) (hdb : (x == ("__debug__" : Str)) = false := by decide) (he : starEach (e :: es) X.env = (false, eval e X.env) :: starEach es X.env := by rfl)
    (hpl : (backTo pos (starEach es X.env)).any (·.1) = false := by rfl) : TrEX T n X (.Call (.Name x p) (e :: es) [] pos) (fCallX mx fa) := by
  obtain ⟨f, fd, A, g⟩ := F.ex
  refine ⟨fun t W tk G al c env σ H Q r c' hs he' hf q => ofE (pe_callS (t.fnX A.ok) (t.room.mono hk) hg (by rw [t.mg]; exact g) (by rw [t.K]; exact A.kp) (by rw [t.K]; exact A.b) (fun σ => passAt tk σ) (paS (e :: es)) hdb he hpl) ?_⟩
  unfold fCallX at hf
  split at hf
  case h_2 => cases hf
  case h_1 ds c1 e1 =>
    refine ha.run t G al c env σ H _ ds c1 hs he' e1 fun G1 al1 H1 vs l1 hs1 r1 => ?_
    exact ⟨r1.length.symm.trans (A.len _ _ _ hf), G1, al1, c1, ds, r, c', hs1, r1, hf, q.after l1⟩
/-- f(e), e may raise -/
def fCallX1 (m : FC) (fx : FEX) : FEX := fun env c => match fx env c with
  | some (.ok d, c1) => match m [d] c1 with
    | some (d', c2) => some (.ok d', c2)
    | none => none
  | some (.er k ds, c1) => some (.er k ds, c1)
  | none => none
theorem ex_call1 (F : Fn T k x ps m) (h : TrEX T n X e fx) (hk : k ≤ n := by decide) (hg : Gl X x := by rfl) (hdb : (x == ("__debug__" : Str)) = false := by decide) (he : starEach (e :: []) X.env = (false, eval e X.env) :: starEach [] X.env := by rfl)
    (hpl : (backTo pos (starEach [] X.env)).any (·.1) = false := by rfl) : TrEX T n X (.Call (.Name x p) [e] [] pos) (fCallX1 m fx) := by
  obtain ⟨f, fd, A, g⟩ := F.ex
  refine ⟨fun t W tk G al c env σ H Q r c' hs he' hf q => ofE (pe_call (t.fn A.ok) (t.room.mono hk) hg (by rw [t.mg]; exact g) (by rw [t.K]; exact A.kp) (by rw [t.K]; exact A.b) .nil pass0 (pa_cons (peS e) pa_nil he) hdb he hpl) ?_⟩
  unfold fCallX1 at hf
  split at hf
  case h_3 => cases hf
  case h_1 d c1 e1 =>
    split at hf
    case h_2 => cases hf
    case h_1 d' c2 e2 =>
      cases hf
      refine h.run t W tk G al c env σ H _ (.ok d) c1 hs he' e1 fun G1 al1 H1 v l1 hs1 r1 => ?_
      show SpS T ps.length m ([v] ++ []) H1 Q E0
      rw [List.append_nil]
      exact A.sp hs1 (.cons r1 .nil) e2 fun G' al' H' v' l => q G' al' H' v' (l1.trans l)
  case h_2 k' ds c1 e1 =>
    cases hf
    exact h.run t W tk G al c env σ H _ (.er k' ds) _ hs he' e1 q
def fIfX (ft : FT) (f g : FEX) : FEX := fun env c => match ft env c with | some (true, c1) => f env c1 | some (false, c1) => g env c1 | none => none
theorem ex_if {t0 : Expr} (ht : TrT T n X t0 ft) (ha : TrEX T n X a fx) (hb : TrEX T n X b fy) : TrEX T n X (.IfExp t0 a b pos) (fIfX ft fx fy) := by
  refine ⟨fun t W tk G al c env σ H Q r c' hs he hf q => ofE (pe_ifExp (ptS t0) (peS a) (peS b)) ?_⟩
  unfold fIfX at hf
  split at hf
  case h_1 c1 e1 => exact ht.run t G al c env σ H _ _ _ hs he e1 fun G1 al1 H1 l1 hs1 => iteT (ha.run t W tk G1 al1 c1 env σ H1 _ _ _ hs1 (he.mono l1) hf (q.after l1))
  case h_2 c1 e1 => exact ht.run t G al c env σ H _ _ _ hs he e1 fun G1 al1 H1 l1 hs1 => iteF (hb.run t W tk G1 al1 c1 env σ H1 _ _ _ hs1 (he.mono l1) hf (q.after l1))
  case h_3 => cases hf
end

/-! ### statements -/
inductive FlX where
  | fl (r : Fl)
  | er (k : Nat) (ds : List D)
abbrev FSX := En → Cs → Option (FlX × En × Cs)
abbrev AftSX (T : Tb) (B : Base) (G : Hp) (al : List Addr) (r : FlX) (env' : En) (c' : Cs) (E : Ends) (W : WX) : Prop := match r with
  | .fl r => AftS T B G al r env' c' E
  | .er k ds => ∀ (G' : Hp) (al' : List Addr) (σ' : L2.St) (H' : Hp) (cls : Value) (dx : Option Addr), Le G al G' al' → Ok T B G' al' c' H' env' σ' → ErAt T G' al' H' k ds cls dx → W cls dx σ' H'
structure TrSX (T : Tb) (n : Nat) (X : Cx) (st : Stmt) (f : FSX) : Prop where
  run : Tied T n X → ∀ (W : WX), Takes X W → ∀ (B : Base) (G : Hp) (al : List Addr) (c : Cs) (env : En) (σ : L2.St) (H : Hp) (E : Ends) (r : FlX) (env' : En) (c' : Cs), Ok T B G al c H env σ → f env c = some (r, env', c') → AftSX T B G al r env' c' E W → SemS X st E σ H
structure TrBX (T : Tb) (n : Nat) (X : Cx) (st : List Stmt) (f : FSX) : Prop where
  run : Tied T n X → ∀ (W : WX), Takes X W → ∀ (B : Base) (G : Hp) (al : List Addr) (c : Cs) (env : En) (σ : L2.St) (H : Hp) (E : Ends) (r : FlX) (env' : En) (c' : Cs), Ok T B G al c H env σ → f env c = some (r, env', c') → AftSX T B G al r env' c' E W → SemB X st E σ H
section
variable {T : Tb} {n k : Nat} {X : Cx} {pos p : Pos} {e tg iter : Expr} {es : List Expr} {st : Stmt} {rest body : List Stmt} {fe : FE} {fa : FA} {fx fy : FEX} {ft : FT} {f fb : FSX} {fr : FSX} {f0 : FS} {g : FG} {ws : List Nat} {m : FC} {x : Str} {ps : List Str}
theorem AftSX.le {B : Base} {G G1 : Hp} {al al1 : List Addr} {r : FlX} {env' : En} {c' : Cs} {E : Ends} {W : WX} (l : Le G al G1 al1) (q : AftSX T B G al r env' c' E W) : AftSX T B G1 al1 r env' c' E W := by
  cases r with
  | fl r => exact fun G' al' σ' H' l' => q G' al' σ' H' (l.trans l')
  | er k ds => exact fun G' al' σ' H' cls dx l' => q G' al' σ' H' cls dx (l.trans l')
def fSV (f : FS) : FSX := fun env c => match f env c with | some (r, env1, c1) => some (.fl r, env1, c1) | none => none
theorem sx_val (h : TrS T n X st f0) : TrSX T n X st (fSV f0) := by
  refine ⟨fun t W tk B G al c env σ H E r env' c' k hf q => ?_⟩
  unfold fSV at hf
  split at hf
  case h_2 => cases hf
  case h_1 r1 env1 c1 e1 => cases hf; exact h.run t B G al c env σ H E _ _ _ k e1 q
def fSetX (i : Nat) (f : FEX) : FSX := fun env c => match f env c with
  | some (.ok d, c1) => some (.fl .nx, env.set i (some (.f d)), c1)
  | some (.er k ds, c1) => some (.er k ds, env, c1)
  | none => none
theorem sx_set (i : Nat) {x : Str} {pos' : Pos} (h : TrEX T n X e fx) (hi : X.N[i]? = some x := by rfl) (hx : Loc X.env.scope x := by first | exact Or.inl rfl | exact Or.inr rfl) (hs : swapsWith e (some (.Name x pos')) pos.line X.env = pure false := by rfl)
    (hf : X.fn x = true ∨ X.env.scope.names.lookup x = some .local := by first | exact .inl rfl | exact .inr rfl | assumption) : TrSX T n X (.Assign [.Name x pos'] e pos) (fSetX i fx) := by
  refine ⟨fun t W tk B G al c env σ H E r env' c' k hf' q => ofS (ps_set t.nd hi hx (peS e) hs hf) ?_⟩
  unfold fSetX at hf'
  split at hf'
  case h_3 => cases hf'
  case h_1 d c1 e1 =>
    cases hf'
    exact h.run t W tk G al c env σ H _ (.ok d) _ k.hs k.he e1 fun G1 al1 H1 v l hs1 r1 => q G1 al1 _ H1 l.le ((k.step l hs1).set i r1)
  case h_2 kk ds c1 e1 =>
    cases hf'
    exact h.run t W tk G al c env σ H _ (.er kk ds) _ k.hs k.he e1 fun G1 al1 H1 cls dx l hs1 r1 => q G1 al1 σ H1 cls dx l.le (k.step l hs1) r1
def fAsgX (f : FEX) (g : FG) : FSX := fun env c => match f env c with
  | some (.ok d, c1) => match g d env with
    | some env1 => some (.fl .nx, env1, c1)
    | none => none
  | some (.er k ds, c1) => some (.er k ds, env, c1)
  | none => none
theorem sx_asg (h : TrEX T n X e fx) (hg : TrG T n X tg ws g) (hs : swapsWithSole [tg] e pos.line X.env = pure false := by rfl) (hw : swappedStores [tg] e X.env = pure none := by rfl) (h1 : (assignEach [tg] X.env).map (·.2) = [assign tg X.env] := by rfl) :
    TrSX T n X (.Assign [tg] e pos) (fAsgX fx g) := by
  refine ⟨fun t W tk B G al c env σ H E r env' c' k hf' q => ofS (ps_asg (peS e) (pgS tg) hs hw h1) ?_⟩
  unfold fAsgX at hf'
  split at hf'
  case h_3 => cases hf'
  case h_1 d c1 e1 =>
    split at hf'
    case h_2 => cases hf'
    case h_1 env1 e2 =>
      cases hf'
      refine h.run t W tk G al c env σ H _ (.ok d) _ k.hs k.he e1 fun G1 al1 H1 v l hs1 r1 => ?_
      have k1 := k.step l hs1
      exact hg.run t G1 al1 _ env σ H1 d v _ _ hs1 k1.he r1 e2 fun σ' he' _ _ hx => q G1 al1 σ' H1 l.le (k1.asg he' hx)
  case h_2 kk ds c1 e1 =>
    cases hf'
    exact h.run t W tk G al c env σ H _ (.er kk ds) _ k.hs k.he e1 fun G1 al1 H1 cls dx l hs1 r1 => q G1 al1 σ H1 cls dx l.le (k.step l hs1) r1
def fRetX (f : FEX) : FSX := fun env c => match f env c with
  | some (.ok d, c1) => some (.fl (.rt d), env, c1)
  | some (.er k ds, c1) => some (.er k ds, env, c1)
  | none => none
theorem sx_ret (h : TrEX T n X e fx) : TrSX T n X (.Return (some e) pos) (fRetX fx) := by
  refine ⟨fun t W tk B G al c env σ H E r env' c' k hf' q => ofS (ps_ret (peS e)) ?_⟩
  unfold fRetX at hf'
  split at hf'
  case h_3 => cases hf'
  case h_1 d c1 e1 =>
    cases hf'
    exact h.run t W tk G al c env σ H _ (.ok d) _ k.hs k.he e1 fun G1 al1 H1 v l hs1 r1 => q G1 al1 σ H1 l.le (k.step l hs1) v r1
  case h_2 kk ds c1 e1 =>
    cases hf'
    exact h.run t W tk G al c env σ H _ (.er kk ds) _ k.hs k.he e1 fun G1 al1 H1 cls dx l hs1 r1 => q G1 al1 σ H1 cls dx l.le (k.step l hs1) r1
/-- raise C(e) -/
def fRaise (k : Nat) (f : FE) : FSX := fun env c => match f env c with
  | some (d, c1) => some (.er k [d], env, c1)
  | none => none
theorem sx_raise {j : Nat} {y : Str} {pos2 : Pos} (C : ErC T j k x y) (h : TrE T n X e fe) (hk : j + 1 ≤ n := by decide) (hg : Gl X x := by rfl) (hdb : (x == ("__debug__" : Str)) = false := by decide)
    (he : starEach (e :: []) X.env = (false, eval e X.env) :: starEach [] X.env := by rfl) (hpl : (backTo pos (starEach [] X.env)).any (·.1) = false := by rfl) : TrSX T n X (.Raise (some (.Call (.Name x p) [e] [] pos)) none pos2) (fRaise k fe) := by
  obtain ⟨fI, fd, ps, i1, i2, i3, i4⟩ := C.ini
  refine ⟨fun t W tk B G al c env σ H E r env' c' kk hf q => ?_⟩
  have PM := pmk_oex (X := X) (CX := CX0) (x := x) (p := p) (pos := pos) (e := e) (es := []) (ta := tCons (SemE X e) tNil) (dvs := []) (ds := []) (by rw [t.K]; exact C.oex) (by rw [t.K]; exact i1) (by rw [t.K]; exact i2) (t.fn i4) (t.room.mono hk) (by rw [t.K]; exact i3) .nil pass0 hg (by rw [t.mg]; exact C.mg) (pa_cons (peS e) pa_nil he) hdb he hpl
  refine ofS (ps_raise t.calm tk PM) ?_
  unfold fRaise at hf
  split at hf
  case h_2 => cases hf
  case h_1 d c1 e1 =>
    cases hf
    refine h.run t G al c env σ H _ d _ kk.hs kk.he e1 fun G1 al1 H1 v l1 hs1 r1 => ⟨(show 1 ≤ 1000 by decide), fun a ha => ⟨a, v, rfl, C.oex, upd_same, fun dx hdx hne => ⟨rfl, dx, [(y, v)], upd_same, ?_, ?_, ?_⟩⟩⟩
    · rw [upd_ne hne, upd_same]
    · rw [upd_ne hne] at hdx; exact hdx
    · rw [upd_ne hne] at hdx
      have eH : upd (del (upd (upd (upd H1 a (exo a (T.cl k) none)) dx (exd dx [(y, v)])) a (exo a (T.cl k) (some dx))) a) dx (.xd [(y, v)]) = upd H1 dx (.xd [(y, v)]) := by
        funext z
        by_cases hz : z = dx
        · rw [hz, upd_same, upd_same]
        · rw [upd_ne hz, upd_ne hz]
          by_cases hz2 : z = a
          · rw [hz2, del_same, ha]
          · rw [del_ne hz2, upd_ne hz2, upd_ne hz, upd_ne hz2]
      rw [eH]
      have l2 : Stp G al H G1 al1 (upd H1 dx (.xd [(y, v)])) := l1.trans (.junk hdx)
      have k2 := kk.step l2 (hs1.junk hdx)
      refine q G1 al1 σ _ _ (some dx) l2.le k2 ⟨rfl, dx, [v], rfl, ?_, .cons r1 .nil⟩
      rw [upd_same, C.fl]
      rfl
def fIteX (ft : FT) (f g : FSX) : FSX := fun env c => match ft env c with
  | some (true, c1) => f env c1
  | some (false, c1) => g env c1
  | none => none
theorem sx_if {a b : List Stmt} {fa fb : FSX} (ht : TrT T n X e ft) (ha : TrBX T n X a fa) (hb : TrBX T n X b fb) : TrSX T n X (.If e a b pos) (fIteX ft fa fb) := by
  refine ⟨fun t W tk B G al c env σ H E r env' c' k hf q => ofS (ps_if (ptS e) (pbS a) (pbS b)) ?_⟩
  unfold fIteX at hf
  split at hf
  case h_1 c1 e1 => exact ht.run t G al c env σ H _ _ _ k.hs k.he e1 fun G1 al1 H1 l hs1 => iteT (ha.run t W tk B G1 al1 c1 env σ H1 E r env' c' (k.step l hs1) hf (q.le l.le))
  case h_2 c1 e1 => exact ht.run t G al c env σ H _ _ _ k.hs k.he e1 fun G1 al1 H1 l hs1 => iteF (hb.run t W tk B G1 al1 c1 env σ H1 E r env' c' (k.step l hs1) hf (q.le l.le))
  case h_3 => cases hf
def fNxX : FSX := fun env c => some (.fl .nx, env, c)
def fSeqX (f g : FSX) : FSX := fun env c => match f env c with
  | some (.fl .nx, env1, c1) => g env1 c1
  | r => r
theorem bx_nil : TrBX T n X [] fNxX := ⟨fun t W tk B G al c env σ H E r env' c' k hf q => ofB pss_nil (by cases hf; exact q G al σ H (.refl _ _) k)⟩
theorem bx_cons (h : TrSX T n X st f) (h2 : TrBX T n X rest fr) : TrBX T n X (st :: rest) (fSeqX f fr) := by
  refine ⟨fun t W tk B G al c env σ H E r env' c' k hf q => ofB (pss_cons (psS st) (pbS rest)) ?_⟩
  unfold fSeqX at hf
  cases e1 : f env c with
  | none => rw [e1] at hf; cases hf
  | some p =>
    obtain ⟨r1, env1, c1⟩ := p
    rw [e1] at hf
    refine h.run t W tk B G al c env σ H _ r1 env1 c1 k e1 ?_
    cases r1 with
    | fl r1 =>
      intro G1 al1 σ1 H1 l1 k1
      cases r1 with
      | nx => exact h2.run t W tk B G1 al1 c1 env1 σ1 H1 E r env' c' k1 hf (q.le l1)
      | rt d => cases hf; exact q G1 al1 σ1 H1 l1 k1
      | bk => cases hf; exact q G1 al1 σ1 H1 l1 k1
      | ct => cases hf; exact q G1 al1 σ1 H1 l1 k1
    | er kk ds => cases hf; exact q
theorem bx_one (h : TrSX T n X st f) : TrBX T n X [st] f :=
  ⟨fun t W tk B G al c env σ H E r env' c' k hf q => ofB (pss_one (psS st)) (h.run t W tk B G al c env σ H E r env' c' k hf q)⟩
def fFzX (i : Nat) (f : FSX) : FSX := fun env c => f (fzE i env) c
theorem sx_fz (i : Nat) (h : TrSX T n X st f) : TrSX T n X st (fFzX i f) :=
  ⟨fun t W tk B G al c env σ H E r env' c' k hf q => let ⟨G', l', k'⟩ := k.fz i; h.run t W tk B G' al c (fzE i env) σ H E r env' c' k' hf (q.le l')⟩
def forX (g : FG) (fb : FSX) : List D → FSX
  | [], env, c => some (.fl .nx, env, c)
  | d :: ds, env, c => match g d env with
    | none => none
    | some env1 => match fb env1 c with
      | some (.fl .nx, env2, c2) => forX g fb ds env2 c2
      | some (.fl .ct, env2, c2) => forX g fb ds env2 c2
      | some (.fl .bk, env2, c2) => some (.fl .nx, env2, c2)
      | some (.fl (.rt d), env2, c2) => some (.fl (.rt d), env2, c2)
      | some (.er k ds, env2, c2) => some (.er k ds, env2, c2)
      | none => none
def fForX (fi : FA) (g : FG) (fb : FSX) : FSX := fun env c => match fi env c with
  | some (ds, c1) => forX g fb ds env c1
  | none => none
theorem sx_for {fi : FA} (hi : TrI T n X tg iter fi) (hg : TrG T n X tg ws g) (hb : TrBX T n X body fb) (hp : Tied T n X → PassesOwn (model X.prog X.w) X.A X.env X.xe)
    (hs : ∀ x, foldedSetIterable iter X.env x = pure x := by intro _; rfl) : TrSX T n X (.For tg iter body [] pos) (fForX fi g fb) := by
  refine ⟨fun t W tk B G al c env σ H E r env' c' k hf q => ofS (ps_for (hp t) t.calm (piS tg iter) (pgS tg) (pbS body) hs) ?_⟩
  unfold fForX at hf
  split at hf
  case h_2 => cases hf
  case h_1 ds c1 e1 =>
    refine hi.run t G al c env σ H _ ds c1 k.hs k.he e1 fun G1 al1 H1 J l1 hs1 it => ?_
    have k1 := k.step l1 hs1
    refine ⟨fun i m σ2 H2 => m = ds.length - i ∧ i ≤ ds.length ∧ ∃ G2 al2 c2 env2, Le G1 al1 G2 al2 ∧ Ok T B G2 al2 c2 H2 env2 σ2 ∧ forX g fb (ds.drop i) env2 c2 = some (r, env', c'), ⟨_, rfl, Nat.zero_le _, G1, al1, c1, env, .refl _ _, k1, by simpa using hf⟩, ?_⟩
    rintro i m σ2 H2 ⟨rfl, hil, G2, al2, c2, env2, le2, k2, hr⟩
    by_cases hlt : i < ds.length
    · rw [List.drop_eq_getElem_cons hlt] at hr
      unfold forX at hr
      split at hr
      case h_1 => cases hr
      case h_2 env3 e3 =>
        obtain ⟨go, yl⟩ := (it i G2 al2 c2 H2 le2 k2.hs).1 ds[i] (List.getElem?_eq_getElem hlt)
        refine .inr ⟨go, fun σ' H' => ∃ G' al' cn en, Le G1 al1 G' al' ∧ Ok T B G' al' cn H' en σ' ∧ forX g fb (ds.drop (i + 1)) en cn = some (r, env', c'), fun σ' H' ⟨G', al', cn, en, le', k', hr'⟩ => ⟨ds.length - (i + 1), by omega, rfl, hlt, G', al', cn, en, le', k', hr'⟩, fun x H3 y => ?_⟩
        obtain ⟨G3, l3, hs3, r3⟩ := yl x H3 y
        have k3 := k2.step l3 hs3
        refine hg.run t G3 al2 c2 env2 σ2 H3 ds[i] x env3 _ hs3 k3.he r3 e3 fun σ4 he4 _ _ hx4 => ?_
        have k4 := k3.asg he4 hx4
        have le4 := le2.trans l3.le
        split at hr
        case h_1 en cn eb => exact hb.run t W tk B G3 al2 c2 env3 σ4 H3 _ _ _ _ k4 eb fun G5 al5 σ5 H5 l5 k5 => ⟨G5, al5, cn, en, le4.trans l5, k5, hr⟩
        case h_2 en cn eb => exact hb.run t W tk B G3 al2 c2 env3 σ4 H3 _ _ _ _ k4 eb fun G5 al5 σ5 H5 l5 k5 => ⟨G5, al5, cn, en, le4.trans l5, k5, hr⟩
        case h_3 en cn eb => cases hr; exact hb.run t W tk B G3 al2 c2 env3 σ4 H3 _ _ _ _ k4 eb fun G5 al5 σ5 H5 l5 k5 => q G5 al5 σ5 H5 (l1.le.trans (le4.trans l5)) k5
        case h_4 dd en cn eb => cases hr; exact hb.run t W tk B G3 al2 c2 env3 σ4 H3 _ _ _ _ k4 eb fun G5 al5 σ5 H5 l5 k5 => q G5 al5 σ5 H5 (l1.le.trans (le4.trans l5)) k5
        case h_5 kk dd en cn eb => cases hr; exact hb.run t W tk B G3 al2 c2 env3 σ4 H3 _ _ _ _ k4 eb fun G5 al5 σ5 H5 cls dx l5 k5 => q G5 al5 σ5 H5 cls dx (l1.le.trans (le4.trans l5)) k5
        case h_6 => cases hr
    · have e : i = ds.length := by omega
      subst e
      rw [List.drop_length] at hr
      cases hr
      exact .inl ⟨(it _ G2 al2 _ H2 le2 k2.hs).2 (Nat.le_refl _), q G2 al2 σ2 H2 (l1.le.trans le2) k2⟩
end

/-! ### a def's body -/
abbrev BXX (T : Tb) (N : List Str) (qual : Str) (scope : Scope) (f : Addr) (cdv : Value) (A : Around) (outer : List Env) (s : Shared) (H : Hp) (E : XK) : Cx := cxOf (L2.CX T.P T.w) T.P T.w T.K T.mg T.base N qual scope f cdv A outer s H E
abbrev DerX (T : Tb) (n : Nat) (N : List Str) (qual : Str) (st : Stmt) (fb : FSX) : Prop :=
  ∀ (f : Addr) (cdv : Value) (A : Around) (outer : List Env) (s : Shared) (H : Hp) (E : XK), TrBX T n (BXX T N qual (defScope st) f cdv A outer s H E) (defBody st) fb
theorem pow_BXX {T : Tb} {N : List Str} {qual : Str} {scope : Scope} {f : Addr} {cdv : Value} {A : Around} {outer : List Env} {s : Shared} {H : Hp} {E : XK} : PassesOwn (model (BXX T N qual scope f cdv A outer s H E).prog (BXX T N qual scope f cdv A outer s H E).w) (BXX T N qual scope f cdv A outer s H E).A (BXX T N qual scope f cdv A outer s H E).env (BXX T N qual scope f cdv A outer s H E).xe := passes_of rfl
def mOfX (N : List Str) (k : Nat) (fb : FSX) : FCX := fun ds c => if ds.length = k then match fb (startD N ds) c with
  | some (.fl (.rt d), _, c1) => some (.ok d, c1)
  | some (.fl .nx, _, c1) => some (.ok .non, c1)
  | some (.er k ds, _, c1) => some (.er k ds, c1)
  | _ => none else none
section
variable {T : Tb} {n : Nat} {N ps : List Str} {x qual : Str} {params : Arguments} {body : List Stmt} {scope : Scope} {f : Addr} {fd : FuncData} {fb : FSX}
theorem mOfX_len {ds : List D} {c : Cs} {r : Rx × Cs} {k : Nat} (h : mOfX N k fb ds c = some r) : ds.length = k := by
  unfold mOfX at h
  split at h
  case isTrue e => exact e
  case isFalse => cases h
theorem fnatX_of (F : FunD T.K x qual params body scope [] [] f fd) (S : FnScope N ps scope) (b : Binds T.K fd ps [])
    (tr : ∀ (cdv : Value) (A : Around) (outer : List Env) (s : Shared) (H : Hp) (E : XK), TrBX T n (BXX T N qual scope f cdv A outer s H E) body fb) : FnAtX T (n + 1) f fd ps (mOfX N ps.length fb) := by
  refine ⟨F.ok S (fun vs H Q E h => h.1) (fun cdv A outer s H vs Q E hr h => ?_), F.kp, b, fun ds c r h => mOfX_len h⟩
  obtain ⟨hl, G, al, c, ds, r, c', hs, rl, e1, q⟩ := h
  have ti : Tied T n (BXX T N qual scope f cdv A outer s H E) := ⟨rfl, rfl, rfl, rfl, rfl, rfl, S.nd, hr⟩
  have key : ∃ fl env', fb (startD N ds) c = some (fl, env', c') ∧ (match fl with | .fl (.rt d) => r = .ok d | .fl .nx => r = .ok .non | .er k es => r = .er k es | _ => False) := by
    unfold mOfX at e1
    split at e1
    case isFalse => cases e1
    case isTrue =>
      split at e1
      case h_1 d env1 c1 e2 => cases e1; exact ⟨_, _, e2, rfl⟩
      case h_2 env1 c1 e2 => cases e1; exact ⟨_, _, e2, rfl⟩
      case h_3 kk es env1 c1 e2 => cases e1; exact ⟨_, _, e2, rfl⟩
      case h_4 => cases e1
  obtain ⟨fl, env', e2, e3⟩ := key
  refine ⟨_, pbS body, (tr cdv A outer s H E).run ti (fun cls d _ H => E cls d H) (takes_of rfl rfl rfl rfl) ⟨G, al, c, H, none⟩ G al c (startD N ds) (L2.start N vs) H _ fl env' c' ⟨hs, hs, eok_start rl, .refl _ _ _, fun i e a h => ?_, fun x e hx => by cases hx⟩ e2 ?_⟩
  · unfold startD at h
    by_cases hi : i < ds.length
    · rw [List.getElem?_append_left (by simpa using hi), List.getElem?_map, List.getElem?_eq_getElem hi] at h; cases h
    · rw [List.getElem?_append_right (by simpa using hi), List.getElem?_replicate] at h
      split at h <;> cases h
  · cases fl with
    | fl r1 =>
      intro G' al' σ' H' l k'
      cases r1 with
      | rt d =>
        have e3 : r = .ok d := e3
        subst e3
        exact fun v rv => q G' al' H' v k'.st k'.hs rv
      | nx =>
        have e3 : r = .ok .non := e3
        subst e3
        exact q G' al' H' .non k'.st k'.hs .non
      | bk => exact e3.elim
      | ct => exact e3.elim
    | er kk es =>
      have e3 : r = .er kk es := e3
      subst e3
      exact fun G' al' σ' H' cls dx l k' ea => q G' al' H' cls dx k'.st k'.hs ea
end

/-! ### try: return e, except C as n: return n.f -/
def fTryRet (k i : Nat) (fx : FEX) : FS := fun env c => match fx env c with
  | some (.ok d, c1) => some (.rt d, env, c1)
  | some (.er j [d], c1) => if j = k ∧ i < env.length then some (.rt d, env, c1) else none
  | _ => none
theorem ts_tryRet {T : Tb} {n k i j : Nat} {X : Cx} {e : Expr} {fx : FEX} {x nm y : Str} {np pos pos' rp rp2 p1 p2 : Pos} (C : ErC T j k x y)
    (h : ∀ (pn : List (Addr × Obj)) (xe : Value → Shared → Prop), TrEX T n (X.tr pn xe) e fx) (hs : X.stack = X.env :: X.outer := by rfl) (hf : X.env.frame = some X.env.locals := by rfl) (hi : X.N[i]? = some nm := by rfl)
    (hln : X.env.kindOf nm = some .local := by rfl) (hgx : Gl X x := by rfl) (hdb : (x == ("__debug__" : Str)) = false := by decide)
    (hpv : ∀ (a : Addr) (oe : Obj) (pn : List (Addr × Obj)), PE (X.suite a ((a, oe) :: pn)) (.Name nm p1) (tVar i)) (hbase : attributeBase (.Name nm p1) y X.env (eval (.Name nm p1) X.env) = eval (.Name nm p1) X.env := by rfl) :
    TrS T n X (.Try [.Return (some e) rp] [.ExceptHandler (some (.Name x np)) (some nm) [.Return (some (.Attribute (.Name nm p1) y p2)) rp2] pos'] [] [] pos) (fTryRet k i fx) := by
  refine ⟨fun t B G al c env σ H E r env' c' kk hf' q => ?_⟩
  have P := ps_try_as (X := X) (x := x) (n := nm) (c := .ref (T.cl k)) (i := i) (np := np) (pos := pos) (pos' := pos') (body := [.Return (some e) rp]) (b₀ := .Return (some (.Attribute (.Name nm p1) y p2)) rp2) (suite := [])
    (tb := fun W => fun D σ H => ∀ (pn : List (Addr × Obj)) (xe : Value → Shared → Prop), Takes (X.tr pn xe) W → SemB (X.tr pn xe) [.Return (some e) rp] D σ H)
    (ts := fun a cls d => tRet (tXf a cls d (T.cl k) y (tVar i))) (Wout := fun _ _ _ _ => False) hs hf t.nd hi hln ⟨hgx, hdb, .inl (by rw [t.mg]; exact C.mg)⟩ takes0
    (fun W pn xe tk _ => ⟨fun pins s σ H D I hh => hh pn xe tk pins s I⟩)
    (fun a oe cls d pn hz hv => pss_one (ps_ret (pe_xf (by rw [t.K]; exact C.xf) (by rw [t.K]; exact C.noN) hz hv (hpv a oe pn) hbase)))
  refine ofS P ?_
  intro pn xe tk
  refine ofB (pss_one (psS _)) ?_
  have t' : Tied T n (X.tr pn xe) := ⟨t.K, t.P, t.w, t.mg, t.base, t.calm, t.nd, t.room⟩
  unfold fTryRet at hf'
  split at hf'
  case h_1 d c1 e1 =>
    cases hf'
    exact ofS (ps_ret (peS e)) ((h pn xe).run t' _ tk G al c env σ H _ (.ok d) _ kk.hs kk.he e1 fun G1 al1 H1 v l hs1 r1 => q G1 al1 σ H1 l.le (kk.step l hs1) v r1)
  case h_2 jj d c1 e1 =>
    split at hf'
    case isFalse => cases hf'
    case isTrue ej =>
      cases hf'
      obtain ⟨ej, ei⟩ := ej
      subst ej
      refine ofS (ps_ret (peS e)) ((h pn xe).run t' _ tk G al c env σ H _ (.er jj [d]) _ kk.hs kk.he e1 fun G1 al1 H1 cls dx l hs1 r1 => ?_)
      obtain ⟨rfl, a, vs, rfl, ha, rl⟩ := r1
      obtain ⟨v, rfl, rv⟩ := rl.one
      refine ⟨true, by rw [t.K]; exact C.te, fun _ a0 ha0 => ?_, fun z => Bool.noConfusion z⟩
      have hl : i < σ.length := by rw [← kk.he.len]; exact ei
      refine ⟨.ref a0, by rw [List.getElem?_set_self hl], rfl, rfl, a, _, v, rfl, ha, ?_, q G1 al1 σ H1 l.le (kk.step l hs1) v rv⟩
      rw [C.fl]
      show List.lookup y [(y, v)] = some v
      simp
  case h_3 => cases hf'
end Pd
set_option Elab.async false
set_option linter.all false
set_option maxRecDepth 100000
/-! Pd21: parts of texts, the signs of a text as a list, two items exchanged. -/
namespace Pd
open PySem PySem.Spec PyProof.Rows L2
section
variable {T : Tb} {n : Nat} {X : Cx} {pos p2 : Pos} {e : Expr} {lo hi : Option Expr} {fe : FE}
/-- x[lo:hi], texts too -/
def cutA (d : D) (lo hi : Option Int) : Option D := match d with
  | .lst ds => some (.lst (cutD ds lo hi))
  | .tup ds => some (.tup (cutD ds lo hi))
  | .str z => if z.length ≤ lim then some (.str (Txt.slice z lo hi)) else none
  | _ => none
def fSlA (f : FE) (fl fh : FO) : FE := fun env c => match f env c with
  | some (d, c1) => match fl env c1 with
    | some (lo, c2) => match fh env c2 with
      | some (hi, c3) => match cutA d lo hi with
        | some d' => some (d', c3)
        | none => none
      | none => none
    | none => none
  | none => none
def rSlA2 (T : Tb) : V → Option Int → Option Int → Hp → VK → Prop := fun x lo hi H Q => ∃ (G : Hp) (al : List Addr) (c : Cs) (dx d : D), HSt T G al c H ∧ Rq T G al H dx x ∧ cutA dx lo hi = some d ∧ Aft T G al H d c Q
theorem sl_dataA (t : Tied T n X) : SlR X (rSlA2 T) := by
  refine slr_of fun x lo hi H Q ⟨G, al, c, dx, d, hs, rx, hg, q⟩ => ?_
  unfold cutA at hg
  split at hg
  case h_1 ds => exact ⟨_, sl_data t, G, al, c, _, d, hs, rx, hg, q⟩
  case h_2 ds => exact ⟨_, sl_data t, G, al, c, _, d, hs, rx, hg, q⟩
  case h_3 z =>
    split at hg
    case isFalse => cases hg
    case isTrue hz =>
      cases hg
      exact ⟨_, C8.sl_txt, z, rx.str_inv, Nat.le_trans hz lim_line, q.now hs (.str _)⟩
  case h_4 => cases hg
theorem tr_slA {fl fh : FO} (h : TrQ T n X e fe) (hl : TrO T n X lo fl) (hh : TrO T n X hi fh) : TrE T n X (.Subscript e (.Slice lo hi none p2) pos) (fSlA fe fl fh) := by
  refine ⟨fun t G al c env σ H Q d c' hs he hf q => ?_⟩
  obtain ⟨tl, pl, kl⟩ := hl.run t
  obtain ⟨th, ph, kh⟩ := hh.run t
  refine ofE (pe_slice (sl_dataA t) (peS e) pl ph) ?_
  unfold fSlA at hf
  split at hf
  case h_2 => cases hf
  case h_1 dx c1 e1 =>
    split at hf
    case h_2 => cases hf
    case h_1 i c2 e2 =>
      split at hf
      case h_2 => cases hf
      case h_1 j c3 e3 =>
        split at hf
        case h_2 => cases hf
        case h_1 d' e4 =>
          cases hf
          refine h.run t G al c env σ H _ _ _ hs he e1 fun G1 al1 H1 v l1 hs1 r1 => ?_
          refine kl G1 al1 c1 env σ H1 _ _ _ hs1 (he.mono l1) e2 fun G2 al2 H2 l2 hs2 => ?_
          refine kh G2 al2 c2 env σ H2 _ _ _ hs2 ((he.mono l1).mono l2) e3 fun G3 al3 H3 l3 hs3 => ?_
          exact ⟨G3, al3, _, dx, _, hs3, (r1.mono l2).mono l3, e4, fun G' al' H' v' l' => q G' al' H' v' (((l1.trans l2).trans l3).trans l')⟩
/-! ### list(x) of a text -/
theorem vals_signs {z : Str} {acc : Array Value} (h : ItemsOf (SignAt z) acc z.cps.size) : Vals ((z.cps.toList.map fun k => V.str ⟨#[k]⟩)) acc.toList := by
  obtain ⟨h1, h2⟩ := h
  have key : ∀ (l : List Nat) (us : List Value), us.length = l.length → (∀ (j : Nat) (v : Value), us[j]? = some v → ∃ (c : Nat) (u : Tok), l[j]? = some c ∧ v = Value.str (⟨#[c]⟩ : Str) u) → Vals (l.map fun k => V.str ⟨#[k]⟩) us := by
    intro l
    induction l with
    | nil =>
      intro us hl _
      cases us with
      | nil => exact .nil
      | cons => simp at hl
    | cons k l ih =>
      intro us hl hu
      cases us with
      | nil => simp at hl
      | cons u us =>
        obtain ⟨c, t, e1, e2⟩ := hu 0 u rfl
        have e1 : k = c := by simpa using e1
        subst e1
        exact .cons ⟨t, e2⟩ (ih us (by simpa using hl) fun j v hj => by
          obtain ⟨c, t, a1, a2⟩ := hu (j + 1) v (by simpa using hj)
          exact ⟨c, t, by simpa using a1, a2⟩)
  refine key _ _ (by rw [Array.length_toList, Array.length_toList, h1]) fun j v hj => ?_
  rw [Array.getElem?_toList] at hj
  obtain ⟨c, u, a1, a2⟩ := h2 j v hj
  exact ⟨c, u, by rw [Array.getElem?_toList]; exact a1, a2⟩
theorem RpL.of_signs {G : Hp} {al : List Addr} : ∀ ks : List Nat, RpL T G al (ks.map fun k => D.str ⟨#[k]⟩) (ks.map fun k => V.str ⟨#[k]⟩)
  | [] => .nil
  | k :: ks => .cons (.str _) (RpL.of_signs ks)
def bListS : FC := fun ds c => match ds with
  | [.str z] => if z.length ≤ lim then some (.lst (signs z), c) else none
  | _ => bList ds c
theorem cr_bListS (t : Tied T n X) : CallR X (.type "list") (rCN T bListS) := by
  intro pins s σ H xs us Q I rv h
  obtain ⟨G, al, c, ds, d, c', hs, rl, hg, q⟩ := h
  unfold bListS at hg
  split at hg
  case h_2 => exact cr_bList t pins s σ H xs us Q I rv ⟨G, al, c, ds, d, c', hs, rl, hg, q⟩
  case h_1 z =>
    split at hg
    case isFalse => cases hg
    case isTrue hz =>
      cases hg
      obtain ⟨v, rfl, r⟩ := rl.one
      have ev := r.str_inv
      subst ev
      obtain ⟨u, rfl, rx⟩ := vals1 rv
      obtain ⟨tk, rfl⟩ := rx
      have hsz : z.cps.size ≤ sizeLine := Nat.le_trans (show z.cps.size ≤ lim from hz) lim_line
      refine call_list_str (I.ok.hd t.calm) z tk (fun h' tk' acc' c2 hk hS hacc => ?_) hsz
      have hv := vals_signs hacc
      have hn : H s.heap.objs.size = none := I.hok.fresh (Nat.le_refl _)
      refine ⟨.ref s.heap.objs.size, _, I.laid (t' := tk') hk (Nat.le_refl _) (show ObjOk X.prog X.w _ h' _ (.lst (z.cps.toList.map fun k => V.str ⟨#[k]⟩)) from ⟨by rw [List.length_map, Array.length_toList]; exact hsz, acc'.toList, c2, hv, by simpa using hS⟩), rfl, ?_⟩
      exact q.new hs hn (.lst (RpL.of_signs z.cps.toList))
/-! ### x[a], x[b] = e -/
def fSwapO (i ja jb : Nat) (fe : FE) : FS := fun env c => match fe env c with
  | some (.tup [d1, d2], c1) => match env[i]?, env[ja]?, env[jb]? with
    | some (some (.o (.lst ds))), some (some (.f (.int a))), some (some (.f (.int b))) => match ixN ds.length a, ixN ds.length b with
      | some u, some v => some (.nx, env.set i (some (.o (.lst ((ds.set u d1).set v d2)))), c1)
      | _, _ => none
    | _, _, _ => none
  | _ => none
theorem ts_swapO (i ja jb : Nat) {x ya yb : Str} {px pa px2 pb q1 q2 pt : Pos} {kt : Nat} (he : TrE T n X e fe) (hij : i ≠ ja := by decide) (hib : i ≠ jb := by decide)
    (hN : X.N[i]? = some x := by rfl) (hv : Vis X.env.scope x := by first | exact Or.inl rfl | exact Or.inr (Or.inl rfl) | exact Or.inr (Or.inr rfl)) (hd : (x == ("__debug__" : Str)) = false := by decide) (hcd : (x == ("__classdict__" : Str)) = false := by decide)
    (hNa : X.N[ja]? = some ya := by rfl) (hva : Vis X.env.scope ya := by first | exact Or.inl rfl | exact Or.inr (Or.inl rfl) | exact Or.inr (Or.inr rfl)) (hda : (ya == ("__debug__" : Str)) = false := by decide) (hcda : (ya == ("__classdict__" : Str)) = false := by decide)
    (hNb : X.N[jb]? = some yb := by rfl) (hvb : Vis X.env.scope yb := by first | exact Or.inl rfl | exact Or.inr (Or.inl rfl) | exact Or.inr (Or.inr rfl)) (hdb : (yb == ("__debug__" : Str)) = false := by decide) (hcdb : (yb == ("__classdict__" : Str)) = false := by decide)
    (ha : ∀ v, assign (.Subscript (.Name x px) (.Name ya pa) q1) X.env v = (do
      let ov ← holding [v] (eval (.Name x px) X.env)
      let iv ← holding [v, ov] (eval (.Name ya pa) X.env)
      standAt q1
      holding [v, ov, iv] (setItem ov iv v)
      release [v, ov, iv] []) := by intro _; rfl)
    (ha2 : ∀ v, assign (.Subscript (.Name x px2) (.Name yb pb) q2) X.env v = (do
      let ov ← holding [v] (eval (.Name x px2) X.env)
      let iv ← holding [v, ov] (eval (.Name yb pb) X.env)
      standAt q2
      holding [v, ov, iv] (setItem ov iv v)
      release [v, ov, iv] []) := by intro _; rfl)
    (hn : (assignEach [.Subscript (.Name x px) (.Name ya pa) q1, .Subscript (.Name x px2) (.Name yb pb) q2] X.env).length = 2 := by rfl) (hst : (assignEach [.Subscript (.Name x px) (.Name ya pa) q1, .Subscript (.Name x px2) (.Name yb pb) q2] X.env).findIdx? (·.1) = none := by rfl)
    (hs : swapsWithSole [.Tuple [.Subscript (.Name x px) (.Name ya pa) q1, .Subscript (.Name x px2) (.Name yb pb) q2] kt pt] e pos.line X.env = pure false := by rfl) (hw : swappedStores [.Tuple [.Subscript (.Name x px) (.Name ya pa) q1, .Subscript (.Name x px2) (.Name yb pb) q2] kt pt] e X.env = pure none := by rfl)
    (h1 : (assignEach [.Tuple [.Subscript (.Name x px) (.Name ya pa) q1, .Subscript (.Name x px2) (.Name yb pb) q2] kt pt] X.env).map (·.2) = [assign (.Tuple [.Subscript (.Name x px) (.Name ya pa) q1, .Subscript (.Name x px2) (.Name yb pb) q2] kt pt) X.env] := by rfl)
    (hc1 : assignEach [.Subscript (.Name x px) (.Name ya pa) q1, .Subscript (.Name x px2) (.Name yb pb) q2] X.env = (false, assign (.Subscript (.Name x px) (.Name ya pa) q1) X.env) :: assignEach [.Subscript (.Name x px2) (.Name yb pb) q2] X.env := by rfl)
    (hc2 : assignEach [.Subscript (.Name x px2) (.Name yb pb) q2] X.env = (false, assign (.Subscript (.Name x px2) (.Name yb pb) q2) X.env) :: assignEach [] X.env := by rfl) :
    TrS T n X (.Assign [.Tuple [.Subscript (.Name x px) (.Name ya pa) q1, .Subscript (.Name x px2) (.Name yb pb) q2] kt pt] e pos) (fSwapO i ja jb fe) := by
  refine ⟨fun t B G al c env σ H E r env' c' k hf q => ofS (ps_asg (peS e) (pg_tup t.calm (pgs_cons (pg_sub (pe_var hN hv hd hcd) (pe_var hNa hva hda hcda) (set_uSetL (T := T)) ha) (pgs_cons (pg_sub (pe_var hN hv hd hcd) (pe_var hNb hvb hdb hcdb) (set_uSetL (T := T)) ha2) pgs_nil)) hn hst) hs hw h1) ?_⟩
  unfold fSwapO at hf
  split at hf
  case h_2 => cases hf
  case h_1 d1 d2 c1 e1 =>
    split at hf
    case h_2 => cases hf
    case h_1 ds a b e2 e3 e4 =>
      split at hf
      case h_2 => cases hf
      case h_1 u v e5 e6 =>
        cases hf
        refine he.run t G al c env σ H _ _ _ k.hs k.he e1 fun G1 al1 H1 w l1 hs1 r1 => ?_
        have k1 := k.step l1 hs1
        obtain ⟨tp, vs, rfl, h2, rl⟩ := (show Rq T G1 al1 H1 (.tup [d1, d2]) w from .inl r1).tup_inv hs1
        obtain ⟨v1, v2, rfl, rv1, rv2⟩ := rl.two
        obtain ⟨p, ho, hsl, hg, hp, hh, bx⟩ := k1.he.own i _ e2
        obtain ⟨va, hsa, ra⟩ := k1.he.frz ja _ e3
        obtain ⟨vb, hsb, rb⟩ := k1.he.frz jb _ e4
        refine ⟨tp, [v1, v2], rfl, by rw [t.K]; exact h2, rfl, v1, [v2], rfl, ?_⟩
        refine ⟨.ref p, hsl, va, hsa, G1, al1, _, p, ho, .lst ds, .int a, d1, .lst (ds.set u d1), rfl, hs1, hh, bx, ra, rv1, by simp only [uSetL, e5], fun o' b' => ?_⟩
        have k2 := k1.putO e2 hsl b'
        have hh2 : upd H1 p o' p = some o' := upd_same
        refine ⟨v2, [], rfl, ?_⟩
        refine ⟨.ref p, hsl, vb, hsb, G1, al1, _, p, o', .lst (ds.set u d1), .int b, d2, .lst ((ds.set u d1).set v d2), rfl, k2.hs, hh2, b', rb, rv2, by simp only [uSetL, List.length_set, e6], fun o'' b'' => ⟨rfl, ?_⟩⟩
        have e7 : (env.set i (some (Sl.o (.lst (ds.set u d1)))))[i]? = some (some (Sl.o (.lst (ds.set u d1)))) := by
          rw [List.getElem?_set_self (List.getElem?_eq_some_iff.mp e2).1]
        have k3 := k2.putO e7 hsl b''
        rw [List.set_set] at k3
        exact q G1 al1 σ _ l1.le k3
end
end Pd
set_option Elab.async false
set_option linter.all false
set_option maxRecDepth 100000
/-! Pd22: the head's facts of an own error's class. -/
namespace Pd
open PySem PySem.Spec PyProof.Rows L2
def oexB (K : PySem.W.Frag) (C : Addr) : Bool := match K.lookup C with
  | some ⟨.type "type", _, .cls cd, sl⟩ => (match cd.mro, sl.toList with
    | .ref C' :: bm, [_, _, _, _, some (.builtin n), _] => decide (C' = C) && decide (n = "ValueError.__new__") && !cd.hasDel && cd.hasDict && PySem.HandSPX.refsVE bm
    | _, _ => false)
  | _ => false
theorem oexB_ok {K : PySem.W.Frag} {C : Addr} (q : oexB K C = true) : ∃ nm qn N bs bm sn sub ab col dd k0 k1 k2 k3 k5, K.lookup C = some (excClassObj nm qn C N bs bm true sn sub ab col dd k0 k1 k2 k3 k5 "ValueError.__new__") ∧ PySem.HandSPX.refsVE bm = true := by
  unfold oexB at q
  split at q
  · rename_i dd cd sl ho
    split at q
    · rename_i C' bm k0 k1 k2 k3 n k5 hm hs
      simp only [Bool.and_eq_true, decide_eq_true_eq, Bool.not_eq_true'] at q
      obtain ⟨⟨⟨⟨rfl, rfl⟩, hdel⟩, hhd⟩, hve⟩ := q
      obtain ⟨nm, bs, mro, ns, qn, hd, sn, sub, ab, col, del⟩ := cd
      dsimp only at hm hdel hhd
      subst hm hdel hhd
      have hsl : sl = #[k0, k1, k2, k3, some (.builtin "ValueError.__new__"), k5] := by
        obtain ⟨l⟩ := sl
        simp only at hs
        rw [hs]
      subst hsl
      exact ⟨nm, qn, ns, bs, bm, sn, sub, ab, col, dd, k0, k1, k2, k3, k5, ho, hve⟩
    · cases q
  · cases q
/-- all that is asked of the class x -/
def erB (x : Str) (K : PySem.W.Frag) : Bool := oexB K (He.ga K x) && (He.eqO (PySem.W.findIn K (.ref (He.ga K x)) "__setattr__") (some (some (.builtin "object.__setattr__"))) && (decide (PySem.W.subIn K (.ref (He.ga K x)) (.type "BaseException") = some true) &&
  (decide (PySem.W.typeIn K (.ref (He.ga K x)) = some (.type "type")) && (PySem.W.keepIn K (.ref (He.ga K x)) && (xfB K (He.ga K x) && (decide (PySem.W.exmOne K (.ref (He.ga K x)) (.ref (He.ga K x)) = some true) &&
  (He.eqO (PySem.W.findIn K (.ref (He.ga K x)) "__init__") (some (some (.ref (He.fAd K (x, some "__init__"))))) && decide (PySem.W.typeIn K (.ref (He.fAd K (x, some "__init__"))) = some (.type "function")))))))))
theorem erC_of {T : Tb} {k : Nat} {x y qual : Str} {params : Arguments} {scope : Scope} {fd : FuncData} {p1 p2 p3 p4 : Pos} (h : erB x T.K = true) (hk : T.cl k = He.ga T.K x) (g : T.mg x = some (.ref (T.cl k))) (no : PySem.W.findIn T.K (.ref (He.ga T.K x)) y = some none) (fl : T.fl k = [y])
    (F : FunD T.K "__init__" qual params [.Assign [.Attribute (.Name "self" p1) y p2] (.Name y p3) p4] scope [] [] (He.fAd T.K (x, some "__init__")) fd) (S : FnScope ["self", y] ["self", y] scope) (b : Binds T.K fd ["self", y] [])
    (hpv : ∀ (cdv : Value) (A : Around) (outer : List Env) (s : Shared) (H : Hp) (E : XK), PS (BX T ["self", y] qual scope (He.fAd T.K (x, some "__init__")) cdv A outer s H E) (.Assign [.Attribute (.Name "self" p1) y p2] (.Name y p3) p4) (tOst T.K y (tVar 0) (tVar 1))) : ErC T 1 k x y := by
  unfold erB at h
  obtain ⟨h1, h⟩ := He.ba h
  obtain ⟨h2, h⟩ := He.ba h
  obtain ⟨h3, h⟩ := He.ba h
  obtain ⟨h4, h⟩ := He.ba h
  obtain ⟨h5, h⟩ := He.ba h
  obtain ⟨h6, h⟩ := He.ba h
  obtain ⟨h7, h⟩ := He.ba h
  obtain ⟨h8, h9⟩ := He.ba h
  have ox : OexC T.K (T.cl k) := by rw [hk]; exact ⟨oexB_ok h1, He.eqO_ok h2, of_decide_eq_true h3, of_decide_eq_true h4, h5⟩
  have no' : PySem.W.findIn T.K (.ref (T.cl k)) y = some none := by rw [hk]; exact no
  refine ⟨g, ox, no', ⟨_, fd, ["self", y], by rw [hk]; exact He.eqO_ok h8, of_decide_eq_true h9, b, ?_⟩, fl, by rw [hk]; exact xfB_ok h6, by rw [hk]; exact of_decide_eq_true h7⟩
  refine F.ok S (fun vs H Q E h => ?_) (fun cdv A outer s H vs Q E hr h => ⟨_, PSs.nox (pss_one (hpv cdv A outer s H E)), ?_⟩)
  · obtain ⟨a, v, rfl, _⟩ := h
    rfl
  · obtain ⟨a, v, rfl, hC, ha, q⟩ := h
    exact ⟨v, rfl, .ref a, rfl, a, T.cl k, rfl, hC, no', .inl ⟨ha, fun dx hd hn => q dx hd hn⟩⟩
end Pd
set_option Elab.async false
set_option linter.all false
set_option maxRecDepth 100000
/-! Pd23: a list that a method makes, kept as one's own. -/
namespace Pd
open PySem PySem.Spec PyProof.Rows L2
def rMdN (T : Tb) (g : FC) : V → List V → Hp → VK → Prop := fun x xs H Q => ∃ (G : Hp) (al : List Addr) (c : Cs) (ds : List D) (d : D) (c' : Cs), HSt T G al c H ∧ RqL T G al H ds (x :: xs) ∧ g ds c = some (d, c') ∧ AftN T G al H d c' Q
section
variable {T : Tb} {n : Nat} {X : Cx} {pos p2 cpos apos : Pos} {o e : Expr} {es : List Expr} {fo : FE} {fa : FA} {g : FC} {tn : String} {nm : Str} {bid : String}
theorem tn_md (pa : PlainAttrs tn) (slot : Slot tn nm bid) (hty : typeOf (.builtin bid) = pure (.type "method_descriptor")) (hm : Tied T n X → MtR X bid (rMdN T g)) (ho : TrQ T n X o fo) (ha : TrQA T n X (e :: es) fa)
    (hbase : attributeBase o nm X.env (eval o X.env) = eval o X.env := by rfl)
    (hfew : ((backTo cpos (starEach (e :: es) X.env)).all (fun x => !x.1) && (backToKw cpos (keywordEach [] X.env)).all (fun x => x.1.isSome)
      && decide ((e :: es).length + ([] : List Keyword).length + (if ([] : List Keyword).isEmpty then 0 else 1) < 30)) = true := by rfl)
    (hline : (apos.endLine == cpos.line) = true := by rfl) (hs : starEach (e :: es) X.env = (false, eval e X.env) :: starEach es X.env := by rfl) (hplain : (backTo cpos (starEach es X.env)).any (·.1) = false := by rfl) :
    TrN T n X (.Call (.Attribute o nm apos) (e :: es) [] cpos) (fMd tn g fo fa) := by
  refine ⟨fun t G al c env σ H Q d c' hst he hf q => ofE (pe_bm pa slot hty (hm t) (peS o) (paS (e :: es)) hbase hfew hline hs hplain) ?_⟩
  unfold fMd at hf
  split at hf
  case h_2 => cases hf
  case h_1 d0 c1 e1 =>
    split at hf
    case isFalse => cases hf
    case isTrue hT =>
      split at hf
      case h_2 => cases hf
      case h_1 ds c2 e2 =>
        refine ho.run t G al c env σ H _ _ _ hst he e1 fun G1 al1 H1 v l1 hs1 r1 => ⟨isTyM_v t hs1 hT r1, ha.run t G1 al1 c1 env σ H1 _ _ _ hs1 (he.mono l1) e2 fun G2 al2 H2 vs l2 hs2 rl => ?_⟩
        exact ⟨G2, al2, c2, d0 :: ds, d, c', hs2, .cons (r1.mono l2) rl, hf, fun G' al' H' a o l' hs' hg' ha' hp0 => q G' al' H' a o ((l1.trans l2).trans l') hs' hg' ha' (fresh_before hst hs2 (l1.trans l2) hp0)⟩
theorem mtn_mSplit (t : Tied T n X) : MtR X "str.split" (rMdN T mSplit) := by
  refine mtr_of fun x xs H Q ⟨G, al, c, ds, d, c', hs, rl, hg, q⟩ => ?_
  unfold mSplit at hg
  split at hg
  case h_2 => cases hg
  case h_1 a b =>
    split at hg
    case isFalse => cases hg
    case isTrue hl =>
      cases hg
      obtain ⟨r0, rl0⟩ := rl.cons_inv
      obtain ⟨w, rfl, rw'⟩ := rl0.one
      simp only [Bool.and_eq_true, decide_eq_true_eq, Bool.not_eq_true'] at hl
      exact ⟨_, mt_split, a, b, r0.str_inv, by rw [rw'.str_inv], hl.1, Nat.le_trans hl.2 lim_line, fun p hp => q.new hs hp (.lst (RpL.of_strs _))⟩
end
end Pd
set_option Elab.async false
set_option linter.all false
set_option maxRecDepth 100000
set_option maxHeartbeats 0
namespace L58
open PySem PySem.Spec PyProof.Rows L2 Pd
def top (i : Nat) : Stmt := PySem.Challenge.pw_nearsettled_k58_wrong_texts.main.body.getD i (.Pass ⟨0, 0, 0, 0⟩)
def cbody (i j : Nat) : Stmt := (clsBody (top i)).getD j (.Pass ⟨0, 0, 0, 0⟩)
def N__law_feed : List Str := ["script", "k", "cell", "digits", "state"]
def ps__law_feed : List Str := ["script", "k"]
abbrev s__law_feed : Stmt := top 39
def f__law_feed : FS := (fSeq (fSet 2 (fIf (asB (fOp oLt (fVarQ 1) (fLenQ (fVarQ 0)))) (fOp oIx (fVarQ 0) (fVarQ 1)) (fOp oAdd (fOp oMul (fC (.int 61)) (fVarQ 1)) (fC (.int 17)))))
  (fSeq (fSet 3 (fCall bMax (aCons (fC (.int 0)) (aCons (fOp oSub (fCall bAbs (aCons (fVarQ 2) aNil)) (fOp oPow (fC (.int 10)) (fC (.int 18)))) aNil))))
  (fSeq (fSet 4 (fOp oMod (fCall bIntS (aCons (fOp oAdd (fOp oAdd (fOp oMul (fVarQ 2) (fC (.int 6364136223846793005))) (fOp oMul (fC (.int 7919)) (fVarQ 1))) (fC (.int 1442695040888963407))) aNil)) (fC (.int 2305843009213693951))))
  (fRet (fCell (fLst (aCons (fVar 3) (aCons (fVar 4) aNil))))))))
def m__law_feed : FC := mOf N__law_feed 2 f__law_feed
def N__law_take : List Str := ["feed", "many", "digit"]
def ps__law_take : List Str := ["feed", "many"]
abbrev s__law_take : Stmt := top 40
def f__law_take : FS := (fSeq (fIte (asB (fOp oGt (fOp oIx (fVarQ 0) (fC (.int 0))) (fC (.int 0))))
  (fSeq (fSet 2 (fOp oMod (fCall bIntS (aCons (fOp oIx (fVarQ 0) (fC (.int 0))) aNil)) (fVarQ 1)))
  (fSeq (fStC uSetL (fOp oFdiv (fOp oIx (fVarQ 0) (fC (.int 0))) (fVarQ 1)) (fVar 0) (fC (.int 0)))
  (fRet (fVar 2))))
  fNx)
  (fSeq (fStC uSetL (fOp oMod (fCall bIntS (aCons (fOp oAdd (fOp oMul (fOp oIx (fVarQ 0) (fC (.int 1))) (fC (.int 6364136223846793005))) (fC (.int 1442695040888963407))) aNil)) (fC (.int 2305843009213693951))) (fVar 0) (fC (.int 1)))
  (fRet (fOp oMod (fCall bIntS (aCons (fOp oFdiv (fOp oIx (fVarQ 0) (fC (.int 1))) (fC (.int 65536))) aNil)) (fVarQ 1)))))
def m__law_take : FC := mOf N__law_take 2 f__law_take
def N__law_pick : List Str := ["feed", "some"]
def ps__law_pick : List Str := ["feed", "some"]
abbrev s__law_pick : Stmt := top 41
def f__law_pick : FS := (fRet (fOp oIx (fVarQ 1) (fCall m__law_take (aCons (fVar 0) (aCons (fLenQ (fVarQ 1)) aNil)))))
def m__law_pick : FC := mOf N__law_pick 2 f__law_pick
def N__law_width : List Str := ["feed"]
def ps__law_width : List Str := ["feed"]
abbrev s__law_width : Stmt := top 48
def f__law_width : FS := (fRet (fCall m__law_pick (aCons (fVar 0) (aCons (fLst (aCons (fC (.int 2)) (aCons (fC (.int 2)) (aCons (fC (.int 2)) (aCons (fC (.int 3)) (aCons (fC (.int 3)) (aCons (fC (.int 1)) aNil))))))) aNil))))
def m__law_width : FC := mOf N__law_width 1 f__law_width
def N__law_all : List Str := ["width", "length", "found", "turn", "longer", "one", "value"]
def ps__law_all : List Str := ["width", "length"]
abbrev s__law_all : Stmt := top 42
def f__law_all : FS := (fSeq (fSet 2 (fLst (aCons (fTup aNil) aNil)))
  (fSeq (fFor (fRg1 (aCons (fVarQ 1) aNil)) (gSet 3)
  (fSeq (fSet 4 (fLst aNil))
  (fSeq (fFor (fIt (fVar 2)) (gSet 5)
  (fSet 4 (fOp oAdd (fVarQ 4) (fComp (fRg1 (aCons (fVarQ 0) aNil)) (gSet 6) fYes (fOp oAdd (fVarQ 5) (fTup (aCons (fVar 6) aNil))) [6]))))
  (fSet 2 (fVar 4)))))
  (fRet (fVar 2))))
def m__law_all : FC := mOf N__law_all 2 f__law_all
def N__law_known_tables : List Str := ["width", "pairs", "threes", "found", "row"]
def ps__law_known_tables : List Str := ["width"]
abbrev s__law_known_tables : Stmt := top 45
def f__law_known_tables : FS := (fSeq (fPar 1 2 (xF (fCall m__law_all (aCons (fVar 0) (aCons (fC (.int 2)) aNil)))) (xF (fCall m__law_all (aCons (fVar 0) (aCons (fC (.int 3)) aNil)))))
  (fSeq (fSetO 3 (fLst (aCons (fLst (aCons (fC (.int 2)) (aCons (fComp (fIt (fVar 1)) (gSet 4) (asB (fOp oLe (fOp oIx (fVarQ 4) (fC (.int 0))) (fOp oIx (fVarQ 4) (fC (.int 1))))) (fVar 4) [4]) aNil))) (aCons (fLst (aCons (fC (.int 2)) (aCons (fComp (fIt (fVar 1)) (gSet 4) (asB (fOp oNe (fOp oIx (fVarQ 4) (fC (.int 0))) (fOp oIx (fVarQ 4) (fC (.int 1))))) (fVar 4) [4]) aNil))) aNil))))
  (fSeq (fSetO 3 (fOp oCat (fVarQ 3) (fLst (aCons (fLst (aCons (fC (.int 2)) (aCons (fComp (fIt (fVar 1)) (gSet 4) (asB (fOp oEq (fOp oIx (fVarQ 4) (fC (.int 0))) (fOp oIx (fVarQ 4) (fC (.int 1))))) (fVar 4) [4]) aNil))) (aCons (fLst (aCons (fC (.int 1)) (aCons (fLst (aCons (fTup (aCons (fC (.int 0)) aNil)) aNil)) aNil))) (aCons (fLst (aCons (fC (.int 1)) (aCons (fLst (aCons (fTup (aCons (fOp oSub (fVarQ 0) (fC (.int 1))) aNil)) aNil)) aNil))) aNil))))))
  (fSeq (fMutO "list" uApp 3 (aCons (fLst (aCons (fC (.int 2)) (aCons (fComp (fIt (fVar 1)) (gSet 4) (asB (fOp oEq (fOp oMod (fCall bIntS (aCons (fOp oAdd (fOp oIx (fVarQ 4) (fC (.int 0))) (fC (.int 1))) aNil)) (fVarQ 0)) (fOp oIx (fVarQ 4) (fC (.int 1))))) (fVar 4) [4]) aNil))) aNil))
  (fSeq (fMutO "list" uApp 3 (aCons (fLst (aCons (fC (.int 2)) (aCons (fComp (fIt (fVar 1)) (gSet 4) (asB (fOp oEq (fCall bMax (aCons (fVarQ 4) aNil)) (fOp oSub (fVarQ 0) (fC (.int 1))))) (fVar 4) [4]) aNil))) aNil))
  (fSeq (fMutO "list" uApp 3 (aCons (fLst (aCons (fC (.int 2)) (aCons (fComp (fIt (fVar 1)) (gSet 4) (asB (fOp oEq (fCall bMin (aCons (fVarQ 4) aNil)) (fC (.int 0)))) (fVar 4) [4]) aNil))) aNil))
  (fSeq (fMutO "list" uApp 3 (aCons (fLst (aCons (fC (.int 3)) (aCons (fComp (fIt (fVar 2)) (gSet 4) (asB (fOp oLe (fCall bMin (aCons (fOp oIx (fVarQ 4) (fC (.int 0))) (aCons (fOp oIx (fVarQ 4) (fC (.int 1))) aNil))) (fOp oIx (fVarQ 4) (fC (.int 2))))) (fVar 4) [4]) aNil))) aNil))
  (fSeq (fMutO "list" uApp 3 (aCons (fLst (aCons (fC (.int 3)) (aCons (fComp (fIt (fVar 2)) (gSet 4) (asB (fOp oGe (fCall bMax (aCons (fOp oIx (fVarQ 4) (fC (.int 0))) (aCons (fOp oIx (fVarQ 4) (fC (.int 1))) aNil))) (fOp oIx (fVarQ 4) (fC (.int 2))))) (fVar 4) [4]) aNil))) aNil))
  (fSeq (fMutO "list" uApp 3 (aCons (fLst (aCons (fC (.int 3)) (aCons (fComp (fIt (fVar 2)) (gSet 4) (asB (fOp oEq (fOp oMod (fCall bIntS (aCons (fCall bSum (aCons (fVarQ 4) aNil)) aNil)) (fVarQ 0)) (fC (.int 0)))) (fVar 4) [4]) aNil))) aNil))
  (fSeq (fMutO "list" uApp 3 (aCons (fLst (aCons (fC (.int 3)) (aCons (fComp (fIt (fVar 2)) (gSet 4) (asB (fOp oEq (fCall bSum (aCons (fVarQ 4) aNil)) (fC (.int 1)))) (fVar 4) [4]) aNil))) aNil))
  (fSeq (fMutO "list" uApp 3 (aCons (fLst (aCons (fC (.int 3)) (aCons (fComp (fIt (fVar 2)) (gSet 4) (asB (fOp oEq (fCall bMax (aCons (fVarQ 4) aNil)) (fOp oSub (fVarQ 0) (fC (.int 1))))) (fVar 4) [4]) aNil))) aNil))
  (fRet (fOp oAdd (fVarQ 3) (fLst (aCons (fLst (aCons (fC (.int 3)) (aCons (fComp (fIt (fVar 2)) (gSet 4) (asB (fOp oEq (fCall bMin (aCons (fVarQ 4) aNil)) (fC (.int 0)))) (fVar 4) [4]) aNil))) (aCons (fLst (aCons (fC (.int 3)) (aCons (fComp (fIt (fVar 2)) (gSet 4) (asB (fOp oLt (fCall bMin (aCons (fVarQ 4) aNil)) (fCall bMax (aCons (fVarQ 4) aNil)))) (fVar 4) [4]) aNil))) aNil))))))))))))))))
def m__law_known_tables : FC := mOf N__law_known_tables 1 f__law_known_tables
def N__law_drawn_row : List Str := ["feed", "width", "arity", "turn"]
def ps__law_drawn_row : List Str := ["feed", "width", "arity"]
abbrev s__law_drawn_row : Stmt := top 43
def f__law_drawn_row : FS := (fRet (fCall bTuple (aCons (fComp (fRg1 (aCons (fVarQ 2) aNil)) (gSet 3) fYes (fCall m__law_take (aCons (fVar 0) (aCons (fVar 1) aNil))) [3]) aNil)))
def m__law_drawn_row : FC := mOf N__law_drawn_row 3 f__law_drawn_row
def N__law_drawn_rows : List Str := ["feed", "width", "arity", "most", "turn"]
def ps__law_drawn_rows : List Str := ["feed", "width", "arity", "most"]
abbrev s__law_drawn_rows : Stmt := top 44
def f__law_drawn_rows : FS := (fRet (fComp (fRg1 (aCons (fCall m__law_take (aCons (fVar 0) (aCons (fOp oAdd (fVarQ 3) (fC (.int 1))) aNil))) aNil)) (gSet 4) fYes (fCall m__law_drawn_row (aCons (fVar 0) (aCons (fVar 1) (aCons (fVar 2) aNil)))) [4]))
def m__law_drawn_rows : FC := mOf N__law_drawn_rows 4 f__law_drawn_rows
def N__law_drawn_table : List Str := ["feed", "width", "most", "case", "arity"]
def ps__law_drawn_table : List Str := ["feed", "width", "most"]
abbrev s__law_drawn_table : Stmt := top 46
def f__law_drawn_table : FS := (fSeq (fSet 3 (fCall m__law_take (aCons (fVar 0) (aCons (fC (.int 8)) aNil))))
  (fSeq (fIte (asB (fOp oLt (fVarQ 3) (fC (.int 5))))
  (fRet (fCall m__law_pick (aCons (fVar 0) (aCons (fCall m__law_known_tables (aCons (fVar 1) aNil)) aNil))))
  fNx)
  (fSeq (fSet 4 (fOp oAdd (fC (.int 1)) (fCall m__law_take (aCons (fVar 0) (aCons (fC (.int 3)) aNil)))))
  (fRet (fLst (aCons (fVar 4) (aCons (fSortSet (fCall m__law_drawn_rows (aCons (fVar 0) (aCons (fVar 1) (aCons (fVar 4) (aCons (fVar 2) aNil)))))) aNil)))))))
def m__law_drawn_table : FC := mOf N__law_drawn_table 3 f__law_drawn_table
def N__law_drawn_tables : List Str := ["feed", "width", "most", "turn"]
def ps__law_drawn_tables : List Str := ["feed", "width", "most"]
abbrev s__law_drawn_tables : Stmt := top 47
def f__law_drawn_tables : FS := (fRet (fComp (fRg1 (aCons (fCall m__law_take (aCons (fVar 0) (aCons (fOp oAdd (fVarQ 2) (fC (.int 1))) aNil))) aNil)) (gSet 3) fYes (fCall m__law_drawn_table (aCons (fVar 0) (aCons (fVar 1) (aCons (fC (.int 6)) aNil)))) [3]))
def m__law_drawn_tables : FC := mOf N__law_drawn_tables 3 f__law_drawn_tables
def N_within : List Str := ["value", "low", "high"]
def ps_within : List Str := ["value", "low", "high"]
abbrev s_within : Stmt := top 16
def f_within : FS := (fRet (fAndV (fIsi (fun s => isaB s "int") (tc_none 3) (fVarQ 0)) (fAndV (fNotV (fIsi (fun s => isaB s "bool") (tc_none 3) (fVarQ 0))) (fChain oLe oLe (fVarQ 1) (fVarQ 0) (fVarQ 2)))))
def m_within : FC := mOf N_within 3 f_within
def N_check_width : List Str := ["width"]
def ps_check_width : List Str := ["width"]
abbrev s_check_width : Stmt := top 18
def f_check_width : FS := (fIte (fNot (asB (fCall m_within (aCons (fVar 0) (aCons (fC (.int 1)) (aCons (fC (.int 3)) aNil))))))
  fNo
  fNx)
def m_check_width : FC := mOf N_check_width 1 f_check_width
def N_Book_init : List Str := ["self", "width", "tables", "number", "table"]
def ps_Book_init : List Str := ["self", "width", "tables"]
abbrev s_Book_init : Stmt := cbody 23 0
def f_Book_init : FS := (fSeq (fDrop (fCall m_check_width (aCons (fVar 1) aNil)))
  (fSeq (fIte (fNot (asB (fIsi (fun s => isaB s "list") (tc_none 3) (fVarQ 2))))
  fNo
  fNx)
  (fSeq (fFor (fEnum (aCons (fVar 2) aNil)) (gSeq 2 (gsCons (gSet 3) (gsCons (gSet 4) gsNil)))
  (fIte (fOr (fNot (asB (fIsi (fun _ => false) (tc_cls 3 0) (fVarQ 4)))) (asB (fOp oNe (fFld [(0, 0), (1, 0)] (fVarQ 4)) (fVarQ 1))))
  fNo
  fNx))
  (fSeq (fFldO [(0, 0), (1, 0)] 0 (fVar 1))
  (fFldO [(1, 1)] 0 (fCall bList (aCons (fVarQ 2) aNil)))))))
def m_Book_init : FC := mInit 1 N_Book_init 3 f_Book_init
def N_check_arity : List Str := ["arity", "most"]
def ps_check_arity : List Str := ["arity", "most"]
abbrev s_check_arity : Stmt := top 19
def f_check_arity : FS := (fIte (fNot (asB (fCall m_within (aCons (fVar 0) (aCons (fC (.int 1)) (aCons (fVar 1) aNil))))))
  fNo
  fNx)
def m_check_arity : FC := mOf N_check_arity 2 f_check_arity
def N_is_row : List Str := ["value", "width", "arity", "one"]
def ps_is_row : List Str := ["value", "width", "arity"]
abbrev s_is_row : Stmt := top 17
def f_is_row : FS := (fSeq (fIte (fOr (fNot (asB (fIsi (fun s => isaB s "tuple") (tc_none 3) (fVarQ 0)))) (asB (fOp oNe (fLenQ (fVarQ 0)) (fVarQ 2))))
  (fRet (fC (.bl false)))
  fNx)
  (fRet (fCall bAll (aCons (fComp (fIt (fVar 0)) (gSet 3) fYes (fCall m_within (aCons (fVar 3) (aCons (fC (.int 0)) (aCons (fOp oSub (fVarQ 1) (fC (.int 1))) aNil)))) [3]) aNil))))
def m_is_row : FC := mOf N_is_row 3 f_is_row
def N_Table_init : List Str := ["self", "width", "arity", "rows", "found", "number", "row"]
def ps_Table_init : List Str := ["self", "width", "arity", "rows"]
abbrev s_Table_init : Stmt := cbody 20 0
def f_Table_init : FS := (fSeq (fDrop (fCall m_check_width (aCons (fVar 1) aNil)))
  (fSeq (fDrop (fCall m_check_arity (aCons (fVar 2) (aCons (fC (.int 3)) aNil))))
  (fSeq (fIte (fNot (asB (fIsi (fun s => isaB s "list") (tc_none 3) (fVarQ 3))))
  fNo
  fNx)
  (fSeq (fSetO 4 (fC (.dic [] [])))
  (fSeq (fFor (fEnum (aCons (fVar 3) aNil)) (gSeq 2 (gsCons (gSet 5) (gsCons (gSet 6) gsNil)))
  (fSeq (fIte (fNot (asB (fCall m_is_row (aCons (fVar 6) (aCons (fVar 1) (aCons (fVar 2) aNil))))))
  fNo
  fNx)
  (fStO uSetN 4 (fC (.bl true)) (fVar 6))))
  (fSeq (fFldO [(0, 0), (1, 0)] 0 (fVar 1))
  (fSeq (fFldO [(0, 1)] 0 (fVar 2))
  (fSeq (fFldO [(0, 2)] 0 (fCall bSortA (aCons (fVarQ 4) aNil)))
  (fFz 4 (fFldO [(0, 3)] 0 (fVar 4)))))))))))
def m_Table_init : FC := mInit 0 N_Table_init 4 f_Table_init
def N__law_program_table : List Str := ["width", "table"]
def ps__law_program_table : List Str := ["width", "table"]
abbrev s__law_program_table : Stmt := top 49
def f__law_program_table : FS := (fRet (fCall m_Table_init (aCons (fVar 0) (aCons (fOp oIx (fVarQ 1) (fC (.int 0))) (aCons (fCall bList (aCons (fOp oIx (fVarQ 1) (fC (.int 1))) aNil)) aNil)))))
def m__law_program_table : FC := mOf N__law_program_table 2 f__law_program_table
def N__law_program_book : List Str := ["width", "tables", "table"]
def ps__law_program_book : List Str := ["width", "tables"]
abbrev s__law_program_book : Stmt := top 50
def f__law_program_book : FS := (fRet (fCall m_Book_init (aCons (fVar 0) (aCons (fComp (fIt (fVar 1)) (gSet 2) fYes (fCall m__law_program_table (aCons (fVar 0) (aCons (fVar 2) aNil))) [2]) aNil))))
def m__law_program_book : FC := mOf N__law_program_book 2 f__law_program_book
def N__law_uses : List Str := ["feed", "tables", "places", "many", "found", "turn", "number", "spots", "spot"]
def ps__law_uses : List Str := ["feed", "tables", "places", "many"]
abbrev s__law_uses : Stmt := top 51
def f__law_uses : FS := (fSeq (fSetO 4 (fLst aNil))
  (fSeq (fFor (fRg1 (aCons (fVarQ 3) aNil)) (gSet 5)
  (fIte (fAnd (asB (fOp oNe (fVarQ 1) (fLst aNil))) (asB (fOp oGt (fVarQ 2) (fC (.int 0)))))
  (fSeq (fSet 6 (fCall m__law_take (aCons (fVar 0) (aCons (fLenQ (fVarQ 1)) aNil))))
  (fSeq (fSet 7 (fCall bTuple (aCons (fComp (fRg1 (aCons (fOp oIx (fOp oIx (fVarQ 1) (fVarQ 6)) (fC (.int 0))) aNil)) (gSet 8) fYes (fCall m__law_take (aCons (fVar 0) (aCons (fVar 2) aNil))) [8]) aNil)))
  (fMutO "list" uApp 4 (aCons (fTup (aCons (fVar 6) (aCons (fVar 7) aNil))) aNil))))
  fNx))
  (fFz 4 (fRet (fVar 4)))))
def m__law_uses : FC := mOf N__law_uses 4 f__law_uses
def N__law_lines_of : List Str := ["width", "tables", "found", "arity", "rows", "row", "value"]
def ps__law_lines_of : List Str := ["width", "tables"]
abbrev s__law_lines_of : Stmt := top 54
def f__law_lines_of : FS := (fSeq (fSetO 2 (fLst (aCons (fOp oAdd (fOp oAdd (fOp oAdd (fC (.str "book width ")) (fCall bStr (aCons (fVarQ 0) aNil))) (fC (.str " tables "))) (fCall bStr (aCons (fLenQ (fVarQ 1)) aNil))) aNil)))
  (fSeq (fFor (fIt (fVar 1)) (gSeq 2 (gsCons (gSet 3) (gsCons (gSet 4) gsNil)))
  (fSeq (fMutO "list" uApp 2 (aCons (fOp oAdd (fOp oAdd (fOp oAdd (fC (.str "table arity ")) (fCall bStr (aCons (fVarQ 3) aNil))) (fC (.str " rows "))) (fCall bStr (aCons (fLenQ (fVarQ 4)) aNil))) aNil))
  (fSetO 2 (fOp oCat (fVarQ 2) (fComp (fIt (fVar 4)) (gSet 5) fYes (fMd "str" mJoin (fC (.str " ")) (aCons (fComp (fIt (fVar 5)) (gSet 6) fYes (fCall bStr (aCons (fVarQ 6) aNil)) [6]) aNil)) [5])))))
  (fFz 2 (fRet (fVar 2)))))
def m__law_lines_of : FC := mOf N__law_lines_of 2 f__law_lines_of
def N__law_use_lines : List Str := ["places", "uses", "found", "table", "spots", "place"]
def ps__law_use_lines : List Str := ["places", "uses"]
abbrev s__law_use_lines : Stmt := top 55
def f__law_use_lines : FS := (fSeq (fSetO 2 (fLst (aCons (fOp oAdd (fOp oAdd (fOp oAdd (fC (.str "puzzle places ")) (fCall bStr (aCons (fVarQ 0) aNil))) (fC (.str " rows "))) (fCall bStr (aCons (fLenQ (fVarQ 1)) aNil))) aNil)))
  (fSeq (fFor (fIt (fVar 1)) (gSeq 2 (gsCons (gSet 3) (gsCons (gSet 4) gsNil)))
  (fMutO "list" uApp 2 (aCons (fOp oAdd (fOp oAdd (fOp oAdd (fC (.str "row ")) (fCall bStr (aCons (fVarQ 3) aNil))) (fC (.str " at "))) (fMd "str" mJoin (fC (.str " ")) (aCons (fComp (fIt (fVar 4)) (gSet 5) fYes (fCall bStr (aCons (fVarQ 5) aNil)) [5]) aNil))) aNil)))
  (fFz 2 (fRet (fVar 2)))))
def m__law_use_lines : FC := mOf N__law_use_lines 2 f__law_use_lines
def N__law_changed : List Str := ["feed", "text", "lines", "case", "at", "to", "words", "spot", "line", "odd", "place", "sign"]
def ps__law_changed : List Str := ["feed", "text"]
abbrev s__law_changed : Stmt := top 61
def f__law_changed : FS := (fSeq (fPar 2 3 (xO (fMd "str" mSplit (fVarQ 1) (aCons (fC (.str "\n")) aNil))) (xF (fCall m__law_take (aCons (fVar 0) (aCons (fC (.int 8)) aNil)))))
  (fSeq (fPar 4 5 (xF (fCall m__law_take (aCons (fVar 0) (aCons (fLenQ (fVarQ 2)) aNil)))) (xF (fCall m__law_take (aCons (fVar 0) (aCons (fLenQ (fVarQ 2)) aNil)))))
  (fSeq (fIte (asB (fOp oEq (fVarQ 3) (fC (.int 0))))
  (fRet (fMd "str" mJoin (fC (.str "\n")) (aCons (fOp oAdd (fSlA (fVarQ 2) oNone (oSome (fVar 4))) (fSlA (fVarQ 2) (oSome (fOp oAdd (fVarQ 4) (fC (.int 1)))) oNone)) aNil)))
  fNx)
  (fSeq (fIte (asB (fOp oEq (fVarQ 3) (fC (.int 1))))
  (fRet (fMd "str" mJoin (fC (.str "\n")) (aCons (fOp oAdd (fOp oAdd (fSlA (fVarQ 2) oNone (oSome (fVar 4))) (fLst (aCons (fOp oIx (fVarQ 2) (fVarQ 5)) aNil))) (fSlA (fVarQ 2) (oSome (fVar 4)) oNone)) aNil)))
  fNx)
  (fSeq (fIte (asB (fOp oEq (fVarQ 3) (fC (.int 2))))
  (fSeq (fSwapO 2 4 5 (fTup (aCons (fOp oIx (fVarQ 2) (fVarQ 5)) (aCons (fOp oIx (fVarQ 2) (fVarQ 4)) aNil))))
  (fRet (fMd "str" mJoin (fC (.str "\n")) (aCons (fVarQ 2) aNil))))
  fNx)
  (fSeq (fSet 6 (fMd "str" mSplit (fOp oIx (fVarQ 2) (fVarQ 4)) (aCons (fC (.str " ")) aNil)))
  (fSeq (fSet 7 (fCall m__law_take (aCons (fVar 0) (aCons (fLenQ (fVarQ 6)) aNil))))
  (fSeq (fIte (asB (fOp oEq (fVarQ 3) (fC (.int 3))))
  (fSeq (fSet 8 (fMd "str" mJoin (fC (.str " ")) (aCons (fOp oAdd (fSlA (fVarQ 6) oNone (oSome (fVar 7))) (fSlA (fVarQ 6) (oSome (fOp oAdd (fVarQ 7) (fC (.int 1)))) oNone)) aNil)))
  (fRet (fMd "str" mJoin (fC (.str "\n")) (aCons (fOp oAdd (fOp oAdd (fSlA (fVarQ 2) oNone (oSome (fVar 4))) (fLst (aCons (fVar 8) aNil))) (fSlA (fVarQ 2) (oSome (fOp oAdd (fVarQ 4) (fC (.int 1)))) oNone)) aNil))))
  fNx)
  (fSeq (fIte (asB (fOp oEq (fVarQ 3) (fC (.int 4))))
  (fSeq (fSet 9 (fLst (aCons (fC (.str "0")) (aCons (fC (.str "1")) (aCons (fC (.str "2")) (aCons (fC (.str "3")) (aCons (fC (.str "9")) (aCons (fC (.str "01")) (aCons (fC (.str "-1")) (aCons (fC (.str "+1")) (aCons (fC (.str "1_0")) (aCons (fC (.str "")) (aCons (fC (.str "x")) (aCons (fC (.str "row")) (aCons (fC (.str "at")) (aCons (fC (.str "61")) (aCons (fC (.str "1234567890")) aNil)))))))))))))))))
  (fSeq (fSet 9 (fOp oAdd (fVarQ 9) (fLst (aCons (fC (.str "Row")) (aCons (fC (.str "AT")) (aCons (fC (.str "Book")) (aCons (fC (.str "TABLE")) aNil)))))))
  (fSeq (fSet 8 (fMd "str" mJoin (fC (.str " ")) (aCons (fOp oAdd (fOp oAdd (fSlA (fVarQ 6) oNone (oSome (fVar 7))) (fLst (aCons (fCall m__law_pick (aCons (fVar 0) (aCons (fVar 9) aNil))) aNil))) (fSlA (fVarQ 6) (oSome (fOp oAdd (fVarQ 7) (fC (.int 1)))) oNone)) aNil)))
  (fRet (fMd "str" mJoin (fC (.str "\n")) (aCons (fOp oAdd (fOp oAdd (fSlA (fVarQ 2) oNone (oSome (fVar 4))) (fLst (aCons (fVar 8) aNil))) (fSlA (fVarQ 2) (oSome (fOp oAdd (fVarQ 4) (fC (.int 1)))) oNone)) aNil))))))
  fNx)
  (fSeq (fPar 10 11 (xF (fCall m__law_take (aCons (fVar 0) (aCons (fOp oAdd (fLenQ (fVarQ 1)) (fC (.int 1))) aNil)))) (xF (fCall m__law_pick (aCons (fVar 0) (aCons (fCall bListS (aCons (fC (.str "0123 \n\trxRAB")) aNil)) aNil)))))
  (fSeq (fIte (asB (fOp oEq (fVarQ 3) (fC (.int 5))))
  (fRet (fOp oAdd (fOp oAdd (fSlA (fVarQ 1) oNone (oSome (fVar 10))) (fVarQ 11)) (fSlA (fVarQ 1) (oSome (fVar 10)) oNone)))
  fNx)
  (fSeq (fIte (asB (fOp oEq (fVarQ 3) (fC (.int 6))))
  (fRet (fOp oAdd (fSlA (fVarQ 1) oNone (oSome (fVar 10))) (fSlA (fVarQ 1) (oSome (fOp oAdd (fVarQ 10) (fC (.int 1)))) oNone)))
  fNx)
  (fRet (fOp oAdd (fOp oAdd (fSlA (fVarQ 1) oNone (oSome (fVar 10))) (fVarQ 11)) (fSlA (fVarQ 1) (oSome (fOp oAdd (fVarQ 10) (fC (.int 1)))) oNone)))))))))))))))
def m__law_changed : FC := mOf N__law_changed 2 f__law_changed
def N__law_number : List Str := ["word", "sign"]
def ps__law_number : List Str := ["word"]
abbrev s__law_number : Stmt := top 56
def f__law_number : FS := (fSeq (fIte (fOr (asB (fOp oEq (fVarQ 0) (fC (.str "")))) (fOr (asB (fOp oGt (fLenQ (fVarQ 0)) (fC (.int 9)))) (asB (fOp oNe (fComp (fSig (fVar 0)) (gSet 1) (asB (fOp (oInQ true) (fVarQ 1) (fC (.str "0123456789")))) (fVar 1) [1]) (fLst aNil)))))
  (fRet (fNeg (fC (.int 1))))
  fNx)
  (fRet (fIf (asB (fOp oEq (fCall bStr (aCons (fCall bIntS (aCons (fVarQ 0) aNil)) aNil)) (fVarQ 0))) (fCall bIntS (aCons (fVarQ 0) aNil)) (fNeg (fC (.int 1))))))
def m__law_number : FC := mOf N__law_number 1 f__law_number
def N__law_headed : List Str := ["line", "words", "some", "found"]
def ps__law_headed : List Str := ["line", "words"]
abbrev s__law_headed : Stmt := top 57
def f__law_headed : FS := (fSeq (fSet 2 (fMd "str" mSplit (fVarQ 0) (aCons (fC (.str " ")) aNil)))
  (fSeq (fIte (fOr (asB (fOp oNe (fLenQ (fVarQ 2)) (fC (.int 5)))) (asB (fOp oNe (fLst (aCons (fOp oIx (fVarQ 2) (fC (.int 0))) (aCons (fOp oIx (fVarQ 2) (fC (.int 1))) (aCons (fOp oIx (fVarQ 2) (fC (.int 3))) aNil)))) (fVarQ 1))))
  (fRet (fLst aNil))
  fNx)
  (fSeq (fSet 3 (fLst (aCons (fCall m__law_number (aCons (fOp oIx (fVarQ 2) (fC (.int 2))) aNil)) (aCons (fCall m__law_number (aCons (fOp oIx (fVarQ 2) (fC (.int 4))) aNil)) aNil))))
  (fRet (fIf (asB (fOp oGe (fCall bMin (aCons (fVarQ 3) aNil)) (fC (.int 0)))) (fVar 3) (fLst aNil))))))
def m__law_headed : FC := mOf N__law_headed 2 f__law_headed
def N__law_within : List Str := ["value", "low", "high"]
def ps__law_within : List Str := ["value", "low", "high"]
abbrev s__law_within : Stmt := top 52
def f__law_within : FS := (fRet (fAndV (fIsi (fun s => isaB s "int") (tc_none 3) (fVarQ 0)) (fAndV (fNotV (fIsi (fun s => isaB s "bool") (tc_none 3) (fVarQ 0))) (fChain oLe oLe (fVarQ 1) (fVarQ 0) (fVarQ 2)))))
def m__law_within : FC := mOf N__law_within 3 f__law_within
def N__law_is_row : List Str := ["value", "width", "arity", "one"]
def ps__law_is_row : List Str := ["value", "width", "arity"]
abbrev s__law_is_row : Stmt := top 53
def f__law_is_row : FS := (fSeq (fIte (fOr (fNot (asB (fIsi (fun s => isaB s "tuple") (tc_none 3) (fVarQ 0)))) (asB (fOp oNe (fLenQ (fVarQ 0)) (fVarQ 2))))
  (fRet (fC (.bl false)))
  fNx)
  (fRet (fOp oEq (fComp (fIt (fVar 0)) (gSet 3) (fNot (asB (fCall m__law_within (aCons (fVar 3) (aCons (fC (.int 0)) (aCons (fOp oSub (fVarQ 1) (fC (.int 1))) aNil)))))) (fVar 3) [3]) (fLst aNil))))
def m__law_is_row : FC := mOf N__law_is_row 3 f__law_is_row
def N__law_book_due : List Str := ["lines", "first", "at", "tables", "turn", "head", "rows", "number", "row", "word"]
def ps__law_book_due : List Str := ["lines"]
abbrev s__law_book_due : Stmt := top 58
def f__law_book_due : FS := (fSeq (fSet 1 (fCall m__law_headed (aCons (fOp oIx (fVarQ 0) (fC (.int 0))) (aCons (fLst (aCons (fC (.str "book")) (aCons (fC (.str "width")) (aCons (fC (.str "tables")) aNil)))) aNil))))
  (fSeq (fIte (fOr (asB (fOp oEq (fVarQ 1) (fLst aNil))) (fNot (asB (fChain oLe oLe (fC (.int 1)) (fOp oIx (fVarQ 1) (fC (.int 0))) (fC (.int 3))))))
  (fRet (fC (.int 1)))
  fNx)
  (fSeq (fPar 2 3 (xF (fC (.int 1))) (xO (fLst aNil)))
  (fSeq (fFor (fRg1 (aCons (fLenQ (fVarQ 0)) aNil)) (gSet 4)
  (fSeq (fIte (asB (fOp oEq (fLenQ (fVarQ 3)) (fOp oIx (fVarQ 1) (fC (.int 1)))))
  fBk
  fNx)
  (fSeq (fSet 5 (fIf (asB (fOp oLt (fVarQ 2) (fLenQ (fVarQ 0)))) (fCall m__law_headed (aCons (fOp oIx (fVarQ 0) (fVarQ 2)) (aCons (fLst (aCons (fC (.str "table")) (aCons (fC (.str "arity")) (aCons (fC (.str "rows")) aNil)))) aNil))) (fLst aNil)))
  (fSeq (fIte (fOr (asB (fOp oEq (fVarQ 5) (fLst aNil))) (fNot (asB (fChain oLe oLe (fC (.int 1)) (fOp oIx (fVarQ 5) (fC (.int 0))) (fC (.int 3))))))
  (fRet (fOp oAdd (fVarQ 2) (fC (.int 1))))
  fNx)
  (fSeq (fSetO 6 (fLst aNil))
  (fSeq (fFor (fRg2 (aCons (fOp oAdd (fVarQ 2) (fC (.int 1))) (aCons (fCall bMin (aCons (fOp oAdd (fOp oAdd (fVarQ 2) (fC (.int 1))) (fOp oIx (fVarQ 5) (fC (.int 1)))) (aCons (fOp oAdd (fLenQ (fVarQ 0)) (fC (.int 1))) aNil))) aNil))) (gSet 7)
  (fSeq (fSet 8 (fIf (asB (fOp oLt (fVarQ 7) (fLenQ (fVarQ 0)))) (fCall bTuple (aCons (fComp (fIt (fMd "str" mSplit (fOp oIx (fVarQ 0) (fVarQ 7)) (aCons (fC (.str " ")) aNil))) (gSet 9) fYes (fCall m__law_number (aCons (fVar 9) aNil)) [9]) aNil)) (fTup aNil)))
  (fSeq (fIte (fOr (fNot (asB (fCall m__law_is_row (aCons (fVar 8) (aCons (fOp oIx (fVarQ 1) (fC (.int 0))) (aCons (fOp oIx (fVarQ 5) (fC (.int 0))) aNil)))))) (fAnd (asB (fOp oNe (fVarQ 6) (fLst aNil))) (asB (fOp oLe (fVarQ 8) (fOp oIx (fVarQ 6) (fNeg (fC (.int 1))))))))
  (fRet (fOp oAdd (fVarQ 7) (fC (.int 1))))
  fNx)
  (fMutO "list" uApp 6 (aCons (fVar 8) aNil)))))
  (fSeq (fFz 6 (fMutO "list" uApp 3 (aCons (fLst (aCons (fOp oIx (fVarQ 5) (fC (.int 0))) (aCons (fVar 6) aNil))) aNil)))
  (fSet 2 (fOp oAdd (fOp oAdd (fVarQ 2) (fC (.int 1))) (fOp oIx (fVarQ 5) (fC (.int 1))))))))))))
  (fSeq (fIte (fOr (asB (fOp oLt (fLenQ (fVarQ 3)) (fOp oIx (fVarQ 1) (fC (.int 1))))) (asB (fOp oLt (fVarQ 2) (fLenQ (fVarQ 0)))))
  (fRet (fOp oAdd (fVarQ 2) (fC (.int 1))))
  fNx)
  (fFz 3 (fRet (fLst (aCons (fOp oIx (fVarQ 1) (fC (.int 0))) (aCons (fVar 3) aNil))))))))))
def m__law_book_due : FC := mOf N__law_book_due 1 f__law_book_due
def N__law_puzzle_due : List Str := ["lines", "tables", "first", "uses", "at", "some", "number", "spots", "word"]
def ps__law_puzzle_due : List Str := ["lines", "tables"]
abbrev s__law_puzzle_due : Stmt := top 59
def f__law_puzzle_due : FS := (fSeq (fPar 2 3 (xF (fCall m__law_headed (aCons (fOp oIx (fVarQ 0) (fC (.int 0))) (aCons (fLst (aCons (fC (.str "puzzle")) (aCons (fC (.str "places")) (aCons (fC (.str "rows")) aNil)))) aNil)))) (xO (fLst aNil)))
  (fSeq (fIte (fOr (asB (fOp oEq (fVarQ 2) (fLst aNil))) (asB (fOp oGt (fOp oIx (fVarQ 2) (fC (.int 0))) (fC (.int 60)))))
  (fRet (fC (.int 1)))
  fNx)
  (fSeq (fFor (fRg2 (aCons (fC (.int 1)) (aCons (fOp oAdd (fCall bMin (aCons (fOp oIx (fVarQ 2) (fC (.int 1))) (aCons (fLenQ (fVarQ 0)) aNil))) (fC (.int 1))) aNil))) (gSet 4)
  (fSeq (fSet 5 (fIf (asB (fOp oLt (fVarQ 4) (fLenQ (fVarQ 0)))) (fMd "str" mSplit (fOp oIx (fVarQ 0) (fVarQ 4)) (aCons (fC (.str " ")) aNil)) (fLst aNil)))
  (fSeq (fIte (fOr (asB (fOp oLt (fLenQ (fVarQ 5)) (fC (.int 4)))) (asB (fOp oNe (fLst (aCons (fOp oIx (fVarQ 5) (fC (.int 0))) (aCons (fOp oIx (fVarQ 5) (fC (.int 2))) aNil))) (fLst (aCons (fC (.str "row")) (aCons (fC (.str "at")) aNil))))))
  (fRet (fOp oAdd (fVarQ 4) (fC (.int 1))))
  fNx)
  (fSeq (fPar 6 7 (xF (fCall m__law_number (aCons (fOp oIx (fVarQ 5) (fC (.int 1))) aNil))) (xF (fCall bTuple (aCons (fComp (fIt (fSl (fVarQ 5) (oSome (fC (.int 3))) oNone)) (gSet 8) fYes (fCall m__law_number (aCons (fVar 8) aNil)) [8]) aNil))))
  (fSeq (fIte (fOr (fNot (asB (fChain oLe oLt (fC (.int 0)) (fVarQ 6) (fLenQ (fVarQ 1))))) (fNot (asB (fCall m__law_is_row (aCons (fVar 7) (aCons (fOp oIx (fVarQ 2) (fC (.int 0))) (aCons (fOp oIx (fOp oIx (fVarQ 1) (fVarQ 6)) (fC (.int 0))) aNil)))))))
  (fRet (fOp oAdd (fVarQ 4) (fC (.int 1))))
  fNx)
  (fMutO "list" uApp 3 (aCons (fTup (aCons (fVar 6) (aCons (fVar 7) aNil))) aNil)))))))
  (fFz 3 (fRet (fIf (asB (fOp oEq (fLenQ (fVarQ 0)) (fOp oAdd (fOp oIx (fVarQ 2) (fC (.int 1))) (fC (.int 1))))) (fLst (aCons (fOp oIx (fVarQ 2) (fC (.int 0))) (aCons (fVar 3) aNil))) (fOp oAdd (fCall bMin (aCons (fOp oAdd (fOp oIx (fVarQ 2) (fC (.int 1))) (fC (.int 1))) (aCons (fLenQ (fVarQ 0)) aNil))) (fC (.int 1)))))))))
def m__law_puzzle_due : FC := mOf N__law_puzzle_due 2 f__law_puzzle_due
def N_Table_len : List Str := ["self"]
def ps_Table_len : List Str := ["self"]
abbrev s_Table_len : Stmt := cbody 20 2
def f_Table_len : FS := (fRet (fLenQ (fFld [(0, 2)] (fVarQ 0))))
def m_Table_len : FC := mOf N_Table_len 1 f_Table_len
def N_Book_len : List Str := ["self"]
def ps_Book_len : List Str := ["self"]
abbrev s_Book_len : Stmt := cbody 23 2
def f_Book_len : FS := (fRet (fLenQ (fFld [(1, 1)] (fVarQ 0))))
def m_Book_len : FC := mOf N_Book_len 1 f_Book_len
def N_Puzzle_len : List Str := ["self"]
def ps_Puzzle_len : List Str := ["self"]
abbrev s_Puzzle_len : Stmt := cbody 25 2
def f_Puzzle_len : FS := (fRet (fLenQ (fFld [(2, 2)] (fVarQ 0))))
def m_Puzzle_len : FC := mOf N_Puzzle_len 1 f_Puzzle_len
def ms_len_Table_Book_Puzzle : Ms := fun j => match j with | 0 => some m_Table_len | 1 => some m_Book_len | 2 => some m_Puzzle_len | _ => none
def N_Book_tables : List Str := ["self"]
def ps_Book_tables : List Str := ["self"]
abbrev s_Book_tables : Stmt := cbody 23 1
def f_Book_tables : FS := (fRet (fCall bList (aCons (fFld [(1, 1)] (fVarQ 0)) aNil)))
def m_Book_tables : FC := mOf N_Book_tables 1 f_Book_tables
def ms_tables_Book : Ms := fun j => match j with | 1 => some m_Book_tables | _ => none
def N_Table_rows : List Str := ["self"]
def ps_Table_rows : List Str := ["self"]
abbrev s_Table_rows : Stmt := cbody 20 1
def f_Table_rows : FS := (fRet (fCall bList (aCons (fFld [(0, 2)] (fVarQ 0)) aNil)))
def m_Table_rows : FC := mOf N_Table_rows 1 f_Table_rows
def N_Puzzle_rows : List Str := ["self"]
def ps_Puzzle_rows : List Str := ["self"]
abbrev s_Puzzle_rows : Stmt := cbody 25 1
def f_Puzzle_rows : FS := (fRet (fCall bList (aCons (fFld [(2, 2)] (fVarQ 0)) aNil)))
def m_Puzzle_rows : FC := mOf N_Puzzle_rows 1 f_Puzzle_rows
def ms_rows_Table_Puzzle : Ms := fun j => match j with | 0 => some m_Table_rows | 2 => some m_Puzzle_rows | _ => none
def N_written : List Str := ["values", "value"]
def ps_written : List Str := ["values"]
abbrev s_written : Stmt := top 28
def f_written : FS := (fRet (fMd "str" mJoin (fC (.str " ")) (aCons (fComp (fIt (fVar 0)) (gSet 1) fYes (fCall bStr (aCons (fVarQ 1) aNil)) [1]) aNil)))
def m_written : FC := mOf N_written 1 f_written
def N_show_book : List Str := ["book", "lines", "table", "row"]
def ps_show_book : List Str := ["book"]
abbrev s_show_book : Stmt := top 29
def f_show_book : FS := (fSeq (fSetO 1 (fLst (aCons (fJoined (aCons (fC (.str "book width ")) (aCons (fFmt (fFld [(0, 0), (1, 0)] (fVarQ 0))) (aCons (fC (.str " tables ")) (aCons (fFmt (fLen ms_len_Table_Book_Puzzle (fVar 0))) aNil))))) aNil)))
  (fSeq (fFor (fIt (fProp ms_tables_Book (fVar 0))) (gSet 2)
  (fSeq (fMutO "list" uApp 1 (aCons (fJoined (aCons (fC (.str "table arity ")) (aCons (fFmt (fFld [(0, 1)] (fVarQ 2))) (aCons (fC (.str " rows ")) (aCons (fFmt (fLen ms_len_Table_Book_Puzzle (fVar 2))) aNil))))) aNil))
  (fSetO 1 (fOp oCat (fVarQ 1) (fComp (fIt (fProp ms_rows_Table_Puzzle (fVar 2))) (gSet 3) fYes (fCall m_written (aCons (fVar 3) aNil)) [3])))))
  (fRet (fMd "str" mJoin (fC (.str "\n")) (aCons (fVarQ 1) aNil)))))
def m_show_book : FC := mOf N_show_book 1 f_show_book
def N_lines_of : List Str := ["text", "line"]
def ps_lines_of : List Str := ["text"]
abbrev s_lines_of : Stmt := top 33
def f_lines_of : FSX := (fSeqX (fIteX (fNot (asB (fIsi (fun s => isaB s "str") (tc_none 3) (fVarQ 0))))
  (fRaise 3 (fC (.int 1)))
  fNxX)
  (fSV (fRet (fComp (fIt (fMd "str" mSplit (fVarQ 0) (aCons (fC (.str "\n")) aNil))) (gSet 1) fYes (fMd "str" mSplit (fVarQ 1) (aCons (fC (.str " ")) aNil)) [1]))))
def m_lines_of : FCX := mOfX N_lines_of 1 f_lines_of
def N_number_of : List Str := ["word", "sign"]
def ps_number_of : List Str := ["word"]
abbrev s_number_of : Stmt := top 31
def f_number_of : FS := (fSeq (fIte (fOr (asB (fOp oEq (fVarQ 0) (fC (.str "")))) (fOr (asB (fOp oGt (fLenQ (fVarQ 0)) (fC (.int 9)))) (fNot (asB (fCall bAll (aCons (fComp (fSig (fVar 0)) (gSet 1) fYes (fOp (oInQ false) (fVarQ 1) (fC (.str "0123456789"))) [1]) aNil))))))
  (fRet (fC .non))
  fNx)
  (fRet (fIf (asB (fOp oEq (fCall bStr (aCons (fCall bIntS (aCons (fVarQ 0) aNil)) aNil)) (fVarQ 0))) (fCall bIntS (aCons (fVarQ 0) aNil)) (fC .non))))
def m_number_of : FC := mOf N_number_of 1 f_number_of
def N_headed : List Str := ["lines", "at", "words", "line", "found"]
def ps_headed : List Str := ["lines", "at", "words"]
abbrev s_headed : Stmt := top 34
def f_headed : FSX := (fSeqX (fSV (fSet 3 (fIf (asB (fOp oLt (fVarQ 1) (fLenQ (fVarQ 0)))) (fOp oIx (fVarQ 0) (fVarQ 1)) (fLst aNil))))
  (fSeqX (fIteX (fOr (asB (fOp oNe (fLenQ (fVarQ 3)) (fC (.int 5)))) (asB (fOp oNe (fLst (aCons (fOp oIx (fVarQ 3) (fC (.int 0))) (aCons (fOp oIx (fVarQ 3) (fC (.int 1))) (aCons (fOp oIx (fVarQ 3) (fC (.int 3))) aNil)))) (fVarQ 2))))
  (fRaise 3 (fOp oAdd (fVarQ 1) (fC (.int 1))))
  fNxX)
  (fSeqX (fSV (fSet 4 (fTup (aCons (fCall m_number_of (aCons (fOp oIx (fVarQ 3) (fC (.int 2))) aNil)) (aCons (fCall m_number_of (aCons (fOp oIx (fVarQ 3) (fC (.int 4))) aNil)) aNil)))))
  (fSeqX (fIteX (asB (fOp (oInQ false) (fC .non) (fVarQ 4)))
  (fRaise 3 (fOp oAdd (fVarQ 1) (fC (.int 1))))
  fNxX)
  (fSV (fRet (fVar 4)))))))
def m_headed : FCX := mOfX N_headed 3 f_headed
def N_numbers_in : List Str := ["words", "word"]
def ps_numbers_in : List Str := ["words"]
abbrev s_numbers_in : Stmt := top 32
def f_numbers_in : FS := (fRet (fCall bTuple (aCons (fComp (fIt (fVar 0)) (gSet 1) fYes (fCall m_number_of (aCons (fVar 1) aNil)) [1]) aNil)))
def m_numbers_in : FC := mOf N_numbers_in 1 f_numbers_in
def N_table_at : List Str := ["lines", "at", "width", "arity", "many", "rows", "number", "row"]
def ps_table_at : List Str := ["lines", "at", "width"]
abbrev s_table_at : Stmt := top 35
def f_table_at : FSX := (fSeqX (fAsgX (fCallX m_headed (aCons (fVar 0) (aCons (fVar 1) (aCons (fLst (aCons (fC (.str "table")) (aCons (fC (.str "arity")) (aCons (fC (.str "rows")) aNil)))) aNil)))) (gSeq 2 (gsCons (gSet 3) (gsCons (gSet 4) gsNil))))
  (fSeqX (fIteX (fNot (asB (fCall m_within (aCons (fVar 3) (aCons (fC (.int 1)) (aCons (fC (.int 3)) aNil))))))
  (fRaise 3 (fOp oAdd (fVarQ 1) (fC (.int 1))))
  fNxX)
  (fSeqX (fSV (fSetO 5 (fLst aNil)))
  (fSeqX (fForX (fRg2 (aCons (fOp oAdd (fVarQ 1) (fC (.int 1))) (aCons (fOp oAdd (fOp oAdd (fVarQ 1) (fC (.int 1))) (fVarQ 4)) aNil))) (gSet 6)
  (fSeqX (fSV (fSet 7 (fIf (asB (fOp oLt (fVarQ 6) (fLenQ (fVarQ 0)))) (fCall m_numbers_in (aCons (fOp oIx (fVarQ 0) (fVarQ 6)) aNil)) (fTup aNil))))
  (fSeqX (fIteX (fOr (fNot (asB (fCall m_is_row (aCons (fVar 7) (aCons (fVar 2) (aCons (fVar 3) aNil)))))) (fAnd (asB (fOp oNe (fVarQ 5) (fLst aNil))) (asB (fOp oLe (fVarQ 7) (fOp oIx (fVarQ 5) (fNeg (fC (.int 1))))))))
  (fRaise 3 (fOp oAdd (fVarQ 6) (fC (.int 1))))
  fNxX)
  (fSV (fMutO "list" uApp 5 (aCons (fVar 7) aNil))))))
  (fSV (fFz 5 (fRet (fTup (aCons (fCall m_Table_init (aCons (fVar 2) (aCons (fVar 3) (aCons (fVar 5) aNil)))) (aCons (fOp oAdd (fOp oAdd (fVarQ 1) (fC (.int 1))) (fVarQ 4)) aNil))))))))))
def m_table_at : FCX := mOfX N_table_at 3 f_table_at
def N_read_book : List Str := ["text", "lines", "width", "many", "tables", "at", "turn", "table"]
def ps_read_book : List Str := ["text"]
abbrev s_read_book : Stmt := top 36
def f_read_book : FSX := (fSeqX (fSetX 1 (fCallX m_lines_of (aCons (fVar 0) aNil)))
  (fSeqX (fAsgX (fCallX m_headed (aCons (fVar 1) (aCons (fC (.int 0)) (aCons (fLst (aCons (fC (.str "book")) (aCons (fC (.str "width")) (aCons (fC (.str "tables")) aNil)))) aNil)))) (gSeq 2 (gsCons (gSet 2) (gsCons (gSet 3) gsNil))))
  (fSeqX (fIteX (fNot (asB (fCall m_within (aCons (fVar 2) (aCons (fC (.int 1)) (aCons (fC (.int 3)) aNil))))))
  (fRaise 3 (fC (.int 1)))
  fNxX)
  (fSeqX (fSV (fPar 4 5 (xO (fLst aNil)) (xF (fC (.int 1)))))
  (fSeqX (fForX (fRg1 (aCons (fVarQ 3) aNil)) (gSet 6)
  (fSeqX (fAsgX (fCallX m_table_at (aCons (fVar 1) (aCons (fVar 5) (aCons (fVar 2) aNil)))) (gSeq 2 (gsCons (gSet 7) (gsCons (gSet 5) gsNil))))
  (fSV (fMutO "list" uApp 4 (aCons (fVar 7) aNil)))))
  (fSeqX (fIteX (asB (fOp oNe (fVarQ 5) (fLenQ (fVarQ 1))))
  (fRaise 3 (fOp oAdd (fVarQ 5) (fC (.int 1))))
  fNxX)
  (fSV (fFz 4 (fRet (fCall m_Book_init (aCons (fVar 2) (aCons (fVar 4) aNil))))))))))))
def m_read_book : FCX := mOfX N_read_book 1 f_read_book
def N_show_puzzle : List Str := ["puzzle", "lines", "table", "spots"]
def ps_show_puzzle : List Str := ["puzzle"]
abbrev s_show_puzzle : Stmt := top 30
def f_show_puzzle : FS := (fSeq (fSetO 1 (fLst (aCons (fJoined (aCons (fC (.str "puzzle places ")) (aCons (fFmt (fFld [(2, 1)] (fVarQ 0))) (aCons (fC (.str " rows ")) (aCons (fFmt (fLen ms_len_Table_Book_Puzzle (fVar 0))) aNil))))) aNil)))
  (fSeq (fFor (fIt (fProp ms_rows_Table_Puzzle (fVar 0))) (gSeq 2 (gsCons (gSet 2) (gsCons (gSet 3) gsNil)))
  (fMutO "list" uApp 1 (aCons (fJoined (aCons (fC (.str "row ")) (aCons (fFmt (fVar 2)) (aCons (fC (.str " at ")) (aCons (fFmt (fCall m_written (aCons (fVar 3) aNil))) aNil))))) aNil)))
  (fRet (fMd "str" mJoin (fC (.str "\n")) (aCons (fVarQ 1) aNil)))))
def m_show_puzzle : FC := mOf N_show_puzzle 1 f_show_puzzle
def N_Book_getitem : List Str := ["self", "number"]
def ps_Book_getitem : List Str := ["self", "number"]
abbrev s_Book_getitem : Stmt := cbody 23 3
def f_Book_getitem : FS := (fSeq (fIte (fNot (asB (fCall m_within (aCons (fVar 1) (aCons (fC (.int 0)) (aCons (fOp oSub (fLenQ (fFld [(1, 1)] (fVarQ 0))) (fC (.int 1))) aNil))))))
  fNo
  fNx)
  (fRet (fOp oIx (fFld [(1, 1)] (fVarQ 0)) (fVarQ 1))))
def m_Book_getitem : FC := mOf N_Book_getitem 2 f_Book_getitem
def ms_getitem_Book : Ms := fun j => match j with | 1 => some m_Book_getitem | _ => none
def N_is_use : List Str := ["value", "book", "places"]
def ps_is_use : List Str := ["value", "book", "places"]
abbrev s_is_use : Stmt := top 24
def f_is_use : FS := (fSeq (fIte (fOr (fNot (asB (fIsi (fun s => isaB s "tuple") (tc_none 3) (fVarQ 0)))) (fOr (asB (fOp oNe (fLenQ (fVarQ 0)) (fC (.int 2)))) (fNot (asB (fCall m_within (aCons (fOp oIx (fVarQ 0) (fC (.int 0))) (aCons (fC (.int 0)) (aCons (fOp oSub (fLen ms_len_Table_Book_Puzzle (fVar 1)) (fC (.int 1))) aNil))))))))
  (fRet (fC (.bl false)))
  fNx)
  (fRet (fCall m_is_row (aCons (fOp oIx (fVarQ 0) (fC (.int 1))) (aCons (fVar 2) (aCons (fFld [(0, 1)] (fOp (oIxA ms_getitem_Book) (fVar 1) (fOp oIx (fVarQ 0) (fC (.int 0))))) aNil))))))
def m_is_use : FC := mOf N_is_use 3 f_is_use
def N_Puzzle_init : List Str := ["self", "book", "places", "rows", "number", "row"]
def ps_Puzzle_init : List Str := ["self", "book", "places", "rows"]
abbrev s_Puzzle_init : Stmt := cbody 25 0
def f_Puzzle_init : FS := (fSeq (fIte (fNot (asB (fCall m_within (aCons (fVar 2) (aCons (fC (.int 0)) (aCons (fC (.int 60)) aNil))))))
  fNo
  fNx)
  (fSeq (fIte (fNot (asB (fIsi (fun s => isaB s "list") (tc_none 3) (fVarQ 3))))
  fNo
  fNx)
  (fSeq (fFor (fEnum (aCons (fVar 3) aNil)) (gSeq 2 (gsCons (gSet 4) (gsCons (gSet 5) gsNil)))
  (fIte (fNot (asB (fCall m_is_use (aCons (fVar 5) (aCons (fVar 1) (aCons (fVar 2) aNil))))))
  fNo
  fNx))
  (fSeq (fFldO [(2, 0)] 0 (fVar 1))
  (fSeq (fFldO [(2, 1)] 0 (fVar 2))
  (fFldO [(2, 2)] 0 (fCall bList (aCons (fVarQ 3) aNil))))))))
def m_Puzzle_init : FC := mInit 2 N_Puzzle_init 4 f_Puzzle_init
def N_read_puzzle : List Str := ["text", "book", "lines", "places", "many", "rows", "at", "line", "row"]
def ps_read_puzzle : List Str := ["text", "book"]
abbrev s_read_puzzle : Stmt := top 37
def f_read_puzzle : FSX := (fSeqX (fSetX 2 (fCallX m_lines_of (aCons (fVar 0) aNil)))
  (fSeqX (fAsgX (fCallX m_headed (aCons (fVar 2) (aCons (fC (.int 0)) (aCons (fLst (aCons (fC (.str "puzzle")) (aCons (fC (.str "places")) (aCons (fC (.str "rows")) aNil)))) aNil)))) (gSeq 2 (gsCons (gSet 3) (gsCons (gSet 4) gsNil))))
  (fSeqX (fIteX (asB (fOp oGt (fVarQ 3) (fC (.int 60))))
  (fRaise 3 (fC (.int 1)))
  fNxX)
  (fSeqX (fSV (fSetO 5 (fLst aNil)))
  (fSeqX (fForX (fRg2 (aCons (fC (.int 1)) (aCons (fOp oAdd (fVarQ 4) (fC (.int 1))) aNil))) (gSet 6)
  (fSeqX (fSV (fSet 7 (fIf (asB (fOp oLt (fVarQ 6) (fLenQ (fVarQ 2)))) (fOp oIx (fVarQ 2) (fVarQ 6)) (fLst aNil))))
  (fSeqX (fIteX (fOr (asB (fOp oNe (fSl (fVarQ 7) oNone (oSome (fC (.int 1)))) (fLst (aCons (fC (.str "row")) aNil)))) (asB (fOp oNe (fSl (fVarQ 7) (oSome (fC (.int 2))) (oSome (fC (.int 3)))) (fLst (aCons (fC (.str "at")) aNil)))))
  (fRaise 3 (fOp oAdd (fVarQ 6) (fC (.int 1))))
  fNxX)
  (fSeqX (fSV (fSet 8 (fTup (aCons (fCall m_number_of (aCons (fOp oIx (fVarQ 7) (fC (.int 1))) aNil)) (aCons (fCall m_numbers_in (aCons (fSl (fVarQ 7) (oSome (fC (.int 3))) oNone) aNil)) aNil)))))
  (fSeqX (fIteX (fNot (asB (fCall m_is_use (aCons (fVar 8) (aCons (fVar 1) (aCons (fVar 3) aNil))))))
  (fRaise 3 (fOp oAdd (fVarQ 6) (fC (.int 1))))
  fNxX)
  (fSV (fMutO "list" uApp 5 (aCons (fVar 8) aNil))))))))
  (fSeqX (fIteX (asB (fOp oNe (fOp oAdd (fVarQ 4) (fC (.int 1))) (fLenQ (fVarQ 2))))
  (fRaise 3 (fOp oAdd (fVarQ 4) (fC (.int 2))))
  fNxX)
  (fSV (fFz 5 (fRet (fCall m_Puzzle_init (aCons (fVar 1) (aCons (fVar 3) (aCons (fVar 5) aNil)))))))))))))
def m_read_puzzle : FCX := mOfX N_read_puzzle 2 f_read_puzzle
def N__law_told : List Str := ["nth", "text", "book", "e"]
def ps__law_told : List Str := ["nth", "text", "book"]
abbrev s__law_told : Stmt := top 60
def f__law_told : FS := (fTryRet 3 3 (fIfX (asB (fOp oEq (fVarQ 0) (fC (.int 0)))) (fCallX1 m_show_book (fCallX m_read_book (aCons (fVar 1) aNil))) (fCallX1 m_show_puzzle (fCallX m_read_puzzle (aCons (fVar 1) (aCons (fVar 2) aNil))))))
def m__law_told : FC := mOf N__law_told 3 f__law_told
def N_law : List Str := ["script", "k", "feed", "width", "tables", "book", "places", "uses", "texts", "turn", "nth", "text", "change", "lines", "due", "some", "told"]
def ps_law : List Str := ["script"]
abbrev s_law : Stmt := top 62
def f_law : FS := (fSeq (fFor (fRg1 (aCons (fCall bMax (aCons (fC (.int 1)) (aCons (fCall bMin (aCons (fC (.int 3)) (aCons (fLenQ (fVarQ 0)) aNil))) aNil))) aNil)) (gSet 1)
  (fSeq (fSet 2 (fCall m__law_feed (aCons (fVar 0) (aCons (fVar 1) aNil))))
  (fSeq (fSet 3 (fCall m__law_width (aCons (fVar 2) aNil)))
  (fSeq (fSet 4 (fCall m__law_drawn_tables (aCons (fVar 2) (aCons (fVar 3) (aCons (fC (.int 3)) aNil)))))
  (fSeq (fPar 5 6 (xF (fCall m__law_program_book (aCons (fVar 3) (aCons (fVar 4) aNil)))) (xF (fCall m__law_take (aCons (fVar 2) (aCons (fC (.int 5)) aNil)))))
  (fSeq (fSet 7 (fCall m__law_uses (aCons (fVar 2) (aCons (fVar 4) (aCons (fVar 6) (aCons (fCall m__law_take (aCons (fVar 2) (aCons (fC (.int 5)) aNil))) aNil))))))
  (fSeq (fSet 8 (fLst (aCons (fMd "str" mJoin (fC (.str "\n")) (aCons (fCall m__law_lines_of (aCons (fVar 3) (aCons (fVar 4) aNil))) aNil)) (aCons (fMd "str" mJoin (fC (.str "\n")) (aCons (fCall m__law_use_lines (aCons (fVar 6) (aCons (fVar 7) aNil))) aNil)) aNil))))
  (fSeq (fFor (fRg1 (aCons (fC (.int 8)) aNil)) (gSet 9)
  (fSeq (fSet 10 (fOp oMod (fVarQ 9) (fC (.int 2))))
  (fSeq (fSet 11 (fOp oIx (fVarQ 8) (fVarQ 10)))
  (fSeq (fFor (fRg1 (aCons (fCall m__law_pick (aCons (fVar 2) (aCons (fLst (aCons (fC (.int 1)) (aCons (fC (.int 1)) (aCons (fC (.int 2)) (aCons (fC (.int 3)) aNil))))) aNil))) aNil)) (gSet 12)
  (fSet 11 (fCall m__law_changed (aCons (fVar 2) (aCons (fVar 11) aNil)))))
  (fSeq (fSet 13 (fMd "str" mSplit (fVarQ 11) (aCons (fC (.str "\n")) aNil)))
  (fSeq (fSet 14 (fIf (asB (fOp oEq (fVarQ 10) (fC (.int 0)))) (fCall m__law_book_due (aCons (fVar 13) aNil)) (fCall m__law_puzzle_due (aCons (fVar 13) (aCons (fVar 4) aNil)))))
  (fSeq (fIte (fNot (asB (fIsi (fun s => isaB s "int") (tc_none 3) (fVarQ 14))))
  (fSeq (fSet 15 (fIf (asB (fOp oEq (fVarQ 10) (fC (.int 0)))) (fCall m__law_lines_of (aCons (fOp oIx (fVarQ 14) (fC (.int 0))) (aCons (fOp oIx (fVarQ 14) (fC (.int 1))) aNil))) (fCall m__law_use_lines (aCons (fOp oIx (fVarQ 14) (fC (.int 0))) (aCons (fOp oIx (fVarQ 14) (fC (.int 1))) aNil)))))
  (fSet 14 (fMd "str" mJoin (fC (.str "\n")) (aCons (fVarQ 15) aNil))))
  fNx)
  (fSeq (fSet 16 (fCall m__law_told (aCons (fVar 10) (aCons (fVar 11) (aCons (fVar 5) aNil)))))
  (fIte (fOr (asB (fIsi (fun s => isaB s "bool") (tc_none 3) (fVarQ 16))) (asB (fOp oNe (fVarQ 16) (fVarQ 14))))
  (fRet (fC (.bl false)))
  fNx)))))))))
  (fFor (fIt (fTup (aCons (fC .non) (aCons (fC (.int 0)) (aCons (fC (.bl true)) (aCons (fLst aNil) (aCons (fLst (aCons (fC (.str "book width 1 tables 0")) aNil)) (aCons (fTup aNil) (aCons (fC (.str "")) aNil))))))))) (gSet 11)
  (fIte (asB (fOp oNe (fLst (aCons (fCall m__law_told (aCons (fC (.int 0)) (aCons (fVar 11) (aCons (fVar 5) aNil)))) (aCons (fCall m__law_told (aCons (fC (.int 1)) (aCons (fVar 11) (aCons (fVar 5) aNil)))) aNil))) (fLst (aCons (fC (.int 1)) (aCons (fC (.int 1)) aNil)))))
  (fRet (fC (.bl false)))
  fNx))))))))))
  (fRet (fC (.bl true))))
def m_law : FC := mOf N_law 1 f_law
structure Pg (T : Tb) : Prop where
  g_len : T.mg "len" = none
  g_min : T.mg "min" = none
  g_max : T.mg "max" = none
  g_range : T.mg "range" = none
  g_abs : T.mg "abs" = none
  g_int : T.mg "int" = none
  g_sum : T.mg "sum" = none
  g_tuple : T.mg "tuple" = none
  g_sorted : T.mg "sorted" = none
  g_set : T.mg "set" = none
  isi_int : Isi T "int" (fun s => isaB s "int") (tc_none 3)
  g_isinstance : T.mg "isinstance" = none
  isi_bool : Isi T "bool" (fun s => isaB s "bool") (tc_none 3)
  c_MOST_WIDTH : ∃ t, T.mg "MOST_WIDTH" = some (.int 3 t)
  isi_list : Isi T "list" (fun s => isaB s "list") (tc_none 3)
  g_enumerate : T.mg "enumerate" = none
  isi_Table : Isi T "Table" (fun _ => false) (tc_cls 3 0)
  acc_width : Acc T "width" [(0, 0), (1, 0)]
  g_list : T.mg "list" = none
  acc_kept_tables : Acc T "kept_tables" [(1, 1)]
  c_MOST_ARITY : ∃ t, T.mg "MOST_ARITY" = some (.int 3 t)
  isi_tuple : Isi T "tuple" (fun s => isaB s "tuple") (tc_none 3)
  g_all : T.mg "all" = none
  acc_arity : Acc T "arity" [(0, 1)]
  acc_held : Acc T "held" [(0, 2)]
  acc_there : Acc T "there" [(0, 3)]
  g_str : T.mg "str" = none
  acc_kept_rows : Acc T "kept_rows" [(2, 2)]
  isi_str : Isi T "str" (fun s => isaB s "str") (tc_none 3)
  c_DIGITS : ∃ t, T.mg "DIGITS" = some (.str "0123456789" t)
  acc_places : Acc T "places" [(2, 1)]
  c_MOST_PLACES : ∃ t, T.mg "MOST_PLACES" = some (.int 60 t)
  acc_book : Acc T "book" [(2, 0)]
  flen : ∀ k, (T.fl k).length < 1000
theorem d__law_feed {T : Tb} (P : Pg T) : Der T 0 N__law_feed "_law_feed" s__law_feed f__law_feed := fun f cdv A outer s H E =>
  (tb_cons (ts_set 2 (tr_if (tt_cmp op_oLt (tq_var 1) (TrE.q (tr_lenQ (tq_var 0) P.g_len))) (tr_ix ix_oIx (tq_var 0) (tq_var 1)) (tr_op op_oAdd (TrE.q (tr_op op_oMul (TrE.q tr_int) (tq_var 1))) (TrE.q tr_int))))
  (tb_cons (ts_set 3 (tr_cb cr_bMax (tqa_cons (TrE.q tr_int) (tqa_cons (TrE.q (tr_op op_oSub (TrE.q (tr_cb cr_bAbs (tqa_cons (tq_var 2) tqa_nil) P.g_abs)) (TrE.q (tr_op op_oPow (TrE.q tr_int) (TrE.q tr_int))))) tqa_nil)) P.g_max))
  (tb_cons (ts_set 4 (tr_op op_oMod (TrE.q (tr_ct cr_bIntS (tqa_cons (TrE.q (tr_op op_oAdd (TrE.q (tr_op op_oAdd (TrE.q (tr_op op_oMul (tq_var 2) (TrE.q tr_int))) (TrE.q (tr_op op_oMul (TrE.q tr_int) (tq_var 1))))) (TrE.q tr_int))) tqa_nil) P.g_int)) (TrE.q tr_int)))
  (tb_one (ts_ret (TrN.cl (tr_lst (ta_cons (tr_var 3) (ta_cons (tr_var 4) ta_nil)))))))))
theorem d__law_take {T : Tb} (P : Pg T) : Der T 0 N__law_take "_law_take" s__law_take f__law_take := fun f cdv A outer s H E =>
  (tb_cons (ts_if (tt_cmp op_oGt (TrE.q (tr_ix ix_oIx (tq_var 0) (TrE.q tr_int))) (TrE.q tr_int))
  (tb_cons (ts_set 2 (tr_op op_oMod (TrE.q (tr_ct cr_bIntS (tqa_cons (TrE.q (tr_ix ix_oIx (tq_var 0) (TrE.q tr_int))) tqa_nil) P.g_int)) (tq_var 1)))
  (tb_cons (ts_stC (fun _ => set_uSetL) (tr_op op_oFdiv (TrE.q (tr_ix ix_oIx (tq_var 0) (TrE.q tr_int))) (tq_var 1)) (tr_var 0) tr_int)
  (tb_one (ts_ret (tr_var 2)))))
  tb_nil)
  (tb_cons (ts_stC (fun _ => set_uSetL) (tr_op op_oMod (TrE.q (tr_ct cr_bIntS (tqa_cons (TrE.q (tr_op op_oAdd (TrE.q (tr_op op_oMul (TrE.q (tr_ix ix_oIx (tq_var 0) (TrE.q tr_int))) (TrE.q tr_int))) (TrE.q tr_int))) tqa_nil) P.g_int)) (TrE.q tr_int)) (tr_var 0) tr_int)
  (tb_one (ts_ret (tr_op op_oMod (TrE.q (tr_ct cr_bIntS (tqa_cons (TrE.q (tr_op op_oFdiv (TrE.q (tr_ix ix_oIx (tq_var 0) (TrE.q tr_int))) (TrE.q tr_int))) tqa_nil) P.g_int)) (tq_var 1))))))
theorem d__law_pick {T : Tb} (P : Pg T) (F__law_take : Fn T 1 "_law_take" ps__law_take m__law_take) : Der T 1 N__law_pick "_law_pick" s__law_pick f__law_pick := fun f cdv A outer s H E =>
  (tb_one (ts_ret (tr_ix ix_oIx (tq_var 1) (TrE.q (tr_call F__law_take (ta_cons (tr_var 0) (ta_cons (tr_lenQ (tq_var 1) P.g_len) ta_nil)))))))
theorem d__law_width {T : Tb} (P : Pg T) (F__law_pick : Fn T 2 "_law_pick" ps__law_pick m__law_pick) : Der T 2 N__law_width "_law_width" s__law_width f__law_width := fun f cdv A outer s H E =>
  (tb_one (ts_ret (tr_call F__law_pick (ta_cons (tr_var 0) (ta_cons (TrN.fz (tr_lst (ta_cons tr_int (ta_cons tr_int (ta_cons tr_int (ta_cons tr_int (ta_cons tr_int (ta_cons tr_int ta_nil)))))))) ta_nil)))))
theorem d__law_all {T : Tb} (P : Pg T) : Der T 0 N__law_all "_law_all" s__law_all f__law_all := fun f cdv A outer s H E =>
  (tb_cons (ts_set 2 (TrN.fz (tr_lst (ta_cons (tr_tup ta_nil) ta_nil))))
  (tb_cons (ts_for (ti_rg1 (tqa_cons (tq_var 1) tqa_nil) P.g_range) (tg_name 3)
  (tb_cons (ts_set 4 (TrN.fz (tr_lst ta_nil)))
  (tb_cons (ts_for (ti_seq (tr_var 2)) (tg_name 5)
  (tb_one (ts_set 4 (tr_op op_oAdd (tq_var 4) (TrE.q (TrN.fz (tn_lc (own := [("value", 6)]) (TrI.q (ti_rg1 (tqa_cons (tq_var 0) tqa_nil) P.g_range)) (by kernel_rfl) (fun _ _ _ _ _ => (tg_name 6)) (fun _ _ _ _ _ => tts_nil) (fun _ _ _ _ _ => (tr_op op_oAdd (tq_var 5) (TrE.q (tr_tup (ta_cons (tr_var 6) ta_nil))))) (by decide))))))))
  (tb_one (ts_set 2 (tr_var 4))))))
  (tb_one (ts_ret (tr_var 2)))))
theorem d__law_known_tables {T : Tb} (P : Pg T) (F__law_all : Fn T 1 "_law_all" ps__law_all m__law_all) : Der T 1 N__law_known_tables "_law_known_tables" s__law_known_tables f__law_known_tables := fun f cdv A outer s H E =>
  (tb_cons (ts_par 1 2 (TrE.x (tr_call F__law_all (ta_cons (tr_var 0) (ta_cons tr_int ta_nil)))) (TrE.x (tr_call F__law_all (ta_cons (tr_var 0) (ta_cons tr_int ta_nil)))))
  (tb_cons (ts_setO 3 (tr_lst (ta_cons (TrN.fz (tr_lst (ta_cons tr_int (ta_cons (TrN.fz (tn_lc (own := [("row", 4)]) (TrI.q (ti_seq (tr_var 1))) (by kernel_rfl) (fun _ _ _ _ _ => (tg_name 4)) (fun _ _ _ _ _ => (tts_one (tt_cmp op_oLe (TrE.q (tr_ix ix_oIx (tq_var 4) (TrE.q tr_int))) (TrE.q (tr_ix ix_oIx (tq_var 4) (TrE.q tr_int)))))) (fun _ _ _ _ _ => (tr_var 4)) (by decide))) ta_nil)))) (ta_cons (TrN.fz (tr_lst (ta_cons tr_int (ta_cons (TrN.fz (tn_lc (own := [("row", 4)]) (TrI.q (ti_seq (tr_var 1))) (by kernel_rfl) (fun _ _ _ _ _ => (tg_name 4)) (fun _ _ _ _ _ => (tts_one (tt_cmp op_oNe (TrE.q (tr_ix ix_oIx (tq_var 4) (TrE.q tr_int))) (TrE.q (tr_ix ix_oIx (tq_var 4) (TrE.q tr_int)))))) (fun _ _ _ _ _ => (tr_var 4)) (by decide))) ta_nil)))) ta_nil))))
  (tb_cons (ts_setO 3 (tr_opN op_oCat (tq_var 3) (TrE.q (TrN.fz (tr_lst (ta_cons (TrN.fz (tr_lst (ta_cons tr_int (ta_cons (TrN.fz (tn_lc (own := [("row", 4)]) (TrI.q (ti_seq (tr_var 1))) (by kernel_rfl) (fun _ _ _ _ _ => (tg_name 4)) (fun _ _ _ _ _ => (tts_one (tt_cmp op_oEq (TrE.q (tr_ix ix_oIx (tq_var 4) (TrE.q tr_int))) (TrE.q (tr_ix ix_oIx (tq_var 4) (TrE.q tr_int)))))) (fun _ _ _ _ _ => (tr_var 4)) (by decide))) ta_nil)))) (ta_cons (TrN.fz (tr_lst (ta_cons tr_int (ta_cons (TrN.fz (tr_lst (ta_cons (tr_tup (ta_cons tr_int ta_nil)) ta_nil))) ta_nil)))) (ta_cons (TrN.fz (tr_lst (ta_cons tr_int (ta_cons (TrN.fz (tr_lst (ta_cons (tr_tup (ta_cons (tr_op op_oSub (tq_var 0) (TrE.q tr_int)) ta_nil)) ta_nil))) ta_nil)))) ta_nil))))))))
  (tb_cons (ts_mutO 3 PySem.F.plainAttrs_list PySem.F.slot_list_append PySem.F.type_list_append mt_uApp (ta_cons (TrN.fz (tr_lst (ta_cons tr_int (ta_cons (TrN.fz (tn_lc (own := [("row", 4)]) (TrI.q (ti_seq (tr_var 1))) (by kernel_rfl) (fun _ _ _ _ _ => (tg_name 4)) (fun _ _ _ _ _ => (tts_one (tt_cmp op_oEq (TrE.q (tr_op op_oMod (TrE.q (tr_ct cr_bIntS (tqa_cons (TrE.q (tr_op op_oAdd (TrE.q (tr_ix ix_oIx (tq_var 4) (TrE.q tr_int))) (TrE.q tr_int))) tqa_nil) P.g_int)) (tq_var 0))) (TrE.q (tr_ix ix_oIx (tq_var 4) (TrE.q tr_int)))))) (fun _ _ _ _ _ => (tr_var 4)) (by decide))) ta_nil)))) ta_nil))
  (tb_cons (ts_mutO 3 PySem.F.plainAttrs_list PySem.F.slot_list_append PySem.F.type_list_append mt_uApp (ta_cons (TrN.fz (tr_lst (ta_cons tr_int (ta_cons (TrN.fz (tn_lc (own := [("row", 4)]) (TrI.q (ti_seq (tr_var 1))) (by kernel_rfl) (fun _ _ _ _ _ => (tg_name 4)) (fun _ _ _ _ _ => (tts_one (tt_cmp op_oEq (TrE.q (tr_cb cr_bMax (tqa_cons (tq_var 4) tqa_nil) P.g_max)) (TrE.q (tr_op op_oSub (tq_var 0) (TrE.q tr_int)))))) (fun _ _ _ _ _ => (tr_var 4)) (by decide))) ta_nil)))) ta_nil))
  (tb_cons (ts_mutO 3 PySem.F.plainAttrs_list PySem.F.slot_list_append PySem.F.type_list_append mt_uApp (ta_cons (TrN.fz (tr_lst (ta_cons tr_int (ta_cons (TrN.fz (tn_lc (own := [("row", 4)]) (TrI.q (ti_seq (tr_var 1))) (by kernel_rfl) (fun _ _ _ _ _ => (tg_name 4)) (fun _ _ _ _ _ => (tts_one (tt_cmp op_oEq (TrE.q (tr_cb cr_bMin (tqa_cons (tq_var 4) tqa_nil) P.g_min)) (TrE.q tr_int)))) (fun _ _ _ _ _ => (tr_var 4)) (by decide))) ta_nil)))) ta_nil))
  (tb_cons (ts_mutO 3 PySem.F.plainAttrs_list PySem.F.slot_list_append PySem.F.type_list_append mt_uApp (ta_cons (TrN.fz (tr_lst (ta_cons tr_int (ta_cons (TrN.fz (tn_lc (own := [("row", 4)]) (TrI.q (ti_seq (tr_var 2))) (by kernel_rfl) (fun _ _ _ _ _ => (tg_name 4)) (fun _ _ _ _ _ => (tts_one (tt_cmp op_oLe (TrE.q (tr_cb cr_bMin (tqa_cons (TrE.q (tr_ix ix_oIx (tq_var 4) (TrE.q tr_int))) (tqa_cons (TrE.q (tr_ix ix_oIx (tq_var 4) (TrE.q tr_int))) tqa_nil)) P.g_min)) (TrE.q (tr_ix ix_oIx (tq_var 4) (TrE.q tr_int)))))) (fun _ _ _ _ _ => (tr_var 4)) (by decide))) ta_nil)))) ta_nil))
  (tb_cons (ts_mutO 3 PySem.F.plainAttrs_list PySem.F.slot_list_append PySem.F.type_list_append mt_uApp (ta_cons (TrN.fz (tr_lst (ta_cons tr_int (ta_cons (TrN.fz (tn_lc (own := [("row", 4)]) (TrI.q (ti_seq (tr_var 2))) (by kernel_rfl) (fun _ _ _ _ _ => (tg_name 4)) (fun _ _ _ _ _ => (tts_one (tt_cmp op_oGe (TrE.q (tr_cb cr_bMax (tqa_cons (TrE.q (tr_ix ix_oIx (tq_var 4) (TrE.q tr_int))) (tqa_cons (TrE.q (tr_ix ix_oIx (tq_var 4) (TrE.q tr_int))) tqa_nil)) P.g_max)) (TrE.q (tr_ix ix_oIx (tq_var 4) (TrE.q tr_int)))))) (fun _ _ _ _ _ => (tr_var 4)) (by decide))) ta_nil)))) ta_nil))
  (tb_cons (ts_mutO 3 PySem.F.plainAttrs_list PySem.F.slot_list_append PySem.F.type_list_append mt_uApp (ta_cons (TrN.fz (tr_lst (ta_cons tr_int (ta_cons (TrN.fz (tn_lc (own := [("row", 4)]) (TrI.q (ti_seq (tr_var 2))) (by kernel_rfl) (fun _ _ _ _ _ => (tg_name 4)) (fun _ _ _ _ _ => (tts_one (tt_cmp op_oEq (TrE.q (tr_op op_oMod (TrE.q (tr_ct cr_bIntS (tqa_cons (TrE.q (tr_cb cr_bSum (tqa_cons (tq_var 4) tqa_nil) P.g_sum)) tqa_nil) P.g_int)) (tq_var 0))) (TrE.q tr_int)))) (fun _ _ _ _ _ => (tr_var 4)) (by decide))) ta_nil)))) ta_nil))
  (tb_cons (ts_mutO 3 PySem.F.plainAttrs_list PySem.F.slot_list_append PySem.F.type_list_append mt_uApp (ta_cons (TrN.fz (tr_lst (ta_cons tr_int (ta_cons (TrN.fz (tn_lc (own := [("row", 4)]) (TrI.q (ti_seq (tr_var 2))) (by kernel_rfl) (fun _ _ _ _ _ => (tg_name 4)) (fun _ _ _ _ _ => (tts_one (tt_cmp op_oEq (TrE.q (tr_cb cr_bSum (tqa_cons (tq_var 4) tqa_nil) P.g_sum)) (TrE.q tr_int)))) (fun _ _ _ _ _ => (tr_var 4)) (by decide))) ta_nil)))) ta_nil))
  (tb_cons (ts_mutO 3 PySem.F.plainAttrs_list PySem.F.slot_list_append PySem.F.type_list_append mt_uApp (ta_cons (TrN.fz (tr_lst (ta_cons tr_int (ta_cons (TrN.fz (tn_lc (own := [("row", 4)]) (TrI.q (ti_seq (tr_var 2))) (by kernel_rfl) (fun _ _ _ _ _ => (tg_name 4)) (fun _ _ _ _ _ => (tts_one (tt_cmp op_oEq (TrE.q (tr_cb cr_bMax (tqa_cons (tq_var 4) tqa_nil) P.g_max)) (TrE.q (tr_op op_oSub (tq_var 0) (TrE.q tr_int)))))) (fun _ _ _ _ _ => (tr_var 4)) (by decide))) ta_nil)))) ta_nil))
  (tb_one (ts_ret (tr_op op_oAdd (tq_var 3) (TrE.q (TrN.fz (tr_lst (ta_cons (TrN.fz (tr_lst (ta_cons tr_int (ta_cons (TrN.fz (tn_lc (own := [("row", 4)]) (TrI.q (ti_seq (tr_var 2))) (by kernel_rfl) (fun _ _ _ _ _ => (tg_name 4)) (fun _ _ _ _ _ => (tts_one (tt_cmp op_oEq (TrE.q (tr_cb cr_bMin (tqa_cons (tq_var 4) tqa_nil) P.g_min)) (TrE.q tr_int)))) (fun _ _ _ _ _ => (tr_var 4)) (by decide))) ta_nil)))) (ta_cons (TrN.fz (tr_lst (ta_cons tr_int (ta_cons (TrN.fz (tn_lc (own := [("row", 4)]) (TrI.q (ti_seq (tr_var 2))) (by kernel_rfl) (fun _ _ _ _ _ => (tg_name 4)) (fun _ _ _ _ _ => (tts_one (tt_cmp op_oLt (TrE.q (tr_cb cr_bMin (tqa_cons (tq_var 4) tqa_nil) P.g_min)) (TrE.q (tr_cb cr_bMax (tqa_cons (tq_var 4) tqa_nil) P.g_max))))) (fun _ _ _ _ _ => (tr_var 4)) (by decide))) ta_nil)))) ta_nil)))))))))))))))))))
theorem d__law_drawn_row {T : Tb} (P : Pg T) (F__law_take : Fn T 1 "_law_take" ps__law_take m__law_take) : Der T 1 N__law_drawn_row "_law_drawn_row" s__law_drawn_row f__law_drawn_row := fun f cdv A outer s H E =>
  (tb_one (ts_ret (tr_ct cr_bTuple (tqa_cons (TrE.q (TrN.fz (tn_lc (own := [("turn", 3)]) (TrI.q (ti_rg1 (tqa_cons (tq_var 2) tqa_nil) P.g_range)) (by kernel_rfl) (fun _ _ _ _ _ => (tg_name 3)) (fun _ _ _ _ _ => tts_nil) (fun _ _ _ _ _ => (tr_call F__law_take (ta_cons (tr_var 0) (ta_cons (tr_var 1) ta_nil)))) (by decide)))) tqa_nil) P.g_tuple)))
theorem d__law_drawn_rows {T : Tb} (P : Pg T) (F__law_take : Fn T 1 "_law_take" ps__law_take m__law_take) (F__law_drawn_row : Fn T 2 "_law_drawn_row" ps__law_drawn_row m__law_drawn_row) : Der T 2 N__law_drawn_rows "_law_drawn_rows" s__law_drawn_rows f__law_drawn_rows := fun f cdv A outer s H E =>
  (tb_one (ts_ret (TrN.fz (tn_lc (own := [("turn", 4)]) (TrI.q (ti_rg1 (tqa_cons (TrE.q (tr_call F__law_take (ta_cons (tr_var 0) (ta_cons (tr_op op_oAdd (tq_var 3) (TrE.q tr_int)) ta_nil)))) tqa_nil) P.g_range)) (by kernel_rfl) (fun _ _ _ _ _ => (tg_name 4)) (fun _ _ _ _ _ => tts_nil) (fun _ _ _ _ _ => (tr_call F__law_drawn_row (ta_cons (tr_var 0) (ta_cons (tr_var 1) (ta_cons (tr_var 2) ta_nil))))) (by decide)))))
theorem d__law_drawn_table {T : Tb} (P : Pg T) (F__law_take : Fn T 1 "_law_take" ps__law_take m__law_take) (F__law_pick : Fn T 2 "_law_pick" ps__law_pick m__law_pick) (F__law_known_tables : Fn T 2 "_law_known_tables" ps__law_known_tables m__law_known_tables) (F__law_drawn_rows : Fn T 3 "_law_drawn_rows" ps__law_drawn_rows m__law_drawn_rows) : Der T 3 N__law_drawn_table "_law_drawn_table" s__law_drawn_table f__law_drawn_table := fun f cdv A outer s H E =>
  (tb_cons (ts_set 3 (tr_call F__law_take (ta_cons (tr_var 0) (ta_cons tr_int ta_nil))))
  (tb_cons (ts_if (tt_cmp op_oLt (tq_var 3) (TrE.q tr_int))
  (tb_one (ts_ret (tr_call F__law_pick (ta_cons (tr_var 0) (ta_cons (tr_call F__law_known_tables (ta_cons (tr_var 1) ta_nil)) ta_nil)))))
  tb_nil)
  (tb_cons (ts_set 4 (tr_op op_oAdd (TrE.q tr_int) (TrE.q (tr_call F__law_take (ta_cons (tr_var 0) (ta_cons tr_int ta_nil))))))
  (tb_one (ts_ret (TrN.fz (tr_lst (ta_cons (tr_var 4) (ta_cons (TrN.fz (tn_sortSet (TrE.q (tr_call F__law_drawn_rows (ta_cons (tr_var 0) (ta_cons (tr_var 1) (ta_cons (tr_var 4) (ta_cons (tr_var 2) ta_nil)))))) P.g_sorted P.g_set)) ta_nil)))))))))
theorem d__law_drawn_tables {T : Tb} (P : Pg T) (F__law_take : Fn T 1 "_law_take" ps__law_take m__law_take) (F__law_drawn_table : Fn T 4 "_law_drawn_table" ps__law_drawn_table m__law_drawn_table) : Der T 4 N__law_drawn_tables "_law_drawn_tables" s__law_drawn_tables f__law_drawn_tables := fun f cdv A outer s H E =>
  (tb_one (ts_ret (TrN.fz (tn_lc (own := [("turn", 3)]) (TrI.q (ti_rg1 (tqa_cons (TrE.q (tr_call F__law_take (ta_cons (tr_var 0) (ta_cons (tr_op op_oAdd (tq_var 2) (TrE.q tr_int)) ta_nil)))) tqa_nil) P.g_range)) (by kernel_rfl) (fun _ _ _ _ _ => (tg_name 3)) (fun _ _ _ _ _ => tts_nil) (fun _ _ _ _ _ => (tr_call F__law_drawn_table (ta_cons (tr_var 0) (ta_cons (tr_var 1) (ta_cons tr_int ta_nil))))) (by decide)))))
theorem d_within {T : Tb} (P : Pg T) : Der T 0 N_within "within" s_within f_within := fun f cdv A outer s H E =>
  (tb_one (ts_ret (tr_and (tr_isi P.isi_int (tq_var 0) P.g_isinstance) (tr_and (tr_not (tr_isi P.isi_bool (tq_var 0) P.g_isinstance)) (tr_one (tr_chain op_oLe op_oLe (tq_var 1) (tq_var 0) (tq_var 2)))))))
theorem d_check_width {T : Tb} (P : Pg T) (F_within : Fn T 1 "within" ps_within m_within) : Der T 1 N_check_width "check_width" s_check_width f_check_width := fun f cdv A outer s H E =>
  (tb_one (ts_if (tt_not (tt_val (tr_call F_within (ta_cons (tr_var 0) (ta_cons tr_int (ta_cons (tr_gint P.c_MOST_WIDTH) ta_nil))))))
  (tb_one ts_never)
  tb_nil))
theorem d_Book_init {T : Tb} (P : Pg T) (F_check_width : Fn T 2 "check_width" ps_check_width m_check_width) : Der T 2 N_Book_init "Book.__init__" s_Book_init f_Book_init := fun f cdv A outer s H E =>
  (tb_cons (ts_expr (tr_call F_check_width (ta_cons (tr_var 1) ta_nil)))
  (tb_cons (ts_if (tt_not (tt_val (tr_isi P.isi_list (tq_var 2) P.g_isinstance)))
  (tb_one ts_never)
  tb_nil)
  (tb_cons (ts_for (ti_enum (ta_cons (tr_var 2) ta_nil) P.g_enumerate) (tg_seq (tgs_cons (tg_name 3) (tgs_cons (tg_name 4) tgs_nil)))
  (tb_one (ts_if (TrW.tt (tw_or (tt_not (tt_val (tr_isi P.isi_Table (tq_var 4) P.g_isinstance))) (tw_or1 (tt_cmp op_oNe (TrE.q (tr_fld P.acc_width (tq_var 4))) (tq_var 1)))))
  (tb_one ts_never)
  tb_nil)))
  (tb_cons (ts_fldO 0 P.acc_width (tr_var 1) P.flen)
  (tb_one (ts_fldO 0 P.acc_kept_tables (TrN.fz (tn_ct cr_bList (tqa_cons (tq_var 2) tqa_nil) P.g_list)) P.flen))))))
theorem d_check_arity {T : Tb} (P : Pg T) (F_within : Fn T 1 "within" ps_within m_within) : Der T 1 N_check_arity "check_arity" s_check_arity f_check_arity := fun f cdv A outer s H E =>
  (tb_one (ts_if (tt_not (tt_val (tr_call F_within (ta_cons (tr_var 0) (ta_cons tr_int (ta_cons (tr_var 1) ta_nil))))))
  (tb_one ts_never)
  tb_nil))
theorem d_is_row {T : Tb} (P : Pg T) (F_within : Fn T 1 "within" ps_within m_within) : Der T 1 N_is_row "is_row" s_is_row f_is_row := fun f cdv A outer s H E =>
  (tb_cons (ts_if (TrW.tt (tw_or (tt_not (tt_val (tr_isi P.isi_tuple (tq_var 0) P.g_isinstance))) (tw_or1 (tt_cmp op_oNe (TrE.q (tr_lenQ (tq_var 0) P.g_len)) (tq_var 2)))))
  (tb_one (ts_ret tr_bl))
  tb_nil)
  (tb_one (ts_ret (tr_cb cr_bAll (tqa_cons (TrE.q (TrN.fz (tn_lc (own := [("one", 3)]) (TrI.q (ti_seq (tr_var 0))) (by kernel_rfl) (fun _ _ _ _ _ => (tg_name 3)) (fun _ _ _ _ _ => tts_nil) (fun _ _ _ _ _ => (tr_call F_within (ta_cons (tr_var 3) (ta_cons tr_int (ta_cons (tr_op op_oSub (tq_var 1) (TrE.q tr_int)) ta_nil))))) (by decide)))) tqa_nil) P.g_all))))
theorem d_Table_init {T : Tb} (P : Pg T) (F_check_width : Fn T 2 "check_width" ps_check_width m_check_width) (F_check_arity : Fn T 2 "check_arity" ps_check_arity m_check_arity) (F_is_row : Fn T 2 "is_row" ps_is_row m_is_row) : Der T 2 N_Table_init "Table.__init__" s_Table_init f_Table_init := fun f cdv A outer s H E =>
  (tb_cons (ts_expr (tr_call F_check_width (ta_cons (tr_var 1) ta_nil)))
  (tb_cons (ts_expr (tr_call F_check_arity (ta_cons (tr_var 2) (ta_cons (tr_gint P.c_MOST_ARITY) ta_nil))))
  (tb_cons (ts_if (tt_not (tt_val (tr_isi P.isi_list (tq_var 3) P.g_isinstance)))
  (tb_one ts_never)
  tb_nil)
  (tb_cons (ts_setO 4 tn_dic0)
  (tb_cons (ts_for (ti_enum (ta_cons (tr_var 3) ta_nil) P.g_enumerate) (tg_seq (tgs_cons (tg_name 5) (tgs_cons (tg_name 6) tgs_nil)))
  (tb_cons (ts_if (tt_not (tt_val (tr_call F_is_row (ta_cons (tr_var 6) (ta_cons (tr_var 1) (ta_cons (tr_var 2) ta_nil))))))
  (tb_one ts_never)
  tb_nil)
  (tb_one (ts_stO 4 set_uSetN tr_bl (tr_var 6)))))
  (tb_cons (ts_fldO 0 P.acc_width (tr_var 1) P.flen)
  (tb_cons (ts_fldO 0 P.acc_arity (tr_var 2) P.flen)
  (tb_cons (ts_fldO 0 P.acc_held (TrN.fz (tn_cb cr_bSortA (tqa_cons (tq_var 4) tqa_nil) P.g_sorted)) P.flen)
  (tb_one (ts_fz 4 (ts_fldO 0 P.acc_there (tr_var 4) P.flen)))))))))))
theorem d__law_program_table {T : Tb} (P : Pg T) (K_Table : Mkr T 3 0 "Table" ps_Table_init m_Table_init) : Der T 4 N__law_program_table "_law_program_table" s__law_program_table f__law_program_table := fun f cdv A outer s H E =>
  (tb_one (ts_ret (TrN.fz (tr_make K_Table (ta_cons (tr_var 0) (ta_cons (tr_ix ix_oIx (tq_var 1) (TrE.q tr_int)) (ta_cons (TrN.fz (tn_ct cr_bList (tqa_cons (TrE.q (tr_ix ix_oIx (tq_var 1) (TrE.q tr_int))) tqa_nil) P.g_list)) ta_nil)))))))
theorem d__law_program_book {T : Tb} (P : Pg T) (K_Book : Mkr T 3 1 "Book" ps_Book_init m_Book_init) (F__law_program_table : Fn T 5 "_law_program_table" ps__law_program_table m__law_program_table) : Der T 5 N__law_program_book "_law_program_book" s__law_program_book f__law_program_book := fun f cdv A outer s H E =>
  (tb_one (ts_ret (TrN.fz (tr_make K_Book (ta_cons (tr_var 0) (ta_cons (TrN.fz (tn_lc (own := [("table", 2)]) (TrI.q (ti_seq (tr_var 1))) (by kernel_rfl) (fun _ _ _ _ _ => (tg_name 2)) (fun _ _ _ _ _ => tts_nil) (fun _ _ _ _ _ => (tr_call F__law_program_table (ta_cons (tr_var 0) (ta_cons (tr_var 2) ta_nil)))) (by decide))) ta_nil))))))
theorem d__law_uses {T : Tb} (P : Pg T) (F__law_take : Fn T 1 "_law_take" ps__law_take m__law_take) : Der T 1 N__law_uses "_law_uses" s__law_uses f__law_uses := fun f cdv A outer s H E =>
  (tb_cons (ts_setO 4 (tr_lst ta_nil))
  (tb_cons (ts_for (ti_rg1 (tqa_cons (tq_var 3) tqa_nil) P.g_range) (tg_name 5)
  (tb_one (ts_if (TrW.tt (tw_and (tt_cmp op_oNe (tq_var 1) (TrE.q (TrN.fz (tr_lst ta_nil)))) (tw_and1 (tt_cmp op_oGt (tq_var 2) (TrE.q tr_int)))))
  (tb_cons (ts_set 6 (tr_call F__law_take (ta_cons (tr_var 0) (ta_cons (tr_lenQ (tq_var 1) P.g_len) ta_nil))))
  (tb_cons (ts_set 7 (tr_ct cr_bTuple (tqa_cons (TrE.q (TrN.fz (tn_lc (own := [("spot", 8)]) (TrI.q (ti_rg1 (tqa_cons (TrE.q (tr_ix ix_oIx (TrE.q (tr_ix ix_oIx (tq_var 1) (tq_var 6))) (TrE.q tr_int))) tqa_nil) P.g_range)) (by kernel_rfl) (fun _ _ _ _ _ => (tg_name 8)) (fun _ _ _ _ _ => tts_nil) (fun _ _ _ _ _ => (tr_call F__law_take (ta_cons (tr_var 0) (ta_cons (tr_var 2) ta_nil)))) (by decide)))) tqa_nil) P.g_tuple))
  (tb_one (ts_mutO 4 PySem.F.plainAttrs_list PySem.F.slot_list_append PySem.F.type_list_append mt_uApp (ta_cons (tr_tup (ta_cons (tr_var 6) (ta_cons (tr_var 7) ta_nil))) ta_nil)))))
  tb_nil)))
  (tb_one (ts_fz 4 (ts_ret (tr_var 4))))))
theorem d__law_lines_of {T : Tb} (P : Pg T) : Der T 0 N__law_lines_of "_law_lines_of" s__law_lines_of f__law_lines_of := fun f cdv A outer s H E =>
  (tb_cons (ts_setO 2 (tr_lst (ta_cons (tr_op op_oAdd (TrE.q (tr_op op_oAdd (TrE.q (tr_op op_oAdd (TrE.q tr_str) (TrE.q (tr_ct cr_bStr (tqa_cons (tq_var 0) tqa_nil) P.g_str)))) (TrE.q tr_str))) (TrE.q (tr_ct cr_bStr (tqa_cons (TrE.q (tr_lenQ (tq_var 1) P.g_len)) tqa_nil) P.g_str))) ta_nil)))
  (tb_cons (ts_for (ti_seq (tr_var 1)) (tg_seq (tgs_cons (tg_name 3) (tgs_cons (tg_name 4) tgs_nil)))
  (tb_cons (ts_mutO 2 PySem.F.plainAttrs_list PySem.F.slot_list_append PySem.F.type_list_append mt_uApp (ta_cons (tr_op op_oAdd (TrE.q (tr_op op_oAdd (TrE.q (tr_op op_oAdd (TrE.q tr_str) (TrE.q (tr_ct cr_bStr (tqa_cons (tq_var 3) tqa_nil) P.g_str)))) (TrE.q tr_str))) (TrE.q (tr_ct cr_bStr (tqa_cons (TrE.q (tr_lenQ (tq_var 4) P.g_len)) tqa_nil) P.g_str))) ta_nil))
  (tb_one (ts_setO 2 (tr_opN op_oCat (tq_var 2) (TrE.q (TrN.fz (tn_lc (own := [("row", 5)]) (TrI.q (ti_seq (tr_var 4))) (by kernel_rfl) (fun _ _ _ _ _ => (tg_name 5)) (fun _ _ _ _ _ => tts_nil) (fun _ _ _ _ _ => (tr_md PySem.F.plainAttrs_str PySem.F.slot_str_join PySem.F.type_str_join mt_mJoin (TrE.q tr_str) (tqa_cons (TrE.q (TrN.fz (tn_lc (own := [("value", 6)]) (TrI.q (ti_seq (tr_var 5))) (by kernel_rfl) (fun _ _ _ _ _ => (tg_name 6)) (fun _ _ _ _ _ => tts_nil) (fun _ _ _ _ _ => (tr_ct cr_bStr (tqa_cons (tq_var 6) tqa_nil) P.g_str)) (by decide)))) tqa_nil))) (by decide)))))))))
  (tb_one (ts_fz 2 (ts_ret (tr_var 2))))))
theorem d__law_use_lines {T : Tb} (P : Pg T) : Der T 0 N__law_use_lines "_law_use_lines" s__law_use_lines f__law_use_lines := fun f cdv A outer s H E =>
  (tb_cons (ts_setO 2 (tr_lst (ta_cons (tr_op op_oAdd (TrE.q (tr_op op_oAdd (TrE.q (tr_op op_oAdd (TrE.q tr_str) (TrE.q (tr_ct cr_bStr (tqa_cons (tq_var 0) tqa_nil) P.g_str)))) (TrE.q tr_str))) (TrE.q (tr_ct cr_bStr (tqa_cons (TrE.q (tr_lenQ (tq_var 1) P.g_len)) tqa_nil) P.g_str))) ta_nil)))
  (tb_cons (ts_for (ti_seq (tr_var 1)) (tg_seq (tgs_cons (tg_name 3) (tgs_cons (tg_name 4) tgs_nil)))
  (tb_one (ts_mutO 2 PySem.F.plainAttrs_list PySem.F.slot_list_append PySem.F.type_list_append mt_uApp (ta_cons (tr_op op_oAdd (TrE.q (tr_op op_oAdd (TrE.q (tr_op op_oAdd (TrE.q tr_str) (TrE.q (tr_ct cr_bStr (tqa_cons (tq_var 3) tqa_nil) P.g_str)))) (TrE.q tr_str))) (TrE.q (tr_md PySem.F.plainAttrs_str PySem.F.slot_str_join PySem.F.type_str_join mt_mJoin (TrE.q tr_str) (tqa_cons (TrE.q (TrN.fz (tn_lc (own := [("place", 5)]) (TrI.q (ti_seq (tr_var 4))) (by kernel_rfl) (fun _ _ _ _ _ => (tg_name 5)) (fun _ _ _ _ _ => tts_nil) (fun _ _ _ _ _ => (tr_ct cr_bStr (tqa_cons (tq_var 5) tqa_nil) P.g_str)) (by decide)))) tqa_nil)))) ta_nil))))
  (tb_one (ts_fz 2 (ts_ret (tr_var 2))))))
theorem d__law_changed {T : Tb} (P : Pg T) (F__law_take : Fn T 1 "_law_take" ps__law_take m__law_take) (F__law_pick : Fn T 2 "_law_pick" ps__law_pick m__law_pick) : Der T 2 N__law_changed "_law_changed" s__law_changed f__law_changed := fun f cdv A outer s H E =>
  (tb_cons (ts_par 2 3 (TrN.x (tn_md PySem.F.plainAttrs_str PySem.F.slot_str_split PySem.F.type_str_split mtn_mSplit (tq_var 1) (tqa_cons (TrE.q tr_str) tqa_nil))) (TrE.x (tr_call F__law_take (ta_cons (tr_var 0) (ta_cons tr_int ta_nil)))))
  (tb_cons (ts_par 4 5 (TrE.x (tr_call F__law_take (ta_cons (tr_var 0) (ta_cons (tr_lenQ (tq_var 2) P.g_len) ta_nil)))) (TrE.x (tr_call F__law_take (ta_cons (tr_var 0) (ta_cons (tr_lenQ (tq_var 2) P.g_len) ta_nil)))))
  (tb_cons (ts_if (tt_cmp op_oEq (tq_var 3) (TrE.q tr_int))
  (tb_one (ts_ret (tr_md PySem.F.plainAttrs_str PySem.F.slot_str_join PySem.F.type_str_join mt_mJoin (TrE.q tr_str) (tqa_cons (TrE.q (tr_op op_oAdd (TrE.q (tr_slA (tq_var 2) to_none (to_some (tr_var 4)))) (TrE.q (tr_slA (tq_var 2) (to_some (tr_op op_oAdd (tq_var 4) (TrE.q tr_int))) to_none)))) tqa_nil))))
  tb_nil)
  (tb_cons (ts_if (tt_cmp op_oEq (tq_var 3) (TrE.q tr_int))
  (tb_one (ts_ret (tr_md PySem.F.plainAttrs_str PySem.F.slot_str_join PySem.F.type_str_join mt_mJoin (TrE.q tr_str) (tqa_cons (TrE.q (tr_op op_oAdd (TrE.q (tr_op op_oAdd (TrE.q (tr_slA (tq_var 2) to_none (to_some (tr_var 4)))) (TrE.q (TrN.fz (tr_lst (ta_cons (tr_ix ix_oIx (tq_var 2) (tq_var 5)) ta_nil)))))) (TrE.q (tr_slA (tq_var 2) (to_some (tr_var 4)) to_none)))) tqa_nil))))
  tb_nil)
  (tb_cons (ts_if (tt_cmp op_oEq (tq_var 3) (TrE.q tr_int))
  (tb_cons (ts_swapO 2 4 5 (tr_tup (ta_cons (tr_ix ix_oIx (tq_var 2) (tq_var 5)) (ta_cons (tr_ix ix_oIx (tq_var 2) (tq_var 4)) ta_nil))))
  (tb_one (ts_ret (tr_md PySem.F.plainAttrs_str PySem.F.slot_str_join PySem.F.type_str_join mt_mJoin (TrE.q tr_str) (tqa_cons (tq_var 2) tqa_nil)))))
  tb_nil)
  (tb_cons (ts_set 6 (TrN.fz (tn_md PySem.F.plainAttrs_str PySem.F.slot_str_split PySem.F.type_str_split mtn_mSplit (TrE.q (tr_ix ix_oIx (tq_var 2) (tq_var 4))) (tqa_cons (TrE.q tr_str) tqa_nil))))
  (tb_cons (ts_set 7 (tr_call F__law_take (ta_cons (tr_var 0) (ta_cons (tr_lenQ (tq_var 6) P.g_len) ta_nil))))
  (tb_cons (ts_if (tt_cmp op_oEq (tq_var 3) (TrE.q tr_int))
  (tb_cons (ts_set 8 (tr_md PySem.F.plainAttrs_str PySem.F.slot_str_join PySem.F.type_str_join mt_mJoin (TrE.q tr_str) (tqa_cons (TrE.q (tr_op op_oAdd (TrE.q (tr_slA (tq_var 6) to_none (to_some (tr_var 7)))) (TrE.q (tr_slA (tq_var 6) (to_some (tr_op op_oAdd (tq_var 7) (TrE.q tr_int))) to_none)))) tqa_nil)))
  (tb_one (ts_ret (tr_md PySem.F.plainAttrs_str PySem.F.slot_str_join PySem.F.type_str_join mt_mJoin (TrE.q tr_str) (tqa_cons (TrE.q (tr_op op_oAdd (TrE.q (tr_op op_oAdd (TrE.q (tr_slA (tq_var 2) to_none (to_some (tr_var 4)))) (TrE.q (TrN.fz (tr_lst (ta_cons (tr_var 8) ta_nil)))))) (TrE.q (tr_slA (tq_var 2) (to_some (tr_op op_oAdd (tq_var 4) (TrE.q tr_int))) to_none)))) tqa_nil)))))
  tb_nil)
  (tb_cons (ts_if (tt_cmp op_oEq (tq_var 3) (TrE.q tr_int))
  (tb_cons (ts_set 9 (TrN.fz (tr_lst (ta_cons tr_str (ta_cons tr_str (ta_cons tr_str (ta_cons tr_str (ta_cons tr_str (ta_cons tr_str (ta_cons tr_str (ta_cons tr_str (ta_cons tr_str (ta_cons tr_str (ta_cons tr_str (ta_cons tr_str (ta_cons tr_str (ta_cons tr_str (ta_cons tr_str ta_nil))))))))))))))))))
  (tb_cons (ts_set 9 (tr_op op_oAdd (tq_var 9) (TrE.q (TrN.fz (tr_lst (ta_cons tr_str (ta_cons tr_str (ta_cons tr_str (ta_cons tr_str ta_nil)))))))))
  (tb_cons (ts_set 8 (tr_md PySem.F.plainAttrs_str PySem.F.slot_str_join PySem.F.type_str_join mt_mJoin (TrE.q tr_str) (tqa_cons (TrE.q (tr_op op_oAdd (TrE.q (tr_op op_oAdd (TrE.q (tr_slA (tq_var 6) to_none (to_some (tr_var 7)))) (TrE.q (TrN.fz (tr_lst (ta_cons (tr_call F__law_pick (ta_cons (tr_var 0) (ta_cons (tr_var 9) ta_nil))) ta_nil)))))) (TrE.q (tr_slA (tq_var 6) (to_some (tr_op op_oAdd (tq_var 7) (TrE.q tr_int))) to_none)))) tqa_nil)))
  (tb_one (ts_ret (tr_md PySem.F.plainAttrs_str PySem.F.slot_str_join PySem.F.type_str_join mt_mJoin (TrE.q tr_str) (tqa_cons (TrE.q (tr_op op_oAdd (TrE.q (tr_op op_oAdd (TrE.q (tr_slA (tq_var 2) to_none (to_some (tr_var 4)))) (TrE.q (TrN.fz (tr_lst (ta_cons (tr_var 8) ta_nil)))))) (TrE.q (tr_slA (tq_var 2) (to_some (tr_op op_oAdd (tq_var 4) (TrE.q tr_int))) to_none)))) tqa_nil)))))))
  tb_nil)
  (tb_cons (ts_par 10 11 (TrE.x (tr_call F__law_take (ta_cons (tr_var 0) (ta_cons (tr_op op_oAdd (TrE.q (tr_lenQ (tq_var 1) P.g_len)) (TrE.q tr_int)) ta_nil)))) (TrE.x (tr_call F__law_pick (ta_cons (tr_var 0) (ta_cons (TrN.fz (tn_ct cr_bListS (tqa_cons (TrE.q tr_str) tqa_nil) P.g_list)) ta_nil)))))
  (tb_cons (ts_if (tt_cmp op_oEq (tq_var 3) (TrE.q tr_int))
  (tb_one (ts_ret (tr_op op_oAdd (TrE.q (tr_op op_oAdd (TrE.q (tr_slA (tq_var 1) to_none (to_some (tr_var 10)))) (tq_var 11))) (TrE.q (tr_slA (tq_var 1) (to_some (tr_var 10)) to_none)))))
  tb_nil)
  (tb_cons (ts_if (tt_cmp op_oEq (tq_var 3) (TrE.q tr_int))
  (tb_one (ts_ret (tr_op op_oAdd (TrE.q (tr_slA (tq_var 1) to_none (to_some (tr_var 10)))) (TrE.q (tr_slA (tq_var 1) (to_some (tr_op op_oAdd (tq_var 10) (TrE.q tr_int))) to_none)))))
  tb_nil)
  (tb_one (ts_ret (tr_op op_oAdd (TrE.q (tr_op op_oAdd (TrE.q (tr_slA (tq_var 1) to_none (to_some (tr_var 10)))) (tq_var 11))) (TrE.q (tr_slA (tq_var 1) (to_some (tr_op op_oAdd (tq_var 10) (TrE.q tr_int))) to_none)))))))))))))))))
theorem d__law_number {T : Tb} (P : Pg T) : Der T 0 N__law_number "_law_number" s__law_number f__law_number := fun f cdv A outer s H E =>
  (tb_cons (ts_if (TrW.tt (tw_or (tt_cmp op_oEq (tq_var 0) (TrE.q tr_str)) (tw_or (tt_cmp op_oGt (TrE.q (tr_lenQ (tq_var 0) P.g_len)) (TrE.q tr_int)) (tw_or1 (tt_cmp op_oNe (TrE.q (TrN.fz (tn_lc (own := [("sign", 1)]) (TrI.q (ti_str (tr_var 0))) (by kernel_rfl) (fun _ _ _ _ _ => (tg_name 1)) (fun _ _ _ _ _ => (tts_one (tt_cmp (op_oInQ true) (tq_var 1) (TrE.q tr_str)))) (fun _ _ _ _ _ => (tr_var 1)) (by decide)))) (TrE.q (TrN.fz (tr_lst ta_nil))))))))
  (tb_one (ts_ret (tr_neg tr_int)))
  tb_nil)
  (tb_one (ts_ret (tr_if (tt_cmp op_oEq (TrE.q (tr_ct cr_bStr (tqa_cons (TrE.q (tr_ct cr_bIntS (tqa_cons (tq_var 0) tqa_nil) P.g_int)) tqa_nil) P.g_str)) (tq_var 0)) (tr_ct cr_bIntS (tqa_cons (tq_var 0) tqa_nil) P.g_int) (tr_neg tr_int)))))
theorem d__law_headed {T : Tb} (P : Pg T) (F__law_number : Fn T 1 "_law_number" ps__law_number m__law_number) : Der T 1 N__law_headed "_law_headed" s__law_headed f__law_headed := fun f cdv A outer s H E =>
  (tb_cons (ts_set 2 (tr_md PySem.F.plainAttrs_str PySem.F.slot_str_split PySem.F.type_str_split mt_mSplit (tq_var 0) (tqa_cons (TrE.q tr_str) tqa_nil)))
  (tb_cons (ts_if (TrW.tt (tw_or (tt_cmp op_oNe (TrE.q (tr_lenQ (tq_var 2) P.g_len)) (TrE.q tr_int)) (tw_or1 (tt_cmp op_oNe (TrE.q (TrN.fz (tr_lst (ta_cons (tr_ix ix_oIx (tq_var 2) (TrE.q tr_int)) (ta_cons (tr_ix ix_oIx (tq_var 2) (TrE.q tr_int)) (ta_cons (tr_ix ix_oIx (tq_var 2) (TrE.q tr_int)) ta_nil)))))) (tq_var 1)))))
  (tb_one (ts_ret (TrN.fz (tr_lst ta_nil))))
  tb_nil)
  (tb_cons (ts_set 3 (TrN.fz (tr_lst (ta_cons (tr_call F__law_number (ta_cons (tr_ix ix_oIx (tq_var 2) (TrE.q tr_int)) ta_nil)) (ta_cons (tr_call F__law_number (ta_cons (tr_ix ix_oIx (tq_var 2) (TrE.q tr_int)) ta_nil)) ta_nil)))))
  (tb_one (ts_ret (tr_if (tt_cmp op_oGe (TrE.q (tr_cb cr_bMin (tqa_cons (tq_var 3) tqa_nil) P.g_min)) (TrE.q tr_int)) (tr_var 3) (TrN.fz (tr_lst ta_nil))))))))
theorem d__law_within {T : Tb} (P : Pg T) : Der T 0 N__law_within "_law_within" s__law_within f__law_within := fun f cdv A outer s H E =>
  (tb_one (ts_ret (tr_and (tr_isi P.isi_int (tq_var 0) P.g_isinstance) (tr_and (tr_not (tr_isi P.isi_bool (tq_var 0) P.g_isinstance)) (tr_one (tr_chain op_oLe op_oLe (tq_var 1) (tq_var 0) (tq_var 2)))))))
theorem d__law_is_row {T : Tb} (P : Pg T) (F__law_within : Fn T 1 "_law_within" ps__law_within m__law_within) : Der T 1 N__law_is_row "_law_is_row" s__law_is_row f__law_is_row := fun f cdv A outer s H E =>
  (tb_cons (ts_if (TrW.tt (tw_or (tt_not (tt_val (tr_isi P.isi_tuple (tq_var 0) P.g_isinstance))) (tw_or1 (tt_cmp op_oNe (TrE.q (tr_lenQ (tq_var 0) P.g_len)) (tq_var 2)))))
  (tb_one (ts_ret tr_bl))
  tb_nil)
  (tb_one (ts_ret (tr_cmp op_oEq (TrE.q (TrN.fz (tn_lc (own := [("one", 3)]) (TrI.q (ti_seq (tr_var 0))) (by kernel_rfl) (fun _ _ _ _ _ => (tg_name 3)) (fun _ _ _ _ _ => (tts_one (tt_not (tt_val (tr_call F__law_within (ta_cons (tr_var 3) (ta_cons tr_int (ta_cons (tr_op op_oSub (tq_var 1) (TrE.q tr_int)) ta_nil)))))))) (fun _ _ _ _ _ => (tr_var 3)) (by decide)))) (TrE.q (TrN.fz (tr_lst ta_nil)))))))
theorem d__law_book_due {T : Tb} (P : Pg T) (F__law_headed : Fn T 2 "_law_headed" ps__law_headed m__law_headed) (F__law_number : Fn T 1 "_law_number" ps__law_number m__law_number) (F__law_is_row : Fn T 2 "_law_is_row" ps__law_is_row m__law_is_row) : Der T 2 N__law_book_due "_law_book_due" s__law_book_due f__law_book_due := fun f cdv A outer s H E =>
  (tb_cons (ts_set 1 (tr_call F__law_headed (ta_cons (tr_ix ix_oIx (tq_var 0) (TrE.q tr_int)) (ta_cons (TrN.fz (tr_lst (ta_cons tr_str (ta_cons tr_str (ta_cons tr_str ta_nil))))) ta_nil))))
  (tb_cons (ts_if (TrW.tt (tw_or (tt_cmp op_oEq (tq_var 1) (TrE.q (TrN.fz (tr_lst ta_nil)))) (tw_or1 (tt_not (tt_chain op_oLe op_oLe (TrE.q tr_int) (TrE.q (tr_ix ix_oIx (tq_var 1) (TrE.q tr_int))) (TrE.q tr_int))))))
  (tb_one (ts_ret tr_int))
  tb_nil)
  (tb_cons (ts_par 2 3 (TrE.x tr_int) (TrN.x (tr_lst ta_nil)))
  (tb_cons (ts_for (ti_rg1 (tqa_cons (TrE.q (tr_lenQ (tq_var 0) P.g_len)) tqa_nil) P.g_range) (tg_name 4)
  (tb_cons (ts_if (tt_cmp op_oEq (TrE.q (tr_lenQ (tq_var 3) P.g_len)) (TrE.q (tr_ix ix_oIx (tq_var 1) (TrE.q tr_int))))
  (tb_one ts_break)
  tb_nil)
  (tb_cons (ts_set 5 (tr_if (tt_cmp op_oLt (tq_var 2) (TrE.q (tr_lenQ (tq_var 0) P.g_len))) (tr_call F__law_headed (ta_cons (tr_ix ix_oIx (tq_var 0) (tq_var 2)) (ta_cons (TrN.fz (tr_lst (ta_cons tr_str (ta_cons tr_str (ta_cons tr_str ta_nil))))) ta_nil))) (TrN.fz (tr_lst ta_nil))))
  (tb_cons (ts_if (TrW.tt (tw_or (tt_cmp op_oEq (tq_var 5) (TrE.q (TrN.fz (tr_lst ta_nil)))) (tw_or1 (tt_not (tt_chain op_oLe op_oLe (TrE.q tr_int) (TrE.q (tr_ix ix_oIx (tq_var 5) (TrE.q tr_int))) (TrE.q tr_int))))))
  (tb_one (ts_ret (tr_op op_oAdd (tq_var 2) (TrE.q tr_int))))
  tb_nil)
  (tb_cons (ts_setO 6 (tr_lst ta_nil))
  (tb_cons (ts_for (ti_rg2 (tqa_cons (TrE.q (tr_op op_oAdd (tq_var 2) (TrE.q tr_int))) (tqa_cons (TrE.q (tr_cb cr_bMin (tqa_cons (TrE.q (tr_op op_oAdd (TrE.q (tr_op op_oAdd (tq_var 2) (TrE.q tr_int))) (TrE.q (tr_ix ix_oIx (tq_var 5) (TrE.q tr_int))))) (tqa_cons (TrE.q (tr_op op_oAdd (TrE.q (tr_lenQ (tq_var 0) P.g_len)) (TrE.q tr_int))) tqa_nil)) P.g_min)) tqa_nil)) P.g_range) (tg_name 7)
  (tb_cons (ts_set 8 (tr_if (tt_cmp op_oLt (tq_var 7) (TrE.q (tr_lenQ (tq_var 0) P.g_len))) (tr_ct cr_bTuple (tqa_cons (TrE.q (TrN.fz (tn_lc (own := [("word", 9)]) (TrI.q (ti_seq (tr_md PySem.F.plainAttrs_str PySem.F.slot_str_split PySem.F.type_str_split mt_mSplit (TrE.q (tr_ix ix_oIx (tq_var 0) (tq_var 7))) (tqa_cons (TrE.q tr_str) tqa_nil)))) (by kernel_rfl) (fun _ _ _ _ _ => (tg_name 9)) (fun _ _ _ _ _ => tts_nil) (fun _ _ _ _ _ => (tr_call F__law_number (ta_cons (tr_var 9) ta_nil))) (by decide)))) tqa_nil) P.g_tuple) (tr_tup ta_nil)))
  (tb_cons (ts_if (TrW.tt (tw_or (tt_not (tt_val (tr_call F__law_is_row (ta_cons (tr_var 8) (ta_cons (tr_ix ix_oIx (tq_var 1) (TrE.q tr_int)) (ta_cons (tr_ix ix_oIx (tq_var 5) (TrE.q tr_int)) ta_nil)))))) (tw_or1 (TrW.tt (tw_and (tt_cmp op_oNe (tq_var 6) (TrE.q (TrN.fz (tr_lst ta_nil)))) (tw_and1 (tt_cmp op_oLe (tq_var 8) (TrE.q (tr_ix ix_oIx (tq_var 6) (TrE.q (tr_neg tr_int)))))))))))
  (tb_one (ts_ret (tr_op op_oAdd (tq_var 7) (TrE.q tr_int))))
  tb_nil)
  (tb_one (ts_mutO 6 PySem.F.plainAttrs_list PySem.F.slot_list_append PySem.F.type_list_append mt_uApp (ta_cons (tr_var 8) ta_nil))))))
  (tb_cons (ts_fz 6 (ts_mutO 3 PySem.F.plainAttrs_list PySem.F.slot_list_append PySem.F.type_list_append mt_uApp (ta_cons (TrN.fz (tr_lst (ta_cons (tr_ix ix_oIx (tq_var 5) (TrE.q tr_int)) (ta_cons (tr_var 6) ta_nil)))) ta_nil)))
  (tb_one (ts_set 2 (tr_op op_oAdd (TrE.q (tr_op op_oAdd (tq_var 2) (TrE.q tr_int))) (TrE.q (tr_ix ix_oIx (tq_var 5) (TrE.q tr_int)))))))))))))
  (tb_cons (ts_if (TrW.tt (tw_or (tt_cmp op_oLt (TrE.q (tr_lenQ (tq_var 3) P.g_len)) (TrE.q (tr_ix ix_oIx (tq_var 1) (TrE.q tr_int)))) (tw_or1 (tt_cmp op_oLt (tq_var 2) (TrE.q (tr_lenQ (tq_var 0) P.g_len))))))
  (tb_one (ts_ret (tr_op op_oAdd (tq_var 2) (TrE.q tr_int))))
  tb_nil)
  (tb_one (ts_fz 3 (ts_ret (TrN.fz (tr_lst (ta_cons (tr_ix ix_oIx (tq_var 1) (TrE.q tr_int)) (ta_cons (tr_var 3) ta_nil))))))))))))
theorem d__law_puzzle_due {T : Tb} (P : Pg T) (F__law_headed : Fn T 2 "_law_headed" ps__law_headed m__law_headed) (F__law_number : Fn T 1 "_law_number" ps__law_number m__law_number) (F__law_is_row : Fn T 2 "_law_is_row" ps__law_is_row m__law_is_row) : Der T 2 N__law_puzzle_due "_law_puzzle_due" s__law_puzzle_due f__law_puzzle_due := fun f cdv A outer s H E =>
  (tb_cons (ts_par 2 3 (TrE.x (tr_call F__law_headed (ta_cons (tr_ix ix_oIx (tq_var 0) (TrE.q tr_int)) (ta_cons (TrN.fz (tr_lst (ta_cons tr_str (ta_cons tr_str (ta_cons tr_str ta_nil))))) ta_nil)))) (TrN.x (tr_lst ta_nil)))
  (tb_cons (ts_if (TrW.tt (tw_or (tt_cmp op_oEq (tq_var 2) (TrE.q (TrN.fz (tr_lst ta_nil)))) (tw_or1 (tt_cmp op_oGt (TrE.q (tr_ix ix_oIx (tq_var 2) (TrE.q tr_int))) (TrE.q tr_int)))))
  (tb_one (ts_ret tr_int))
  tb_nil)
  (tb_cons (ts_for (ti_rg2 (tqa_cons (TrE.q tr_int) (tqa_cons (TrE.q (tr_op op_oAdd (TrE.q (tr_cb cr_bMin (tqa_cons (TrE.q (tr_ix ix_oIx (tq_var 2) (TrE.q tr_int))) (tqa_cons (TrE.q (tr_lenQ (tq_var 0) P.g_len)) tqa_nil)) P.g_min)) (TrE.q tr_int))) tqa_nil)) P.g_range) (tg_name 4)
  (tb_cons (ts_set 5 (tr_if (tt_cmp op_oLt (tq_var 4) (TrE.q (tr_lenQ (tq_var 0) P.g_len))) (tr_md PySem.F.plainAttrs_str PySem.F.slot_str_split PySem.F.type_str_split mt_mSplit (TrE.q (tr_ix ix_oIx (tq_var 0) (tq_var 4))) (tqa_cons (TrE.q tr_str) tqa_nil)) (TrN.fz (tr_lst ta_nil))))
  (tb_cons (ts_if (TrW.tt (tw_or (tt_cmp op_oLt (TrE.q (tr_lenQ (tq_var 5) P.g_len)) (TrE.q tr_int)) (tw_or1 (tt_cmp op_oNe (TrE.q (TrN.fz (tr_lst (ta_cons (tr_ix ix_oIx (tq_var 5) (TrE.q tr_int)) (ta_cons (tr_ix ix_oIx (tq_var 5) (TrE.q tr_int)) ta_nil))))) (TrE.q (TrN.fz (tr_lst (ta_cons tr_str (ta_cons tr_str ta_nil)))))))))
  (tb_one (ts_ret (tr_op op_oAdd (tq_var 4) (TrE.q tr_int))))
  tb_nil)
  (tb_cons (ts_par 6 7 (TrE.x (tr_call F__law_number (ta_cons (tr_ix ix_oIx (tq_var 5) (TrE.q tr_int)) ta_nil))) (TrE.x (tr_ct cr_bTuple (tqa_cons (TrE.q (TrN.fz (tn_lc (own := [("word", 8)]) (TrI.q (ti_seq (tr_sl (tq_var 5) (to_some tr_int) to_none))) (by kernel_rfl) (fun _ _ _ _ _ => (tg_name 8)) (fun _ _ _ _ _ => tts_nil) (fun _ _ _ _ _ => (tr_call F__law_number (ta_cons (tr_var 8) ta_nil))) (by decide)))) tqa_nil) P.g_tuple)))
  (tb_cons (ts_if (TrW.tt (tw_or (tt_not (tt_chain op_oLe op_oLt (TrE.q tr_int) (tq_var 6) (TrE.q (tr_lenQ (tq_var 1) P.g_len)))) (tw_or1 (tt_not (tt_val (tr_call F__law_is_row (ta_cons (tr_var 7) (ta_cons (tr_ix ix_oIx (tq_var 2) (TrE.q tr_int)) (ta_cons (tr_ix ix_oIx (TrE.q (tr_ix ix_oIx (tq_var 1) (tq_var 6))) (TrE.q tr_int)) ta_nil)))))))))
  (tb_one (ts_ret (tr_op op_oAdd (tq_var 4) (TrE.q tr_int))))
  tb_nil)
  (tb_one (ts_mutO 3 PySem.F.plainAttrs_list PySem.F.slot_list_append PySem.F.type_list_append mt_uApp (ta_cons (tr_tup (ta_cons (tr_var 6) (ta_cons (tr_var 7) ta_nil))) ta_nil))))))))
  (tb_one (ts_fz 3 (ts_ret (tr_if (tt_cmp op_oEq (TrE.q (tr_lenQ (tq_var 0) P.g_len)) (TrE.q (tr_op op_oAdd (TrE.q (tr_ix ix_oIx (tq_var 2) (TrE.q tr_int))) (TrE.q tr_int)))) (TrN.fz (tr_lst (ta_cons (tr_ix ix_oIx (tq_var 2) (TrE.q tr_int)) (ta_cons (tr_var 3) ta_nil)))) (tr_op op_oAdd (TrE.q (tr_cb cr_bMin (tqa_cons (TrE.q (tr_op op_oAdd (TrE.q (tr_ix ix_oIx (tq_var 2) (TrE.q tr_int))) (TrE.q tr_int))) (tqa_cons (TrE.q (tr_lenQ (tq_var 0) P.g_len)) tqa_nil)) P.g_min)) (TrE.q tr_int)))))))))
theorem d_Table_len {T : Tb} (P : Pg T) : Der T 0 N_Table_len "Table.__len__" s_Table_len f_Table_len := fun f cdv A outer s H E =>
  (tb_one (ts_ret (tr_lenQ (TrE.q (tr_fld P.acc_held (tq_var 0))) P.g_len)))
theorem d_Book_len {T : Tb} (P : Pg T) : Der T 0 N_Book_len "Book.__len__" s_Book_len f_Book_len := fun f cdv A outer s H E =>
  (tb_one (ts_ret (tr_lenQ (TrE.q (tr_fld P.acc_kept_tables (tq_var 0))) P.g_len)))
theorem d_Puzzle_len {T : Tb} (P : Pg T) : Der T 0 N_Puzzle_len "Puzzle.__len__" s_Puzzle_len f_Puzzle_len := fun f cdv A outer s H E =>
  (tb_one (ts_ret (tr_lenQ (TrE.q (tr_fld P.acc_kept_rows (tq_var 0))) P.g_len)))
theorem d_Book_tables {T : Tb} (P : Pg T) : Der T 0 N_Book_tables "Book.tables" s_Book_tables f_Book_tables := fun f cdv A outer s H E =>
  (tb_one (ts_ret (TrN.fz (tn_ct cr_bList (tqa_cons (TrE.q (tr_fld P.acc_kept_tables (tq_var 0))) tqa_nil) P.g_list))))
theorem d_Table_rows {T : Tb} (P : Pg T) : Der T 0 N_Table_rows "Table.rows" s_Table_rows f_Table_rows := fun f cdv A outer s H E =>
  (tb_one (ts_ret (TrN.fz (tn_ct cr_bList (tqa_cons (TrE.q (tr_fld P.acc_held (tq_var 0))) tqa_nil) P.g_list))))
theorem d_Puzzle_rows {T : Tb} (P : Pg T) : Der T 0 N_Puzzle_rows "Puzzle.rows" s_Puzzle_rows f_Puzzle_rows := fun f cdv A outer s H E =>
  (tb_one (ts_ret (TrN.fz (tn_ct cr_bList (tqa_cons (TrE.q (tr_fld P.acc_kept_rows (tq_var 0))) tqa_nil) P.g_list))))
theorem d_written {T : Tb} (P : Pg T) : Der T 0 N_written "written" s_written f_written := fun f cdv A outer s H E =>
  (tb_one (ts_ret (tr_md PySem.F.plainAttrs_str PySem.F.slot_str_join PySem.F.type_str_join mt_mJoin (TrE.q tr_str) (tqa_cons (TrE.q (TrN.fz (tn_lc (own := [("value", 1)]) (TrI.q (ti_seq (tr_var 0))) (by kernel_rfl) (fun _ _ _ _ _ => (tg_name 1)) (fun _ _ _ _ _ => tts_nil) (fun _ _ _ _ _ => (tr_ct cr_bStr (tqa_cons (tq_var 1) tqa_nil) P.g_str)) (by decide)))) tqa_nil))))
theorem d_show_book {T : Tb} (P : Pg T) (D_len_Table_Book_Puzzle : Duns T 1 "__len__" ms_len_Table_Book_Puzzle) (P_tables_Book : Prps T 1 "tables" ms_tables_Book) (P_rows_Table_Puzzle : Prps T 1 "rows" ms_rows_Table_Puzzle) (F_written : Fn T 1 "written" ps_written m_written) : Der T 2 N_show_book "show_book" s_show_book f_show_book := fun f cdv A outer s H E =>
  (tb_cons (ts_setO 1 (tr_lst (ta_cons (tr_joined (tj_cons tr_str (tj_cons (tr_fmt (tr_fld P.acc_width (tq_var 0))) (tj_cons tr_str (tj_cons (tr_fmt (tr_len D_len_Table_Book_Puzzle (tr_var 0) P.g_len)) tj_nil))))) ta_nil)))
  (tb_cons (ts_for (ti_seq (tr_prop (Prps.at P_tables_Book (by decide)) (tr_var 0))) (tg_name 2)
  (tb_cons (ts_mutO 1 PySem.F.plainAttrs_list PySem.F.slot_list_append PySem.F.type_list_append mt_uApp (ta_cons (tr_joined (tj_cons tr_str (tj_cons (tr_fmt (tr_fld P.acc_arity (tq_var 2))) (tj_cons tr_str (tj_cons (tr_fmt (tr_len D_len_Table_Book_Puzzle (tr_var 2) P.g_len)) tj_nil))))) ta_nil))
  (tb_one (ts_setO 1 (tr_opN op_oCat (tq_var 1) (TrE.q (TrN.fz (tn_lc (own := [("row", 3)]) (TrI.q (ti_seq (tr_prop (Prps.at P_rows_Table_Puzzle (by decide)) (tr_var 2)))) (by kernel_rfl) (fun _ _ _ _ _ => (tg_name 3)) (fun _ _ _ _ _ => tts_nil) (fun _ _ _ _ _ => (tr_call F_written (ta_cons (tr_var 3) ta_nil))) (by decide)))))))))
  (tb_one (ts_ret (tr_md PySem.F.plainAttrs_str PySem.F.slot_str_join PySem.F.type_str_join mt_mJoin (TrE.q tr_str) (tqa_cons (tq_var 1) tqa_nil))))))
theorem d_lines_of {T : Tb} (P : Pg T) (C_BadText : ErC T 1 3 "BadText" "line") : DerX T 2 N_lines_of "lines_of" s_lines_of f_lines_of := fun f cdv A outer s H E =>
  (bx_cons (sx_if (tt_not (tt_val (tr_isi P.isi_str (tq_var 0) P.g_isinstance)))
  (bx_one (sx_raise C_BadText tr_int))
  bx_nil)
  (bx_one (sx_val (ts_ret (TrN.fz (tn_lc (own := [("line", 1)]) (TrI.q (ti_seq (tr_md PySem.F.plainAttrs_str PySem.F.slot_str_split PySem.F.type_str_split mt_mSplit (tq_var 0) (tqa_cons (TrE.q tr_str) tqa_nil)))) (by kernel_rfl) (fun _ _ _ _ _ => (tg_name 1)) (fun _ _ _ _ _ => tts_nil) (fun _ _ _ _ _ => (tr_md PySem.F.plainAttrs_str PySem.F.slot_str_split PySem.F.type_str_split mt_mSplit (tq_var 1) (tqa_cons (TrE.q tr_str) tqa_nil))) (by decide)))))))
theorem d_number_of {T : Tb} (P : Pg T) : Der T 0 N_number_of "number_of" s_number_of f_number_of := fun f cdv A outer s H E =>
  (tb_cons (ts_if (TrW.tt (tw_or (tt_cmp op_oEq (tq_var 0) (TrE.q tr_str)) (tw_or (tt_cmp op_oGt (TrE.q (tr_lenQ (tq_var 0) P.g_len)) (TrE.q tr_int)) (tw_or1 (tt_not (tt_val (tr_cb cr_bAll (tqa_cons (TrE.q (TrN.fz (tn_lc (own := [("sign", 1)]) (TrI.q (ti_str (tr_var 0))) (by kernel_rfl) (fun _ _ _ _ _ => (tg_name 1)) (fun _ _ _ _ _ => tts_nil) (fun _ _ _ _ _ => (tr_cmp (op_oInQ false) (tq_var 1) (TrE.q (tr_gstr P.c_DIGITS)))) (by decide)))) tqa_nil) P.g_all)))))))
  (tb_one (ts_ret tr_non))
  tb_nil)
  (tb_one (ts_ret (tr_if (tt_cmp op_oEq (TrE.q (tr_ct cr_bStr (tqa_cons (TrE.q (tr_ct cr_bIntS (tqa_cons (tq_var 0) tqa_nil) P.g_int)) tqa_nil) P.g_str)) (tq_var 0)) (tr_ct cr_bIntS (tqa_cons (tq_var 0) tqa_nil) P.g_int) tr_non))))
theorem d_headed {T : Tb} (P : Pg T) (C_BadText : ErC T 1 3 "BadText" "line") (F_number_of : Fn T 1 "number_of" ps_number_of m_number_of) : DerX T 2 N_headed "headed" s_headed f_headed := fun f cdv A outer s H E =>
  (bx_cons (sx_val (ts_set 3 (tr_if (tt_cmp op_oLt (tq_var 1) (TrE.q (tr_lenQ (tq_var 0) P.g_len))) (tr_ix ix_oIx (tq_var 0) (tq_var 1)) (TrN.fz (tr_lst ta_nil)))))
  (bx_cons (sx_if (TrW.tt (tw_or (tt_cmp op_oNe (TrE.q (tr_lenQ (tq_var 3) P.g_len)) (TrE.q tr_int)) (tw_or1 (tt_cmp op_oNe (TrE.q (TrN.fz (tr_lst (ta_cons (tr_ix ix_oIx (tq_var 3) (TrE.q tr_int)) (ta_cons (tr_ix ix_oIx (tq_var 3) (TrE.q tr_int)) (ta_cons (tr_ix ix_oIx (tq_var 3) (TrE.q tr_int)) ta_nil)))))) (tq_var 2)))))
  (bx_one (sx_raise C_BadText (tr_op op_oAdd (tq_var 1) (TrE.q tr_int))))
  bx_nil)
  (bx_cons (sx_val (ts_set 4 (tr_tup (ta_cons (tr_call F_number_of (ta_cons (tr_ix ix_oIx (tq_var 3) (TrE.q tr_int)) ta_nil)) (ta_cons (tr_call F_number_of (ta_cons (tr_ix ix_oIx (tq_var 3) (TrE.q tr_int)) ta_nil)) ta_nil)))))
  (bx_cons (sx_if (tt_cmp (op_oInQ false) (TrE.q tr_non) (tq_var 4))
  (bx_one (sx_raise C_BadText (tr_op op_oAdd (tq_var 1) (TrE.q tr_int))))
  bx_nil)
  (bx_one (sx_val (ts_ret (tr_var 4))))))))
theorem d_numbers_in {T : Tb} (P : Pg T) (F_number_of : Fn T 1 "number_of" ps_number_of m_number_of) : Der T 1 N_numbers_in "numbers_in" s_numbers_in f_numbers_in := fun f cdv A outer s H E =>
  (tb_one (ts_ret (tr_ct cr_bTuple (tqa_cons (TrE.q (TrN.fz (tn_lc (own := [("word", 1)]) (TrI.q (ti_seq (tr_var 0))) (by kernel_rfl) (fun _ _ _ _ _ => (tg_name 1)) (fun _ _ _ _ _ => tts_nil) (fun _ _ _ _ _ => (tr_call F_number_of (ta_cons (tr_var 1) ta_nil))) (by decide)))) tqa_nil) P.g_tuple)))
theorem d_table_at {T : Tb} (P : Pg T) (FX_headed : FnX T 3 "headed" ps_headed m_headed) (F_within : Fn T 1 "within" ps_within m_within) (C_BadText : ErC T 1 3 "BadText" "line") (F_numbers_in : Fn T 2 "numbers_in" ps_numbers_in m_numbers_in) (F_is_row : Fn T 2 "is_row" ps_is_row m_is_row) (K_Table : Mkr T 3 0 "Table" ps_Table_init m_Table_init) : DerX T 4 N_table_at "table_at" s_table_at f_table_at := fun f cdv A outer s H E =>
  (bx_cons (sx_asg (ex_call FX_headed (ta_cons (tr_var 0) (ta_cons (tr_var 1) (ta_cons (TrN.fz (tr_lst (ta_cons tr_str (ta_cons tr_str (ta_cons tr_str ta_nil))))) ta_nil)))) (tg_seq (tgs_cons (tg_name 3) (tgs_cons (tg_name 4) tgs_nil))))
  (bx_cons (sx_if (tt_not (tt_val (tr_call F_within (ta_cons (tr_var 3) (ta_cons tr_int (ta_cons (tr_gint P.c_MOST_ARITY) ta_nil))))))
  (bx_one (sx_raise C_BadText (tr_op op_oAdd (tq_var 1) (TrE.q tr_int))))
  bx_nil)
  (bx_cons (sx_val (ts_setO 5 (tr_lst ta_nil)))
  (bx_cons (sx_for (ti_rg2 (tqa_cons (TrE.q (tr_op op_oAdd (tq_var 1) (TrE.q tr_int))) (tqa_cons (TrE.q (tr_op op_oAdd (TrE.q (tr_op op_oAdd (tq_var 1) (TrE.q tr_int))) (tq_var 4))) tqa_nil)) P.g_range) (tg_name 6)
  (bx_cons (sx_val (ts_set 7 (tr_if (tt_cmp op_oLt (tq_var 6) (TrE.q (tr_lenQ (tq_var 0) P.g_len))) (tr_call F_numbers_in (ta_cons (tr_ix ix_oIx (tq_var 0) (tq_var 6)) ta_nil)) (tr_tup ta_nil))))
  (bx_cons (sx_if (TrW.tt (tw_or (tt_not (tt_val (tr_call F_is_row (ta_cons (tr_var 7) (ta_cons (tr_var 2) (ta_cons (tr_var 3) ta_nil)))))) (tw_or1 (TrW.tt (tw_and (tt_cmp op_oNe (tq_var 5) (TrE.q (TrN.fz (tr_lst ta_nil)))) (tw_and1 (tt_cmp op_oLe (tq_var 7) (TrE.q (tr_ix ix_oIx (tq_var 5) (TrE.q (tr_neg tr_int)))))))))))
  (bx_one (sx_raise C_BadText (tr_op op_oAdd (tq_var 6) (TrE.q tr_int))))
  bx_nil)
  (bx_one (sx_val (ts_mutO 5 PySem.F.plainAttrs_list PySem.F.slot_list_append PySem.F.type_list_append mt_uApp (ta_cons (tr_var 7) ta_nil)))))) (fun _ => pow_BXX))
  (bx_one (sx_val (ts_fz 5 (ts_ret (tr_tup (ta_cons (TrN.fz (tr_make K_Table (ta_cons (tr_var 2) (ta_cons (tr_var 3) (ta_cons (tr_var 5) ta_nil))))) (ta_cons (tr_op op_oAdd (TrE.q (tr_op op_oAdd (tq_var 1) (TrE.q tr_int))) (tq_var 4)) ta_nil)))))))))))
theorem d_read_book {T : Tb} (P : Pg T) (FX_lines_of : FnX T 3 "lines_of" ps_lines_of m_lines_of) (FX_headed : FnX T 3 "headed" ps_headed m_headed) (F_within : Fn T 1 "within" ps_within m_within) (C_BadText : ErC T 1 3 "BadText" "line") (FX_table_at : FnX T 5 "table_at" ps_table_at m_table_at) (K_Book : Mkr T 3 1 "Book" ps_Book_init m_Book_init) : DerX T 5 N_read_book "read_book" s_read_book f_read_book := fun f cdv A outer s H E =>
  (bx_cons (sx_set 1 (ex_call FX_lines_of (ta_cons (tr_var 0) ta_nil)))
  (bx_cons (sx_asg (ex_call FX_headed (ta_cons (tr_var 1) (ta_cons tr_int (ta_cons (TrN.fz (tr_lst (ta_cons tr_str (ta_cons tr_str (ta_cons tr_str ta_nil))))) ta_nil)))) (tg_seq (tgs_cons (tg_name 2) (tgs_cons (tg_name 3) tgs_nil))))
  (bx_cons (sx_if (tt_not (tt_val (tr_call F_within (ta_cons (tr_var 2) (ta_cons tr_int (ta_cons (tr_gint P.c_MOST_WIDTH) ta_nil))))))
  (bx_one (sx_raise C_BadText tr_int))
  bx_nil)
  (bx_cons (sx_val (ts_par 4 5 (TrN.x (tr_lst ta_nil)) (TrE.x tr_int)))
  (bx_cons (sx_for (ti_rg1 (tqa_cons (tq_var 3) tqa_nil) P.g_range) (tg_name 6)
  (bx_cons (sx_asg (ex_call FX_table_at (ta_cons (tr_var 1) (ta_cons (tr_var 5) (ta_cons (tr_var 2) ta_nil)))) (tg_seq (tgs_cons (tg_name 7) (tgs_cons (tg_name 5) tgs_nil))))
  (bx_one (sx_val (ts_mutO 4 PySem.F.plainAttrs_list PySem.F.slot_list_append PySem.F.type_list_append mt_uApp (ta_cons (tr_var 7) ta_nil))))) (fun _ => pow_BXX))
  (bx_cons (sx_if (tt_cmp op_oNe (tq_var 5) (TrE.q (tr_lenQ (tq_var 1) P.g_len)))
  (bx_one (sx_raise C_BadText (tr_op op_oAdd (tq_var 5) (TrE.q tr_int))))
  bx_nil)
  (bx_one (sx_val (ts_fz 4 (ts_ret (TrN.fz (tr_make K_Book (ta_cons (tr_var 2) (ta_cons (tr_var 4) ta_nil))))))))))))))
theorem d_show_puzzle {T : Tb} (P : Pg T) (D_len_Table_Book_Puzzle : Duns T 1 "__len__" ms_len_Table_Book_Puzzle) (P_rows_Table_Puzzle : Prps T 1 "rows" ms_rows_Table_Puzzle) (F_written : Fn T 1 "written" ps_written m_written) : Der T 2 N_show_puzzle "show_puzzle" s_show_puzzle f_show_puzzle := fun f cdv A outer s H E =>
  (tb_cons (ts_setO 1 (tr_lst (ta_cons (tr_joined (tj_cons tr_str (tj_cons (tr_fmt (tr_fld P.acc_places (tq_var 0))) (tj_cons tr_str (tj_cons (tr_fmt (tr_len D_len_Table_Book_Puzzle (tr_var 0) P.g_len)) tj_nil))))) ta_nil)))
  (tb_cons (ts_for (ti_seq (tr_prop (Prps.at P_rows_Table_Puzzle (by decide)) (tr_var 0))) (tg_seq (tgs_cons (tg_name 2) (tgs_cons (tg_name 3) tgs_nil)))
  (tb_one (ts_mutO 1 PySem.F.plainAttrs_list PySem.F.slot_list_append PySem.F.type_list_append mt_uApp (ta_cons (tr_joined (tj_cons tr_str (tj_cons (tr_fmt (tr_var 2)) (tj_cons tr_str (tj_cons (tr_fmt (tr_call F_written (ta_cons (tr_var 3) ta_nil))) tj_nil))))) ta_nil))))
  (tb_one (ts_ret (tr_md PySem.F.plainAttrs_str PySem.F.slot_str_join PySem.F.type_str_join mt_mJoin (TrE.q tr_str) (tqa_cons (tq_var 1) tqa_nil))))))
theorem d_Book_getitem {T : Tb} (P : Pg T) (F_within : Fn T 1 "within" ps_within m_within) : Der T 1 N_Book_getitem "Book.__getitem__" s_Book_getitem f_Book_getitem := fun f cdv A outer s H E =>
  (tb_cons (ts_if (tt_not (tt_val (tr_call F_within (ta_cons (tr_var 1) (ta_cons tr_int (ta_cons (tr_op op_oSub (TrE.q (tr_lenQ (TrE.q (tr_fld P.acc_kept_tables (tq_var 0))) P.g_len)) (TrE.q tr_int)) ta_nil))))))
  (tb_one ts_never)
  tb_nil)
  (tb_one (ts_ret (tr_ix ix_oIx (TrE.q (tr_fld P.acc_kept_tables (tq_var 0))) (tq_var 1)))))
theorem d_is_use {T : Tb} (P : Pg T) (F_within : Fn T 1 "within" ps_within m_within) (D_len_Table_Book_Puzzle : Duns T 1 "__len__" ms_len_Table_Book_Puzzle) (F_is_row : Fn T 2 "is_row" ps_is_row m_is_row) (D_getitem_Book : Duns T 2 "__getitem__" ms_getitem_Book) : Der T 3 N_is_use "is_use" s_is_use f_is_use := fun f cdv A outer s H E =>
  (tb_cons (ts_if (TrW.tt (tw_or (tt_not (tt_val (tr_isi P.isi_tuple (tq_var 0) P.g_isinstance))) (tw_or (tt_cmp op_oNe (TrE.q (tr_lenQ (tq_var 0) P.g_len)) (TrE.q tr_int)) (tw_or1 (tt_not (tt_val (tr_call F_within (ta_cons (tr_ix ix_oIx (tq_var 0) (TrE.q tr_int)) (ta_cons tr_int (ta_cons (tr_op op_oSub (TrE.q (tr_len D_len_Table_Book_Puzzle (tr_var 1) P.g_len)) (TrE.q tr_int)) ta_nil))))))))))
  (tb_one (ts_ret tr_bl))
  tb_nil)
  (tb_one (ts_ret (tr_call F_is_row (ta_cons (tr_ix ix_oIx (tq_var 0) (TrE.q tr_int)) (ta_cons (tr_var 2) (ta_cons (tr_fld P.acc_arity (TrE.q (tr_ixP (ix_oIxA D_getitem_Book (by decide)) (tr_var 1) (tr_ix ix_oIx (tq_var 0) (TrE.q tr_int))))) ta_nil)))))))
theorem d_Puzzle_init {T : Tb} (P : Pg T) (F_within : Fn T 1 "within" ps_within m_within) (F_is_use : Fn T 4 "is_use" ps_is_use m_is_use) : Der T 4 N_Puzzle_init "Puzzle.__init__" s_Puzzle_init f_Puzzle_init := fun f cdv A outer s H E =>
  (tb_cons (ts_if (tt_not (tt_val (tr_call F_within (ta_cons (tr_var 2) (ta_cons tr_int (ta_cons (tr_gint P.c_MOST_PLACES) ta_nil))))))
  (tb_one ts_never)
  tb_nil)
  (tb_cons (ts_if (tt_not (tt_val (tr_isi P.isi_list (tq_var 3) P.g_isinstance)))
  (tb_one ts_never)
  tb_nil)
  (tb_cons (ts_for (ti_enum (ta_cons (tr_var 3) ta_nil) P.g_enumerate) (tg_seq (tgs_cons (tg_name 4) (tgs_cons (tg_name 5) tgs_nil)))
  (tb_one (ts_if (tt_not (tt_val (tr_call F_is_use (ta_cons (tr_var 5) (ta_cons (tr_var 1) (ta_cons (tr_var 2) ta_nil))))))
  (tb_one ts_never)
  tb_nil)))
  (tb_cons (ts_fldO 0 P.acc_book (tr_var 1) P.flen)
  (tb_cons (ts_fldO 0 P.acc_places (tr_var 2) P.flen)
  (tb_one (ts_fldO 0 P.acc_kept_rows (TrN.fz (tn_ct cr_bList (tqa_cons (tq_var 3) tqa_nil) P.g_list)) P.flen)))))))
theorem d_read_puzzle {T : Tb} (P : Pg T) (FX_lines_of : FnX T 3 "lines_of" ps_lines_of m_lines_of) (FX_headed : FnX T 3 "headed" ps_headed m_headed) (C_BadText : ErC T 1 3 "BadText" "line") (F_number_of : Fn T 1 "number_of" ps_number_of m_number_of) (F_numbers_in : Fn T 2 "numbers_in" ps_numbers_in m_numbers_in) (F_is_use : Fn T 4 "is_use" ps_is_use m_is_use) (K_Puzzle : Mkr T 5 2 "Puzzle" ps_Puzzle_init m_Puzzle_init) : DerX T 6 N_read_puzzle "read_puzzle" s_read_puzzle f_read_puzzle := fun f cdv A outer s H E =>
  (bx_cons (sx_set 2 (ex_call FX_lines_of (ta_cons (tr_var 0) ta_nil)))
  (bx_cons (sx_asg (ex_call FX_headed (ta_cons (tr_var 2) (ta_cons tr_int (ta_cons (TrN.fz (tr_lst (ta_cons tr_str (ta_cons tr_str (ta_cons tr_str ta_nil))))) ta_nil)))) (tg_seq (tgs_cons (tg_name 3) (tgs_cons (tg_name 4) tgs_nil))))
  (bx_cons (sx_if (tt_cmp op_oGt (tq_var 3) (TrE.q (tr_gint P.c_MOST_PLACES)))
  (bx_one (sx_raise C_BadText tr_int))
  bx_nil)
  (bx_cons (sx_val (ts_setO 5 (tr_lst ta_nil)))
  (bx_cons (sx_for (ti_rg2 (tqa_cons (TrE.q tr_int) (tqa_cons (TrE.q (tr_op op_oAdd (tq_var 4) (TrE.q tr_int))) tqa_nil)) P.g_range) (tg_name 6)
  (bx_cons (sx_val (ts_set 7 (tr_if (tt_cmp op_oLt (tq_var 6) (TrE.q (tr_lenQ (tq_var 2) P.g_len))) (tr_ix ix_oIx (tq_var 2) (tq_var 6)) (TrN.fz (tr_lst ta_nil)))))
  (bx_cons (sx_if (TrW.tt (tw_or (tt_cmp op_oNe (TrE.q (tr_sl (tq_var 7) to_none (to_some tr_int))) (TrE.q (TrN.fz (tr_lst (ta_cons tr_str ta_nil))))) (tw_or1 (tt_cmp op_oNe (TrE.q (tr_sl (tq_var 7) (to_some tr_int) (to_some tr_int))) (TrE.q (TrN.fz (tr_lst (ta_cons tr_str ta_nil))))))))
  (bx_one (sx_raise C_BadText (tr_op op_oAdd (tq_var 6) (TrE.q tr_int))))
  bx_nil)
  (bx_cons (sx_val (ts_set 8 (tr_tup (ta_cons (tr_call F_number_of (ta_cons (tr_ix ix_oIx (tq_var 7) (TrE.q tr_int)) ta_nil)) (ta_cons (tr_call F_numbers_in (ta_cons (tr_sl (tq_var 7) (to_some tr_int) to_none) ta_nil)) ta_nil)))))
  (bx_cons (sx_if (tt_not (tt_val (tr_call F_is_use (ta_cons (tr_var 8) (ta_cons (tr_var 1) (ta_cons (tr_var 3) ta_nil))))))
  (bx_one (sx_raise C_BadText (tr_op op_oAdd (tq_var 6) (TrE.q tr_int))))
  bx_nil)
  (bx_one (sx_val (ts_mutO 5 PySem.F.plainAttrs_list PySem.F.slot_list_append PySem.F.type_list_append mt_uApp (ta_cons (tr_var 8) ta_nil)))))))) (fun _ => pow_BXX))
  (bx_cons (sx_if (tt_cmp op_oNe (TrE.q (tr_op op_oAdd (tq_var 4) (TrE.q tr_int))) (TrE.q (tr_lenQ (tq_var 2) P.g_len)))
  (bx_one (sx_raise C_BadText (tr_op op_oAdd (tq_var 4) (TrE.q tr_int))))
  bx_nil)
  (bx_one (sx_val (ts_fz 5 (ts_ret (TrN.fz (tr_make K_Puzzle (ta_cons (tr_var 1) (ta_cons (tr_var 3) (ta_cons (tr_var 5) ta_nil)))))))))))))))
theorem d__law_told {T : Tb} (P : Pg T) (C_BadText : ErC T 1 3 "BadText" "line") (F_show_book : Fn T 3 "show_book" ps_show_book m_show_book) (FX_read_book : FnX T 6 "read_book" ps_read_book m_read_book) (F_show_puzzle : Fn T 3 "show_puzzle" ps_show_puzzle m_show_puzzle) (FX_read_puzzle : FnX T 7 "read_puzzle" ps_read_puzzle m_read_puzzle) : Der T 7 N__law_told "_law_told" s__law_told f__law_told := fun f cdv A outer s H E =>
  (tb_one (ts_tryRet (i := 3) C_BadText (fun _ _ => (ex_if (tt_cmp op_oEq (tq_var 0) (TrE.q tr_int)) (ex_call1 F_show_book (ex_call FX_read_book (ta_cons (tr_var 1) ta_nil))) (ex_call1 F_show_puzzle (ex_call FX_read_puzzle (ta_cons (tr_var 1) (ta_cons (tr_var 2) ta_nil)))))) (hpv := fun _ _ _ => pv 3)))
theorem d_law {T : Tb} (P : Pg T) (F__law_feed : Fn T 1 "_law_feed" ps__law_feed m__law_feed) (F__law_width : Fn T 3 "_law_width" ps__law_width m__law_width) (F__law_drawn_tables : Fn T 5 "_law_drawn_tables" ps__law_drawn_tables m__law_drawn_tables) (F__law_program_book : Fn T 6 "_law_program_book" ps__law_program_book m__law_program_book) (F__law_take : Fn T 1 "_law_take" ps__law_take m__law_take) (F__law_uses : Fn T 2 "_law_uses" ps__law_uses m__law_uses) (F__law_lines_of : Fn T 1 "_law_lines_of" ps__law_lines_of m__law_lines_of) (F__law_use_lines : Fn T 1 "_law_use_lines" ps__law_use_lines m__law_use_lines) (F__law_pick : Fn T 2 "_law_pick" ps__law_pick m__law_pick) (F__law_changed : Fn T 3 "_law_changed" ps__law_changed m__law_changed) (F__law_book_due : Fn T 3 "_law_book_due" ps__law_book_due m__law_book_due) (F__law_puzzle_due : Fn T 3 "_law_puzzle_due" ps__law_puzzle_due m__law_puzzle_due) (F__law_told : Fn T 8 "_law_told" ps__law_told m__law_told) : Der T 8 N_law "law" s_law f_law := fun f cdv A outer s H E =>
  (tb_cons (ts_for (ti_rg1 (tqa_cons (TrE.q (tr_cb cr_bMax (tqa_cons (TrE.q tr_int) (tqa_cons (TrE.q (tr_cb cr_bMin (tqa_cons (TrE.q tr_int) (tqa_cons (TrE.q (tr_lenQ (tq_var 0) P.g_len)) tqa_nil)) P.g_min)) tqa_nil)) P.g_max)) tqa_nil) P.g_range) (tg_name 1)
  (tb_cons (ts_set 2 (tr_call F__law_feed (ta_cons (tr_var 0) (ta_cons (tr_var 1) ta_nil))))
  (tb_cons (ts_set 3 (tr_call F__law_width (ta_cons (tr_var 2) ta_nil)))
  (tb_cons (ts_set 4 (tr_call F__law_drawn_tables (ta_cons (tr_var 2) (ta_cons (tr_var 3) (ta_cons tr_int ta_nil)))))
  (tb_cons (ts_par 5 6 (TrE.x (tr_call F__law_program_book (ta_cons (tr_var 3) (ta_cons (tr_var 4) ta_nil)))) (TrE.x (tr_call F__law_take (ta_cons (tr_var 2) (ta_cons tr_int ta_nil)))))
  (tb_cons (ts_set 7 (tr_call F__law_uses (ta_cons (tr_var 2) (ta_cons (tr_var 4) (ta_cons (tr_var 6) (ta_cons (tr_call F__law_take (ta_cons (tr_var 2) (ta_cons tr_int ta_nil))) ta_nil))))))
  (tb_cons (ts_set 8 (TrN.fz (tr_lst (ta_cons (tr_md PySem.F.plainAttrs_str PySem.F.slot_str_join PySem.F.type_str_join mt_mJoin (TrE.q tr_str) (tqa_cons (TrE.q (tr_call F__law_lines_of (ta_cons (tr_var 3) (ta_cons (tr_var 4) ta_nil)))) tqa_nil)) (ta_cons (tr_md PySem.F.plainAttrs_str PySem.F.slot_str_join PySem.F.type_str_join mt_mJoin (TrE.q tr_str) (tqa_cons (TrE.q (tr_call F__law_use_lines (ta_cons (tr_var 6) (ta_cons (tr_var 7) ta_nil)))) tqa_nil)) ta_nil)))))
  (tb_cons (ts_for (ti_rg1 (tqa_cons (TrE.q tr_int) tqa_nil) P.g_range) (tg_name 9)
  (tb_cons (ts_set 10 (tr_op op_oMod (tq_var 9) (TrE.q tr_int)))
  (tb_cons (ts_set 11 (tr_ix ix_oIx (tq_var 8) (tq_var 10)))
  (tb_cons (ts_for (ti_rg1 (tqa_cons (TrE.q (tr_call F__law_pick (ta_cons (tr_var 2) (ta_cons (TrN.fz (tr_lst (ta_cons tr_int (ta_cons tr_int (ta_cons tr_int (ta_cons tr_int ta_nil)))))) ta_nil)))) tqa_nil) P.g_range) (tg_name 12)
  (tb_one (ts_set 11 (tr_call F__law_changed (ta_cons (tr_var 2) (ta_cons (tr_var 11) ta_nil))))))
  (tb_cons (ts_set 13 (tr_md PySem.F.plainAttrs_str PySem.F.slot_str_split PySem.F.type_str_split mt_mSplit (tq_var 11) (tqa_cons (TrE.q tr_str) tqa_nil)))
  (tb_cons (ts_set 14 (tr_if (tt_cmp op_oEq (tq_var 10) (TrE.q tr_int)) (tr_call F__law_book_due (ta_cons (tr_var 13) ta_nil)) (tr_call F__law_puzzle_due (ta_cons (tr_var 13) (ta_cons (tr_var 4) ta_nil)))))
  (tb_cons (ts_if (tt_not (tt_val (tr_isi P.isi_int (tq_var 14) P.g_isinstance)))
  (tb_cons (ts_set 15 (tr_if (tt_cmp op_oEq (tq_var 10) (TrE.q tr_int)) (tr_call F__law_lines_of (ta_cons (tr_ix ix_oIx (tq_var 14) (TrE.q tr_int)) (ta_cons (tr_ix ix_oIx (tq_var 14) (TrE.q tr_int)) ta_nil))) (tr_call F__law_use_lines (ta_cons (tr_ix ix_oIx (tq_var 14) (TrE.q tr_int)) (ta_cons (tr_ix ix_oIx (tq_var 14) (TrE.q tr_int)) ta_nil)))))
  (tb_one (ts_set 14 (tr_md PySem.F.plainAttrs_str PySem.F.slot_str_join PySem.F.type_str_join mt_mJoin (TrE.q tr_str) (tqa_cons (tq_var 15) tqa_nil)))))
  tb_nil)
  (tb_cons (ts_set 16 (tr_call F__law_told (ta_cons (tr_var 10) (ta_cons (tr_var 11) (ta_cons (tr_var 5) ta_nil)))))
  (tb_one (ts_if (TrW.tt (tw_or (tt_val (tr_isi P.isi_bool (tq_var 16) P.g_isinstance)) (tw_or1 (tt_cmp op_oNe (tq_var 16) (tq_var 14)))))
  (tb_one (ts_ret tr_bl))
  tb_nil))))))))))
  (tb_one (ts_for (ti_seq (tr_tup (ta_cons tr_non (ta_cons tr_int (ta_cons tr_bl (ta_cons (TrN.fz (tr_lst ta_nil)) (ta_cons (TrN.fz (tr_lst (ta_cons tr_str ta_nil))) (ta_cons (tr_tup ta_nil) (ta_cons tr_str ta_nil))))))))) (tg_name 11)
  (tb_one (ts_if (tt_cmp op_oNe (TrE.q (TrN.fz (tr_lst (ta_cons (tr_call F__law_told (ta_cons tr_int (ta_cons (tr_var 11) (ta_cons (tr_var 5) ta_nil)))) (ta_cons (tr_call F__law_told (ta_cons tr_int (ta_cons (tr_var 11) (ta_cons (tr_var 5) ta_nil)))) ta_nil))))) (TrE.q (TrN.fz (tr_lst (ta_cons tr_int (ta_cons tr_int ta_nil))))))
  (tb_one (ts_ret tr_bl))
  tb_nil))))))))))))
  (tb_one (ts_ret tr_bl)))
end L58
set_option Elab.async false
set_option linter.all false
set_option maxRecDepth 100000
set_option maxHeartbeats 0
namespace H58
open PySem PySem.Spec PyProof.Rows L2 Pd L58
def dA_law : He5.DefA := ⟨fun K => He.fAd K ("law", none), "law", "law", defArgs s_law, defBody s_law, defScope s_law, [], []⟩
def dA__law_feed : He5.DefA := ⟨fun K => He.fAd K ("_law_feed", none), "_law_feed", "_law_feed", defArgs s__law_feed, defBody s__law_feed, defScope s__law_feed, [], []⟩
def dA__law_width : He5.DefA := ⟨fun K => He.fAd K ("_law_width", none), "_law_width", "_law_width", defArgs s__law_width, defBody s__law_width, defScope s__law_width, [], []⟩
def dA__law_pick : He5.DefA := ⟨fun K => He.fAd K ("_law_pick", none), "_law_pick", "_law_pick", defArgs s__law_pick, defBody s__law_pick, defScope s__law_pick, [], []⟩
def dA__law_take : He5.DefA := ⟨fun K => He.fAd K ("_law_take", none), "_law_take", "_law_take", defArgs s__law_take, defBody s__law_take, defScope s__law_take, [], []⟩
def dA__law_drawn_tables : He5.DefA := ⟨fun K => He.fAd K ("_law_drawn_tables", none), "_law_drawn_tables", "_law_drawn_tables", defArgs s__law_drawn_tables, defBody s__law_drawn_tables, defScope s__law_drawn_tables, [], []⟩
def dA__law_drawn_table : He5.DefA := ⟨fun K => He.fAd K ("_law_drawn_table", none), "_law_drawn_table", "_law_drawn_table", defArgs s__law_drawn_table, defBody s__law_drawn_table, defScope s__law_drawn_table, [], []⟩
def dA__law_known_tables : He5.DefA := ⟨fun K => He.fAd K ("_law_known_tables", none), "_law_known_tables", "_law_known_tables", defArgs s__law_known_tables, defBody s__law_known_tables, defScope s__law_known_tables, [], []⟩
def dA__law_all : He5.DefA := ⟨fun K => He.fAd K ("_law_all", none), "_law_all", "_law_all", defArgs s__law_all, defBody s__law_all, defScope s__law_all, [], []⟩
def dA__law_drawn_rows : He5.DefA := ⟨fun K => He.fAd K ("_law_drawn_rows", none), "_law_drawn_rows", "_law_drawn_rows", defArgs s__law_drawn_rows, defBody s__law_drawn_rows, defScope s__law_drawn_rows, [], []⟩
def dA__law_drawn_row : He5.DefA := ⟨fun K => He.fAd K ("_law_drawn_row", none), "_law_drawn_row", "_law_drawn_row", defArgs s__law_drawn_row, defBody s__law_drawn_row, defScope s__law_drawn_row, [], []⟩
def dA__law_program_book : He5.DefA := ⟨fun K => He.fAd K ("_law_program_book", none), "_law_program_book", "_law_program_book", defArgs s__law_program_book, defBody s__law_program_book, defScope s__law_program_book, [], []⟩
def dA_Book_init : He5.DefA := ⟨fun K => He.fAd K ("Book", some "__init__"), "__init__", "Book.__init__", defArgs s_Book_init, defBody s_Book_init, defScope s_Book_init, [], []⟩
def dA_check_width : He5.DefA := ⟨fun K => He.fAd K ("check_width", none), "check_width", "check_width", defArgs s_check_width, defBody s_check_width, defScope s_check_width, [], []⟩
def dA_within : He5.DefA := ⟨fun K => He.fAd K ("within", none), "within", "within", defArgs s_within, defBody s_within, defScope s_within, [], []⟩
def dA__law_program_table : He5.DefA := ⟨fun K => He.fAd K ("_law_program_table", none), "_law_program_table", "_law_program_table", defArgs s__law_program_table, defBody s__law_program_table, defScope s__law_program_table, [], []⟩
def dA_Table_init : He5.DefA := ⟨fun K => He.fAd K ("Table", some "__init__"), "__init__", "Table.__init__", defArgs s_Table_init, defBody s_Table_init, defScope s_Table_init, [], []⟩
def dA_check_arity : He5.DefA := ⟨fun K => He.fAd K ("check_arity", none), "check_arity", "check_arity", defArgs s_check_arity, defBody s_check_arity, defScope s_check_arity, [], []⟩
def dA_is_row : He5.DefA := ⟨fun K => He.fAd K ("is_row", none), "is_row", "is_row", defArgs s_is_row, defBody s_is_row, defScope s_is_row, [], []⟩
def dA__law_uses : He5.DefA := ⟨fun K => He.fAd K ("_law_uses", none), "_law_uses", "_law_uses", defArgs s__law_uses, defBody s__law_uses, defScope s__law_uses, [], []⟩
def dA__law_lines_of : He5.DefA := ⟨fun K => He.fAd K ("_law_lines_of", none), "_law_lines_of", "_law_lines_of", defArgs s__law_lines_of, defBody s__law_lines_of, defScope s__law_lines_of, [], []⟩
def dA__law_use_lines : He5.DefA := ⟨fun K => He.fAd K ("_law_use_lines", none), "_law_use_lines", "_law_use_lines", defArgs s__law_use_lines, defBody s__law_use_lines, defScope s__law_use_lines, [], []⟩
def dA__law_changed : He5.DefA := ⟨fun K => He.fAd K ("_law_changed", none), "_law_changed", "_law_changed", defArgs s__law_changed, defBody s__law_changed, defScope s__law_changed, [], []⟩
def dA__law_book_due : He5.DefA := ⟨fun K => He.fAd K ("_law_book_due", none), "_law_book_due", "_law_book_due", defArgs s__law_book_due, defBody s__law_book_due, defScope s__law_book_due, [], []⟩
def dA__law_headed : He5.DefA := ⟨fun K => He.fAd K ("_law_headed", none), "_law_headed", "_law_headed", defArgs s__law_headed, defBody s__law_headed, defScope s__law_headed, [], []⟩
def dA__law_number : He5.DefA := ⟨fun K => He.fAd K ("_law_number", none), "_law_number", "_law_number", defArgs s__law_number, defBody s__law_number, defScope s__law_number, [], []⟩
def dA__law_is_row : He5.DefA := ⟨fun K => He.fAd K ("_law_is_row", none), "_law_is_row", "_law_is_row", defArgs s__law_is_row, defBody s__law_is_row, defScope s__law_is_row, [], []⟩
def dA__law_within : He5.DefA := ⟨fun K => He.fAd K ("_law_within", none), "_law_within", "_law_within", defArgs s__law_within, defBody s__law_within, defScope s__law_within, [], []⟩
def dA__law_puzzle_due : He5.DefA := ⟨fun K => He.fAd K ("_law_puzzle_due", none), "_law_puzzle_due", "_law_puzzle_due", defArgs s__law_puzzle_due, defBody s__law_puzzle_due, defScope s__law_puzzle_due, [], []⟩
def dA__law_told : He5.DefA := ⟨fun K => He.fAd K ("_law_told", none), "_law_told", "_law_told", defArgs s__law_told, defBody s__law_told, defScope s__law_told, [], []⟩
def dA_show_book : He5.DefA := ⟨fun K => He.fAd K ("show_book", none), "show_book", "show_book", defArgs s_show_book, defBody s_show_book, defScope s_show_book, [], []⟩
def dA_Table_len : He5.DefA := ⟨fun K => He.fAd K ("Table", some "__len__"), "__len__", "Table.__len__", defArgs s_Table_len, defBody s_Table_len, defScope s_Table_len, [], []⟩
def dA_Book_len : He5.DefA := ⟨fun K => He.fAd K ("Book", some "__len__"), "__len__", "Book.__len__", defArgs s_Book_len, defBody s_Book_len, defScope s_Book_len, [], []⟩
def dA_Puzzle_len : He5.DefA := ⟨fun K => He.fAd K ("Puzzle", some "__len__"), "__len__", "Puzzle.__len__", defArgs s_Puzzle_len, defBody s_Puzzle_len, defScope s_Puzzle_len, [], []⟩
def dA_Book_tables : He5.DefA := ⟨fun K => pAd K (He.ga K "Book") "tables", "tables", "Book.tables", defArgs s_Book_tables, defBody s_Book_tables, defScope s_Book_tables, [], []⟩
def dA_Table_rows : He5.DefA := ⟨fun K => pAd K (He.ga K "Table") "rows", "rows", "Table.rows", defArgs s_Table_rows, defBody s_Table_rows, defScope s_Table_rows, [], []⟩
def dA_Puzzle_rows : He5.DefA := ⟨fun K => pAd K (He.ga K "Puzzle") "rows", "rows", "Puzzle.rows", defArgs s_Puzzle_rows, defBody s_Puzzle_rows, defScope s_Puzzle_rows, [], []⟩
def dA_written : He5.DefA := ⟨fun K => He.fAd K ("written", none), "written", "written", defArgs s_written, defBody s_written, defScope s_written, [], []⟩
def dA_read_book : He5.DefA := ⟨fun K => He.fAd K ("read_book", none), "read_book", "read_book", defArgs s_read_book, defBody s_read_book, defScope s_read_book, [], []⟩
def dA_lines_of : He5.DefA := ⟨fun K => He.fAd K ("lines_of", none), "lines_of", "lines_of", defArgs s_lines_of, defBody s_lines_of, defScope s_lines_of, [], []⟩
def dA_headed : He5.DefA := ⟨fun K => He.fAd K ("headed", none), "headed", "headed", defArgs s_headed, defBody s_headed, defScope s_headed, [], []⟩
def dA_number_of : He5.DefA := ⟨fun K => He.fAd K ("number_of", none), "number_of", "number_of", defArgs s_number_of, defBody s_number_of, defScope s_number_of, [], []⟩
def dA_table_at : He5.DefA := ⟨fun K => He.fAd K ("table_at", none), "table_at", "table_at", defArgs s_table_at, defBody s_table_at, defScope s_table_at, [], []⟩
def dA_numbers_in : He5.DefA := ⟨fun K => He.fAd K ("numbers_in", none), "numbers_in", "numbers_in", defArgs s_numbers_in, defBody s_numbers_in, defScope s_numbers_in, [], []⟩
def dA_show_puzzle : He5.DefA := ⟨fun K => He.fAd K ("show_puzzle", none), "show_puzzle", "show_puzzle", defArgs s_show_puzzle, defBody s_show_puzzle, defScope s_show_puzzle, [], []⟩
def dA_read_puzzle : He5.DefA := ⟨fun K => He.fAd K ("read_puzzle", none), "read_puzzle", "read_puzzle", defArgs s_read_puzzle, defBody s_read_puzzle, defScope s_read_puzzle, [], []⟩
def dA_is_use : He5.DefA := ⟨fun K => He.fAd K ("is_use", none), "is_use", "is_use", defArgs s_is_use, defBody s_is_use, defScope s_is_use, [], []⟩
def dA_Book_getitem : He5.DefA := ⟨fun K => He.fAd K ("Book", some "__getitem__"), "__getitem__", "Book.__getitem__", defArgs s_Book_getitem, defBody s_Book_getitem, defScope s_Book_getitem, [], []⟩
def dA_Puzzle_init : He5.DefA := ⟨fun K => He.fAd K ("Puzzle", some "__init__"), "__init__", "Puzzle.__init__", defArgs s_Puzzle_init, defBody s_Puzzle_init, defScope s_Puzzle_init, [], []⟩
abbrev s_BadText_init : Stmt := cbody 12 0
def dA_BadText_init : He5.DefA := ⟨fun K => He.fAd K ("BadText", some "__init__"), "__init__", "BadText.__init__", defArgs s_BadText_init, defBody s_BadText_init, defScope s_BadText_init, [], []⟩
def fn0 : List He5.DefA := [dA_law, dA__law_feed, dA__law_width, dA__law_pick, dA__law_take, dA__law_drawn_tables, dA__law_drawn_table, dA__law_known_tables, dA__law_all, dA__law_drawn_rows, dA__law_drawn_row, dA__law_program_book, dA_Book_init, dA_check_width, dA_within, dA__law_program_table, dA_Table_init, dA_check_arity, dA_is_row, dA__law_uses]
def fn1 : List He5.DefA := [dA__law_lines_of, dA__law_use_lines, dA__law_changed, dA__law_book_due, dA__law_headed, dA__law_number, dA__law_is_row, dA__law_within, dA__law_puzzle_due, dA__law_told, dA_show_book, dA_Table_len, dA_Book_len, dA_Puzzle_len, dA_Book_tables, dA_Table_rows, dA_Puzzle_rows, dA_written, dA_read_book, dA_lines_of]
def fn2 : List He5.DefA := [dA_headed, dA_number_of, dA_table_at, dA_numbers_in, dA_show_puzzle, dA_read_puzzle, dA_is_use, dA_Book_getitem, dA_Puzzle_init, dA_BadText_init]
def fn : List He5.DefA := fn0 ++ (fn1 ++ (fn2
))
def bl0 : Bls := [faB (.free "len"), faB (.free "min"), faB (.free "max"), faB (.free "range"), faB (.free "abs"), faB (.free "int"), faB (.free "sum"), faB (.free "tuple"), faB (.free "sorted"), faB (.free "set"), kitB "Table" (fun _ => .type "int") false, faB (.cls "Table")]
def bl1 : Bls := [obB "Table", kitB "Book" (fun _ => .type "int") false, faB (.cls "Book"), obB "Book", kitB "Puzzle" (fun _ => .type "int") false, faB (.cls "Puzzle"), obB "Puzzle", faB (.free "isinstance"), kitB "Table" (fun _ => .type "bool") false, kitB "Book" (fun _ => .type "bool") false, kitB "Puzzle" (fun _ => .type "bool") false, faB (.free "bool")]
def bl2 : Bls := [faB (.int "MOST_WIDTH" 3), kitB "Table" (fun _ => .type "list") false, kitB "Book" (fun _ => .type "list") false, kitB "Puzzle" (fun _ => .type "list") false, faB (.free "list"), faB (.free "enumerate"), kitB "Table" (fun K => .ref (He.ga K "Table")) true, kitB "Book" (fun K => .ref (He.ga K "Table")) false, kitB "Puzzle" (fun K => .ref (He.ga K "Table")) false, faB (.glo "Table"), tyB "Table", faB (.noat "Table" "width")]
def bl3 : Bls := [faB (.noat "Book" "width"), faB (.noat "Book" "kept_tables"), faB (.int "MOST_ARITY" 3), kitB "Table" (fun _ => .type "tuple") false, kitB "Book" (fun _ => .type "tuple") false, kitB "Puzzle" (fun _ => .type "tuple") false, faB (.free "all"), faB (.noat "Table" "arity"), faB (.noat "Table" "held"), faB (.noat "Table" "there"), faB (.free "str"), faB (.noat "Puzzle" "kept_rows")]
def bl4 : Bls := [kitB "Table" (fun _ => .type "str") false, kitB "Book" (fun _ => .type "str") false, kitB "Puzzle" (fun _ => .type "str") false, faB (.str "DIGITS" "0123456789"), faB (.noat "Puzzle" "places"), faB (.int "MOST_PLACES" 60), faB (.noat "Puzzle" "book"), faB (.glo "_law_feed"), faB (.glo "_law_take"), faB (.glo "_law_pick"), faB (.glo "_law_width"), faB (.glo "_law_all")]
def bl5 : Bls := [faB (.glo "_law_known_tables"), faB (.glo "_law_drawn_row"), faB (.glo "_law_drawn_rows"), faB (.glo "_law_drawn_table"), faB (.glo "_law_drawn_tables"), faB (.glo "within"), faB (.glo "check_width"), faB (.mkr "Book"), faB (.glo "Book"), faB (.glo "check_arity"), faB (.glo "is_row"), faB (.mkr "Table")]
def bl6 : Bls := [faB (.glo "_law_program_table"), faB (.glo "_law_program_book"), faB (.glo "_law_uses"), faB (.glo "_law_lines_of"), faB (.glo "_law_use_lines"), faB (.glo "_law_changed"), faB (.glo "_law_number"), faB (.glo "_law_headed"), faB (.glo "_law_within"), faB (.glo "_law_is_row"), faB (.glo "_law_book_due"), faB (.glo "_law_puzzle_due")]
def bl7 : Bls := [erB "BadText", faB (.glo "BadText"), faB (.noat "BadText" "line"), duB "Table" "__len__", duB "Book" "__len__", duB "Puzzle" "__len__", prB "Book" "tables", prB "Table" "rows", prB "Puzzle" "rows", faB (.glo "written"), faB (.glo "show_book"), faB (.glo "lines_of")]
def bl8 : Bls := [faB (.glo "number_of"), faB (.glo "headed"), faB (.glo "numbers_in"), faB (.glo "table_at"), faB (.glo "read_book"), faB (.glo "show_puzzle"), duB "Book" "__getitem__", faB (.glo "is_use"), faB (.mkr "Puzzle"), faB (.glo "Puzzle"), faB (.glo "read_puzzle"), faB (.glo "_law_told")]
def bl9 : Bls := [faB (.glo "law")]
def bl : Bls := bl0 ++ (bl1 ++ (bl2 ++ (bl3 ++ (bl4 ++ (bl5 ++ (bl6 ++ (bl7 ++ (bl8 ++ (bl9
)))))))))
def names0 : List Str := ["_wall", "NearError", "NoList", "BadWidth", "BadArity", "BadRow", "Unlike", "BadTable", "NoNumber", "BadPlaces", "BadUse", "BadText", "MOST_WIDTH", "MOST_ARITY", "within", "is_row", "check_width", "check_arity"]
def names1 : List Str := ["Table", "MOST_PLACES", "Book", "is_use", "Puzzle", "DIGITS", "written", "show_book", "show_puzzle", "number_of", "numbers_in", "lines_of", "headed", "table_at", "read_book", "read_puzzle", "_law_feed", "_law_take"]
def names2 : List Str := ["_law_pick", "_law_all", "_law_drawn_row", "_law_drawn_rows", "_law_known_tables", "_law_drawn_table", "_law_drawn_tables", "_law_width", "_law_program_table", "_law_program_book", "_law_uses", "_law_within", "_law_is_row", "_law_lines_of", "_law_use_lines", "_law_number", "_law_headed", "_law_book_due"]
def names3 : List Str := ["_law_puzzle_due", "_law_told", "_law_changed"]
def names : List Str := names0 ++ names1 ++ names2 ++ names3
abbrev R : PySem.W.OpenRow := PySem.W.OpenLaw.row PySem.Challenge.rw_nearsettled_k58_wrong_texts
abbrev qv : Program := PySem.W.view R.prog [62]
abbrev hk : PySem.W.Hook := hookP 5 (exOf bl) fn
def ob (s : PySem.W.SharedT) : He.AlD := obsPG 5 (exOf bl) fn (HandSHeadRun.getT s)
theorem ob_eq (s : PySem.W.SharedT) : ob s = hk.obs s.abs := obsPG_eq (HandSHeadRun.getT_eq s)
theorem run (w : World) : HandSHeadRun.RunEq R qv hk ob 20000 names w := by
  intro os
  kernel_rfl
structure Hd (K : PySem.W.Frag) (mg : Str → Option Value) : Prop where
  ex : ∃ h : Heap, K.In h ∧ h.Ns mainGlobals mg
  c : SaysP (exOf bl) fn K
section
variable {K : PySem.W.Frag} {mg : Str → Option Value}
theorem Hd.glo (B : Hd K mg) {x : Str} (h : faB (.glo x) K = true) : mg x = some (.ref (He.ga K x)) := let ⟨_, X, G⟩ := B.ex; He.glo_ok X G h
theorem Hd.free (B : Hd K mg) {x : Str} (h : faB (.free x) K = true) : mg x = none := let ⟨_, X, G⟩ := B.ex; He.free_ok X G h
theorem Hd.int (B : Hd K mg) {x : Str} {i : Int} (h : faB (.int x i) K = true) : ∃ t, mg x = some (.int i t) := let ⟨_, X, G⟩ := B.ex; He.int_ok X G h
theorem Hd.str (B : Hd K mg) {x z : Str} (h : faB (.str x z) K = true) : ∃ t, mg x = some (.str z t) := let ⟨_, X, G⟩ := B.ex; He.str_ok X G h
end
def clK (K : PySem.W.Frag) : Nat → Addr := fun k => match k with | 0 => He.ga K "Table" | 1 => He.ga K "Book" | 2 => He.ga K "Puzzle" | 3 => He.ga K "BadText" | _ => 0
def flK : Nat → List Str := fun k => match k with | 0 => ["width", "arity", "held", "there"] | 1 => ["width", "kept_tables"] | 2 => ["book", "places", "kept_rows"] | 3 => ["line"] | _ => []
theorem fl_nd : ∀ k, (flK k).Nodup := fun k => by
  match k with
  | 0 => exact (by decide +kernel)
  | 1 => exact (by decide +kernel)
  | 2 => exact (by decide +kernel)
  | 3 => exact (by decide +kernel)
  | n + 4 => exact .nil
theorem fl_len : ∀ k, (flK k).length < 1000 := fun k => by
  match k with
  | 0 => exact (by decide +kernel)
  | 1 => exact (by decide +kernel)
  | 2 => exact (by decide +kernel)
  | 3 => exact (by decide +kernel)
  | n + 4 => exact (by show 0 < 1000; decide)
abbrev tb (K : PySem.W.Frag) (P : Program) (w : World) (mg : Str → Option Value) (base : Heap) : Tb := ⟨K, P, w, mg, base, clK K, flK⟩
theorem sc_law : FnScope N_law ps_law (defScope s_law) := ⟨by first | rfl | kernel_rfl, by first | rfl | kernel_rfl, by first | rfl | kernel_rfl, by decide +kernel, by first | rfl | kernel_rfl, by decide +kernel, by decide +kernel⟩
theorem sc__law_feed : FnScope N__law_feed ps__law_feed (defScope s__law_feed) := ⟨by first | rfl | kernel_rfl, by first | rfl | kernel_rfl, by first | rfl | kernel_rfl, by decide +kernel, by first | rfl | kernel_rfl, by decide +kernel, by decide +kernel⟩
theorem sc__law_width : FnScope N__law_width ps__law_width (defScope s__law_width) := ⟨by first | rfl | kernel_rfl, by first | rfl | kernel_rfl, by first | rfl | kernel_rfl, by decide +kernel, by first | rfl | kernel_rfl, by decide +kernel, by decide +kernel⟩
theorem sc__law_pick : FnScope N__law_pick ps__law_pick (defScope s__law_pick) := ⟨by first | rfl | kernel_rfl, by first | rfl | kernel_rfl, by first | rfl | kernel_rfl, by decide +kernel, by first | rfl | kernel_rfl, by decide +kernel, by decide +kernel⟩
theorem sc__law_take : FnScope N__law_take ps__law_take (defScope s__law_take) := ⟨by first | rfl | kernel_rfl, by first | rfl | kernel_rfl, by first | rfl | kernel_rfl, by decide +kernel, by first | rfl | kernel_rfl, by decide +kernel, by decide +kernel⟩
theorem sc__law_drawn_tables : FnScope N__law_drawn_tables ps__law_drawn_tables (defScope s__law_drawn_tables) := ⟨by first | rfl | kernel_rfl, by first | rfl | kernel_rfl, by first | rfl | kernel_rfl, by decide +kernel, by first | rfl | kernel_rfl, by decide +kernel, by decide +kernel⟩
theorem sc__law_drawn_table : FnScope N__law_drawn_table ps__law_drawn_table (defScope s__law_drawn_table) := ⟨by first | rfl | kernel_rfl, by first | rfl | kernel_rfl, by first | rfl | kernel_rfl, by decide +kernel, by first | rfl | kernel_rfl, by decide +kernel, by decide +kernel⟩
theorem sc__law_known_tables : FnScope N__law_known_tables ps__law_known_tables (defScope s__law_known_tables) := ⟨by first | rfl | kernel_rfl, by first | rfl | kernel_rfl, by first | rfl | kernel_rfl, by decide +kernel, by first | rfl | kernel_rfl, by decide +kernel, by decide +kernel⟩
theorem sc__law_all : FnScope N__law_all ps__law_all (defScope s__law_all) := ⟨by first | rfl | kernel_rfl, by first | rfl | kernel_rfl, by first | rfl | kernel_rfl, by decide +kernel, by first | rfl | kernel_rfl, by decide +kernel, by decide +kernel⟩
theorem sc__law_drawn_rows : FnScope N__law_drawn_rows ps__law_drawn_rows (defScope s__law_drawn_rows) := ⟨by first | rfl | kernel_rfl, by first | rfl | kernel_rfl, by first | rfl | kernel_rfl, by decide +kernel, by first | rfl | kernel_rfl, by decide +kernel, by decide +kernel⟩
theorem sc__law_drawn_row : FnScope N__law_drawn_row ps__law_drawn_row (defScope s__law_drawn_row) := ⟨by first | rfl | kernel_rfl, by first | rfl | kernel_rfl, by first | rfl | kernel_rfl, by decide +kernel, by first | rfl | kernel_rfl, by decide +kernel, by decide +kernel⟩
theorem sc__law_program_book : FnScope N__law_program_book ps__law_program_book (defScope s__law_program_book) := ⟨by first | rfl | kernel_rfl, by first | rfl | kernel_rfl, by first | rfl | kernel_rfl, by decide +kernel, by first | rfl | kernel_rfl, by decide +kernel, by decide +kernel⟩
theorem sc_Book_init : FnScope N_Book_init ps_Book_init (defScope s_Book_init) := ⟨by first | rfl | kernel_rfl, by first | rfl | kernel_rfl, by first | rfl | kernel_rfl, by decide +kernel, by first | rfl | kernel_rfl, by decide +kernel, by decide +kernel⟩
theorem sc_check_width : FnScope N_check_width ps_check_width (defScope s_check_width) := ⟨by first | rfl | kernel_rfl, by first | rfl | kernel_rfl, by first | rfl | kernel_rfl, by decide +kernel, by first | rfl | kernel_rfl, by decide +kernel, by decide +kernel⟩
theorem sc_within : FnScope N_within ps_within (defScope s_within) := ⟨by first | rfl | kernel_rfl, by first | rfl | kernel_rfl, by first | rfl | kernel_rfl, by decide +kernel, by first | rfl | kernel_rfl, by decide +kernel, by decide +kernel⟩
theorem sc__law_program_table : FnScope N__law_program_table ps__law_program_table (defScope s__law_program_table) := ⟨by first | rfl | kernel_rfl, by first | rfl | kernel_rfl, by first | rfl | kernel_rfl, by decide +kernel, by first | rfl | kernel_rfl, by decide +kernel, by decide +kernel⟩
theorem sc_Table_init : FnScope N_Table_init ps_Table_init (defScope s_Table_init) := ⟨by first | rfl | kernel_rfl, by first | rfl | kernel_rfl, by first | rfl | kernel_rfl, by decide +kernel, by first | rfl | kernel_rfl, by decide +kernel, by decide +kernel⟩
theorem sc_check_arity : FnScope N_check_arity ps_check_arity (defScope s_check_arity) := ⟨by first | rfl | kernel_rfl, by first | rfl | kernel_rfl, by first | rfl | kernel_rfl, by decide +kernel, by first | rfl | kernel_rfl, by decide +kernel, by decide +kernel⟩
theorem sc_is_row : FnScope N_is_row ps_is_row (defScope s_is_row) := ⟨by first | rfl | kernel_rfl, by first | rfl | kernel_rfl, by first | rfl | kernel_rfl, by decide +kernel, by first | rfl | kernel_rfl, by decide +kernel, by decide +kernel⟩
theorem sc__law_uses : FnScope N__law_uses ps__law_uses (defScope s__law_uses) := ⟨by first | rfl | kernel_rfl, by first | rfl | kernel_rfl, by first | rfl | kernel_rfl, by decide +kernel, by first | rfl | kernel_rfl, by decide +kernel, by decide +kernel⟩
theorem sc__law_lines_of : FnScope N__law_lines_of ps__law_lines_of (defScope s__law_lines_of) := ⟨by first | rfl | kernel_rfl, by first | rfl | kernel_rfl, by first | rfl | kernel_rfl, by decide +kernel, by first | rfl | kernel_rfl, by decide +kernel, by decide +kernel⟩
theorem sc__law_use_lines : FnScope N__law_use_lines ps__law_use_lines (defScope s__law_use_lines) := ⟨by first | rfl | kernel_rfl, by first | rfl | kernel_rfl, by first | rfl | kernel_rfl, by decide +kernel, by first | rfl | kernel_rfl, by decide +kernel, by decide +kernel⟩
theorem sc__law_changed : FnScope N__law_changed ps__law_changed (defScope s__law_changed) := ⟨by first | rfl | kernel_rfl, by first | rfl | kernel_rfl, by first | rfl | kernel_rfl, by decide +kernel, by first | rfl | kernel_rfl, by decide +kernel, by decide +kernel⟩
theorem sc__law_book_due : FnScope N__law_book_due ps__law_book_due (defScope s__law_book_due) := ⟨by first | rfl | kernel_rfl, by first | rfl | kernel_rfl, by first | rfl | kernel_rfl, by decide +kernel, by first | rfl | kernel_rfl, by decide +kernel, by decide +kernel⟩
theorem sc__law_headed : FnScope N__law_headed ps__law_headed (defScope s__law_headed) := ⟨by first | rfl | kernel_rfl, by first | rfl | kernel_rfl, by first | rfl | kernel_rfl, by decide +kernel, by first | rfl | kernel_rfl, by decide +kernel, by decide +kernel⟩
theorem sc__law_number : FnScope N__law_number ps__law_number (defScope s__law_number) := ⟨by first | rfl | kernel_rfl, by first | rfl | kernel_rfl, by first | rfl | kernel_rfl, by decide +kernel, by first | rfl | kernel_rfl, by decide +kernel, by decide +kernel⟩
theorem sc__law_is_row : FnScope N__law_is_row ps__law_is_row (defScope s__law_is_row) := ⟨by first | rfl | kernel_rfl, by first | rfl | kernel_rfl, by first | rfl | kernel_rfl, by decide +kernel, by first | rfl | kernel_rfl, by decide +kernel, by decide +kernel⟩
theorem sc__law_within : FnScope N__law_within ps__law_within (defScope s__law_within) := ⟨by first | rfl | kernel_rfl, by first | rfl | kernel_rfl, by first | rfl | kernel_rfl, by decide +kernel, by first | rfl | kernel_rfl, by decide +kernel, by decide +kernel⟩
theorem sc__law_puzzle_due : FnScope N__law_puzzle_due ps__law_puzzle_due (defScope s__law_puzzle_due) := ⟨by first | rfl | kernel_rfl, by first | rfl | kernel_rfl, by first | rfl | kernel_rfl, by decide +kernel, by first | rfl | kernel_rfl, by decide +kernel, by decide +kernel⟩
theorem sc__law_told : FnScope N__law_told ps__law_told (defScope s__law_told) := ⟨by first | rfl | kernel_rfl, by first | rfl | kernel_rfl, by first | rfl | kernel_rfl, by decide +kernel, by first | rfl | kernel_rfl, by decide +kernel, by decide +kernel⟩
theorem sc_show_book : FnScope N_show_book ps_show_book (defScope s_show_book) := ⟨by first | rfl | kernel_rfl, by first | rfl | kernel_rfl, by first | rfl | kernel_rfl, by decide +kernel, by first | rfl | kernel_rfl, by decide +kernel, by decide +kernel⟩
theorem sc_Table_len : FnScope N_Table_len ps_Table_len (defScope s_Table_len) := ⟨by first | rfl | kernel_rfl, by first | rfl | kernel_rfl, by first | rfl | kernel_rfl, by decide +kernel, by first | rfl | kernel_rfl, by decide +kernel, by decide +kernel⟩
theorem sc_Book_len : FnScope N_Book_len ps_Book_len (defScope s_Book_len) := ⟨by first | rfl | kernel_rfl, by first | rfl | kernel_rfl, by first | rfl | kernel_rfl, by decide +kernel, by first | rfl | kernel_rfl, by decide +kernel, by decide +kernel⟩
theorem sc_Puzzle_len : FnScope N_Puzzle_len ps_Puzzle_len (defScope s_Puzzle_len) := ⟨by first | rfl | kernel_rfl, by first | rfl | kernel_rfl, by first | rfl | kernel_rfl, by decide +kernel, by first | rfl | kernel_rfl, by decide +kernel, by decide +kernel⟩
theorem sc_Book_tables : FnScope N_Book_tables ps_Book_tables (defScope s_Book_tables) := ⟨by first | rfl | kernel_rfl, by first | rfl | kernel_rfl, by first | rfl | kernel_rfl, by decide +kernel, by first | rfl | kernel_rfl, by decide +kernel, by decide +kernel⟩
theorem sc_Table_rows : FnScope N_Table_rows ps_Table_rows (defScope s_Table_rows) := ⟨by first | rfl | kernel_rfl, by first | rfl | kernel_rfl, by first | rfl | kernel_rfl, by decide +kernel, by first | rfl | kernel_rfl, by decide +kernel, by decide +kernel⟩
theorem sc_Puzzle_rows : FnScope N_Puzzle_rows ps_Puzzle_rows (defScope s_Puzzle_rows) := ⟨by first | rfl | kernel_rfl, by first | rfl | kernel_rfl, by first | rfl | kernel_rfl, by decide +kernel, by first | rfl | kernel_rfl, by decide +kernel, by decide +kernel⟩
theorem sc_written : FnScope N_written ps_written (defScope s_written) := ⟨by first | rfl | kernel_rfl, by first | rfl | kernel_rfl, by first | rfl | kernel_rfl, by decide +kernel, by first | rfl | kernel_rfl, by decide +kernel, by decide +kernel⟩
theorem sc_read_book : FnScope N_read_book ps_read_book (defScope s_read_book) := ⟨by first | rfl | kernel_rfl, by first | rfl | kernel_rfl, by first | rfl | kernel_rfl, by decide +kernel, by first | rfl | kernel_rfl, by decide +kernel, by decide +kernel⟩
theorem sc_lines_of : FnScope N_lines_of ps_lines_of (defScope s_lines_of) := ⟨by first | rfl | kernel_rfl, by first | rfl | kernel_rfl, by first | rfl | kernel_rfl, by decide +kernel, by first | rfl | kernel_rfl, by decide +kernel, by decide +kernel⟩
theorem sc_headed : FnScope N_headed ps_headed (defScope s_headed) := ⟨by first | rfl | kernel_rfl, by first | rfl | kernel_rfl, by first | rfl | kernel_rfl, by decide +kernel, by first | rfl | kernel_rfl, by decide +kernel, by decide +kernel⟩
theorem sc_number_of : FnScope N_number_of ps_number_of (defScope s_number_of) := ⟨by first | rfl | kernel_rfl, by first | rfl | kernel_rfl, by first | rfl | kernel_rfl, by decide +kernel, by first | rfl | kernel_rfl, by decide +kernel, by decide +kernel⟩
theorem sc_table_at : FnScope N_table_at ps_table_at (defScope s_table_at) := ⟨by first | rfl | kernel_rfl, by first | rfl | kernel_rfl, by first | rfl | kernel_rfl, by decide +kernel, by first | rfl | kernel_rfl, by decide +kernel, by decide +kernel⟩
theorem sc_numbers_in : FnScope N_numbers_in ps_numbers_in (defScope s_numbers_in) := ⟨by first | rfl | kernel_rfl, by first | rfl | kernel_rfl, by first | rfl | kernel_rfl, by decide +kernel, by first | rfl | kernel_rfl, by decide +kernel, by decide +kernel⟩
theorem sc_show_puzzle : FnScope N_show_puzzle ps_show_puzzle (defScope s_show_puzzle) := ⟨by first | rfl | kernel_rfl, by first | rfl | kernel_rfl, by first | rfl | kernel_rfl, by decide +kernel, by first | rfl | kernel_rfl, by decide +kernel, by decide +kernel⟩
theorem sc_read_puzzle : FnScope N_read_puzzle ps_read_puzzle (defScope s_read_puzzle) := ⟨by first | rfl | kernel_rfl, by first | rfl | kernel_rfl, by first | rfl | kernel_rfl, by decide +kernel, by first | rfl | kernel_rfl, by decide +kernel, by decide +kernel⟩
theorem sc_is_use : FnScope N_is_use ps_is_use (defScope s_is_use) := ⟨by first | rfl | kernel_rfl, by first | rfl | kernel_rfl, by first | rfl | kernel_rfl, by decide +kernel, by first | rfl | kernel_rfl, by decide +kernel, by decide +kernel⟩
theorem sc_Book_getitem : FnScope N_Book_getitem ps_Book_getitem (defScope s_Book_getitem) := ⟨by first | rfl | kernel_rfl, by first | rfl | kernel_rfl, by first | rfl | kernel_rfl, by decide +kernel, by first | rfl | kernel_rfl, by decide +kernel, by decide +kernel⟩
theorem sc_Puzzle_init : FnScope N_Puzzle_init ps_Puzzle_init (defScope s_Puzzle_init) := ⟨by first | rfl | kernel_rfl, by first | rfl | kernel_rfl, by first | rfl | kernel_rfl, by decide +kernel, by first | rfl | kernel_rfl, by decide +kernel, by decide +kernel⟩
theorem pg {K : PySem.W.Frag} {P : Program} {w : World} {mg : Str → Option Value} {base : Heap} (B : Hd K mg) : Pg (tb K P w mg base) where
  g_len := B.free (B.c.at 0 (f := faB (.free "len")))
  g_min := B.free (B.c.at 1 (f := faB (.free "min")))
  g_max := B.free (B.c.at 2 (f := faB (.free "max")))
  g_range := B.free (B.c.at 3 (f := faB (.free "range")))
  g_abs := B.free (B.c.at 4 (f := faB (.free "abs")))
  g_int := B.free (B.c.at 5 (f := faB (.free "int")))
  g_sum := B.free (B.c.at 6 (f := faB (.free "sum")))
  g_tuple := B.free (B.c.at 7 (f := faB (.free "tuple")))
  g_sorted := B.free (B.c.at 8 (f := faB (.free "sorted")))
  g_set := B.free (B.c.at 9 (f := faB (.free "set")))
  isi_int := Isi.bt (B.free (B.c.at 5 (f := faB (.free "int")))) (by first | rfl | decide +kernel | kernel_rfl) (by decide) (by decide) (fun k b e => by
    match k, e with
    | 0, e => cases (show some false = some b from e); exact ⟨kitB_ok (B.c.at 10 (f := kitB "Table" (fun _ => .type "int") false)), obcB_ok (He.cls_ok (B.c.at 11 (f := faB (.cls "Table")))) (B.c.at 12 (f := obB "Table"))⟩
    | 1, e => cases (show some false = some b from e); exact ⟨kitB_ok (B.c.at 13 (f := kitB "Book" (fun _ => .type "int") false)), obcB_ok (He.cls_ok (B.c.at 14 (f := faB (.cls "Book")))) (B.c.at 15 (f := obB "Book"))⟩
    | 2, e => cases (show some false = some b from e); exact ⟨kitB_ok (B.c.at 16 (f := kitB "Puzzle" (fun _ => .type "int") false)), obcB_ok (He.cls_ok (B.c.at 17 (f := faB (.cls "Puzzle")))) (B.c.at 18 (f := obB "Puzzle"))⟩
    | n + 3, e => cases (show none = some b from e))
  g_isinstance := B.free (B.c.at 19 (f := faB (.free "isinstance")))
  isi_bool := Isi.bt (B.free (B.c.at 23 (f := faB (.free "bool")))) (by first | rfl | decide +kernel | kernel_rfl) (by decide) (by decide) (fun k b e => by
    match k, e with
    | 0, e => cases (show some false = some b from e); exact ⟨kitB_ok (B.c.at 20 (f := kitB "Table" (fun _ => .type "bool") false)), obcB_ok (He.cls_ok (B.c.at 11 (f := faB (.cls "Table")))) (B.c.at 12 (f := obB "Table"))⟩
    | 1, e => cases (show some false = some b from e); exact ⟨kitB_ok (B.c.at 21 (f := kitB "Book" (fun _ => .type "bool") false)), obcB_ok (He.cls_ok (B.c.at 14 (f := faB (.cls "Book")))) (B.c.at 15 (f := obB "Book"))⟩
    | 2, e => cases (show some false = some b from e); exact ⟨kitB_ok (B.c.at 22 (f := kitB "Puzzle" (fun _ => .type "bool") false)), obcB_ok (He.cls_ok (B.c.at 17 (f := faB (.cls "Puzzle")))) (B.c.at 18 (f := obB "Puzzle"))⟩
    | n + 3, e => cases (show none = some b from e))
  c_MOST_WIDTH := B.int (B.c.at 24 (f := faB (.int "MOST_WIDTH" 3)))
  isi_list := Isi.bt (B.free (B.c.at 28 (f := faB (.free "list")))) (by first | rfl | decide +kernel | kernel_rfl) (by decide) (by decide) (fun k b e => by
    match k, e with
    | 0, e => cases (show some false = some b from e); exact ⟨kitB_ok (B.c.at 25 (f := kitB "Table" (fun _ => .type "list") false)), obcB_ok (He.cls_ok (B.c.at 11 (f := faB (.cls "Table")))) (B.c.at 12 (f := obB "Table"))⟩
    | 1, e => cases (show some false = some b from e); exact ⟨kitB_ok (B.c.at 26 (f := kitB "Book" (fun _ => .type "list") false)), obcB_ok (He.cls_ok (B.c.at 14 (f := faB (.cls "Book")))) (B.c.at 15 (f := obB "Book"))⟩
    | 2, e => cases (show some false = some b from e); exact ⟨kitB_ok (B.c.at 27 (f := kitB "Puzzle" (fun _ => .type "list") false)), obcB_ok (He.cls_ok (B.c.at 17 (f := faB (.cls "Puzzle")))) (B.c.at 18 (f := obB "Puzzle"))⟩
    | n + 3, e => cases (show none = some b from e))
  g_enumerate := B.free (B.c.at 29 (f := faB (.free "enumerate")))
  isi_Table := Isi.own (a := He.ga K "Table") (B.glo (B.c.at 33 (f := faB (.glo "Table")))) (B.c.at 34 (f := tyB "Table")) (fun k b e => by
    match k, e with
    | 0, e => cases (show some true = some b from e); exact ⟨kitB_ok (B.c.at 30 (f := kitB "Table" (fun K => .ref (He.ga K "Table")) true)), obcB_ok (He.cls_ok (B.c.at 11 (f := faB (.cls "Table")))) (B.c.at 12 (f := obB "Table"))⟩
    | 1, e => cases (show some false = some b from e); exact ⟨kitB_ok (B.c.at 31 (f := kitB "Book" (fun K => .ref (He.ga K "Table")) false)), obcB_ok (He.cls_ok (B.c.at 14 (f := faB (.cls "Book")))) (B.c.at 15 (f := obB "Book"))⟩
    | 2, e => cases (show some false = some b from e); exact ⟨kitB_ok (B.c.at 32 (f := kitB "Puzzle" (fun K => .ref (He.ga K "Table")) false)), obcB_ok (He.cls_ok (B.c.at 17 (f := faB (.cls "Puzzle")))) (B.c.at 18 (f := obB "Puzzle"))⟩
    | n + 3, e => cases (show none = some b from e))
  acc_width := ⟨fun k i e => by
    match k, e with
    | 0, e => cases (show some 0 = some i from e); exact ⟨He.cls_ok (B.c.at 11 (f := faB (.cls "Table"))), He.noat_ok (B.c.at 35 (f := faB (.noat "Table" "width"))), rfl, fl_nd 0⟩
    | 1, e => cases (show some 0 = some i from e); exact ⟨He.cls_ok (B.c.at 14 (f := faB (.cls "Book"))), He.noat_ok (B.c.at 36 (f := faB (.noat "Book" "width"))), rfl, fl_nd 1⟩
    | 2, e => cases (show none = some i from e)
    | n + 3, e => cases (show none = some i from e)⟩
  g_list := B.free (B.c.at 28 (f := faB (.free "list")))
  acc_kept_tables := ⟨fun k i e => by
    match k, e with
    | 0, e => cases (show none = some i from e)
    | 1, e => cases (show some 1 = some i from e); exact ⟨He.cls_ok (B.c.at 14 (f := faB (.cls "Book"))), He.noat_ok (B.c.at 37 (f := faB (.noat "Book" "kept_tables"))), rfl, fl_nd 1⟩
    | 2, e => cases (show none = some i from e)
    | n + 3, e => cases (show none = some i from e)⟩
  c_MOST_ARITY := B.int (B.c.at 38 (f := faB (.int "MOST_ARITY" 3)))
  isi_tuple := Isi.bt (B.free (B.c.at 7 (f := faB (.free "tuple")))) (by first | rfl | decide +kernel | kernel_rfl) (by decide) (by decide) (fun k b e => by
    match k, e with
    | 0, e => cases (show some false = some b from e); exact ⟨kitB_ok (B.c.at 39 (f := kitB "Table" (fun _ => .type "tuple") false)), obcB_ok (He.cls_ok (B.c.at 11 (f := faB (.cls "Table")))) (B.c.at 12 (f := obB "Table"))⟩
    | 1, e => cases (show some false = some b from e); exact ⟨kitB_ok (B.c.at 40 (f := kitB "Book" (fun _ => .type "tuple") false)), obcB_ok (He.cls_ok (B.c.at 14 (f := faB (.cls "Book")))) (B.c.at 15 (f := obB "Book"))⟩
    | 2, e => cases (show some false = some b from e); exact ⟨kitB_ok (B.c.at 41 (f := kitB "Puzzle" (fun _ => .type "tuple") false)), obcB_ok (He.cls_ok (B.c.at 17 (f := faB (.cls "Puzzle")))) (B.c.at 18 (f := obB "Puzzle"))⟩
    | n + 3, e => cases (show none = some b from e))
  g_all := B.free (B.c.at 42 (f := faB (.free "all")))
  acc_arity := ⟨fun k i e => by
    match k, e with
    | 0, e => cases (show some 1 = some i from e); exact ⟨He.cls_ok (B.c.at 11 (f := faB (.cls "Table"))), He.noat_ok (B.c.at 43 (f := faB (.noat "Table" "arity"))), rfl, fl_nd 0⟩
    | 1, e => cases (show none = some i from e)
    | 2, e => cases (show none = some i from e)
    | n + 3, e => cases (show none = some i from e)⟩
  acc_held := ⟨fun k i e => by
    match k, e with
    | 0, e => cases (show some 2 = some i from e); exact ⟨He.cls_ok (B.c.at 11 (f := faB (.cls "Table"))), He.noat_ok (B.c.at 44 (f := faB (.noat "Table" "held"))), rfl, fl_nd 0⟩
    | 1, e => cases (show none = some i from e)
    | 2, e => cases (show none = some i from e)
    | n + 3, e => cases (show none = some i from e)⟩
  acc_there := ⟨fun k i e => by
    match k, e with
    | 0, e => cases (show some 3 = some i from e); exact ⟨He.cls_ok (B.c.at 11 (f := faB (.cls "Table"))), He.noat_ok (B.c.at 45 (f := faB (.noat "Table" "there"))), rfl, fl_nd 0⟩
    | 1, e => cases (show none = some i from e)
    | 2, e => cases (show none = some i from e)
    | n + 3, e => cases (show none = some i from e)⟩
  g_str := B.free (B.c.at 46 (f := faB (.free "str")))
  acc_kept_rows := ⟨fun k i e => by
    match k, e with
    | 0, e => cases (show none = some i from e)
    | 1, e => cases (show none = some i from e)
    | 2, e => cases (show some 2 = some i from e); exact ⟨He.cls_ok (B.c.at 17 (f := faB (.cls "Puzzle"))), He.noat_ok (B.c.at 47 (f := faB (.noat "Puzzle" "kept_rows"))), rfl, fl_nd 2⟩
    | n + 3, e => cases (show none = some i from e)⟩
  isi_str := Isi.bt (B.free (B.c.at 46 (f := faB (.free "str")))) (by first | rfl | decide +kernel | kernel_rfl) (by decide) (by decide) (fun k b e => by
    match k, e with
    | 0, e => cases (show some false = some b from e); exact ⟨kitB_ok (B.c.at 48 (f := kitB "Table" (fun _ => .type "str") false)), obcB_ok (He.cls_ok (B.c.at 11 (f := faB (.cls "Table")))) (B.c.at 12 (f := obB "Table"))⟩
    | 1, e => cases (show some false = some b from e); exact ⟨kitB_ok (B.c.at 49 (f := kitB "Book" (fun _ => .type "str") false)), obcB_ok (He.cls_ok (B.c.at 14 (f := faB (.cls "Book")))) (B.c.at 15 (f := obB "Book"))⟩
    | 2, e => cases (show some false = some b from e); exact ⟨kitB_ok (B.c.at 50 (f := kitB "Puzzle" (fun _ => .type "str") false)), obcB_ok (He.cls_ok (B.c.at 17 (f := faB (.cls "Puzzle")))) (B.c.at 18 (f := obB "Puzzle"))⟩
    | n + 3, e => cases (show none = some b from e))
  c_DIGITS := B.str (B.c.at 51 (f := faB (.str "DIGITS" "0123456789")))
  acc_places := ⟨fun k i e => by
    match k, e with
    | 0, e => cases (show none = some i from e)
    | 1, e => cases (show none = some i from e)
    | 2, e => cases (show some 1 = some i from e); exact ⟨He.cls_ok (B.c.at 17 (f := faB (.cls "Puzzle"))), He.noat_ok (B.c.at 52 (f := faB (.noat "Puzzle" "places"))), rfl, fl_nd 2⟩
    | n + 3, e => cases (show none = some i from e)⟩
  c_MOST_PLACES := B.int (B.c.at 53 (f := faB (.int "MOST_PLACES" 60)))
  acc_book := ⟨fun k i e => by
    match k, e with
    | 0, e => cases (show none = some i from e)
    | 1, e => cases (show none = some i from e)
    | 2, e => cases (show some 0 = some i from e); exact ⟨He.cls_ok (B.c.at 17 (f := faB (.cls "Puzzle"))), He.noat_ok (B.c.at 54 (f := faB (.noat "Puzzle" "book"))), rfl, fl_nd 2⟩
    | n + 3, e => cases (show none = some i from e)⟩
  flen := fl_len
theorem A__law_feed {K : PySem.W.Frag} {P : Program} {w : World} {mg : Str → Option Value} {base : Heap} (B : Hd K mg) : ∃ fd, FnAt (tb K P w mg base) 1 (He.fAd K ("_law_feed", none)) fd ps__law_feed m__law_feed :=
  let ⟨fd, F⟩ := B.c.def_ 1 (d := dA__law_feed) (by rfl)
  ⟨fd, fnat_of (n := 0) F sc__law_feed (F.bindsN fun _ _ _ _ _ _ us hl => match us, hl with | [_, _], _ => rfl) (d__law_feed (pg B) _)⟩
theorem F__law_feed {K : PySem.W.Frag} {P : Program} {w : World} {mg : Str → Option Value} {base : Heap} (B : Hd K mg) : Fn (tb K P w mg base) 1 "_law_feed" ps__law_feed m__law_feed :=
  let ⟨fd, A⟩ := A__law_feed B
  ⟨_, fd, A, B.glo (B.c.at 55 (f := faB (.glo "_law_feed")))⟩
theorem A__law_take {K : PySem.W.Frag} {P : Program} {w : World} {mg : Str → Option Value} {base : Heap} (B : Hd K mg) : ∃ fd, FnAt (tb K P w mg base) 1 (He.fAd K ("_law_take", none)) fd ps__law_take m__law_take :=
  let ⟨fd, F⟩ := B.c.def_ 4 (d := dA__law_take) (by rfl)
  ⟨fd, fnat_of (n := 0) F sc__law_take (F.bindsN fun _ _ _ _ _ _ us hl => match us, hl with | [_, _], _ => rfl) (d__law_take (pg B) _)⟩
theorem F__law_take {K : PySem.W.Frag} {P : Program} {w : World} {mg : Str → Option Value} {base : Heap} (B : Hd K mg) : Fn (tb K P w mg base) 1 "_law_take" ps__law_take m__law_take :=
  let ⟨fd, A⟩ := A__law_take B
  ⟨_, fd, A, B.glo (B.c.at 56 (f := faB (.glo "_law_take")))⟩
theorem A__law_pick {K : PySem.W.Frag} {P : Program} {w : World} {mg : Str → Option Value} {base : Heap} (B : Hd K mg) : ∃ fd, FnAt (tb K P w mg base) 2 (He.fAd K ("_law_pick", none)) fd ps__law_pick m__law_pick :=
  let ⟨fd, F⟩ := B.c.def_ 3 (d := dA__law_pick) (by rfl)
  ⟨fd, fnat_of (n := 1) F sc__law_pick (F.bindsN fun _ _ _ _ _ _ us hl => match us, hl with | [_, _], _ => rfl) (d__law_pick (pg B) (F__law_take B) _)⟩
theorem F__law_pick {K : PySem.W.Frag} {P : Program} {w : World} {mg : Str → Option Value} {base : Heap} (B : Hd K mg) : Fn (tb K P w mg base) 2 "_law_pick" ps__law_pick m__law_pick :=
  let ⟨fd, A⟩ := A__law_pick B
  ⟨_, fd, A, B.glo (B.c.at 57 (f := faB (.glo "_law_pick")))⟩
theorem A__law_width {K : PySem.W.Frag} {P : Program} {w : World} {mg : Str → Option Value} {base : Heap} (B : Hd K mg) : ∃ fd, FnAt (tb K P w mg base) 3 (He.fAd K ("_law_width", none)) fd ps__law_width m__law_width :=
  let ⟨fd, F⟩ := B.c.def_ 2 (d := dA__law_width) (by rfl)
  ⟨fd, fnat_of (n := 2) F sc__law_width (F.bindsN fun _ _ _ _ _ _ us hl => match us, hl with | [_], _ => rfl) (d__law_width (pg B) (F__law_pick B) _)⟩
theorem F__law_width {K : PySem.W.Frag} {P : Program} {w : World} {mg : Str → Option Value} {base : Heap} (B : Hd K mg) : Fn (tb K P w mg base) 3 "_law_width" ps__law_width m__law_width :=
  let ⟨fd, A⟩ := A__law_width B
  ⟨_, fd, A, B.glo (B.c.at 58 (f := faB (.glo "_law_width")))⟩
theorem A__law_all {K : PySem.W.Frag} {P : Program} {w : World} {mg : Str → Option Value} {base : Heap} (B : Hd K mg) : ∃ fd, FnAt (tb K P w mg base) 1 (He.fAd K ("_law_all", none)) fd ps__law_all m__law_all :=
  let ⟨fd, F⟩ := B.c.def_ 8 (d := dA__law_all) (by rfl)
  ⟨fd, fnat_of (n := 0) F sc__law_all (F.bindsN fun _ _ _ _ _ _ us hl => match us, hl with | [_, _], _ => rfl) (d__law_all (pg B) _)⟩
theorem F__law_all {K : PySem.W.Frag} {P : Program} {w : World} {mg : Str → Option Value} {base : Heap} (B : Hd K mg) : Fn (tb K P w mg base) 1 "_law_all" ps__law_all m__law_all :=
  let ⟨fd, A⟩ := A__law_all B
  ⟨_, fd, A, B.glo (B.c.at 59 (f := faB (.glo "_law_all")))⟩
theorem A__law_known_tables {K : PySem.W.Frag} {P : Program} {w : World} {mg : Str → Option Value} {base : Heap} (B : Hd K mg) : ∃ fd, FnAt (tb K P w mg base) 2 (He.fAd K ("_law_known_tables", none)) fd ps__law_known_tables m__law_known_tables :=
  let ⟨fd, F⟩ := B.c.def_ 7 (d := dA__law_known_tables) (by rfl)
  ⟨fd, fnat_of (n := 1) F sc__law_known_tables (F.bindsN fun _ _ _ _ _ _ us hl => match us, hl with | [_], _ => rfl) (d__law_known_tables (pg B) (F__law_all B) _)⟩
theorem F__law_known_tables {K : PySem.W.Frag} {P : Program} {w : World} {mg : Str → Option Value} {base : Heap} (B : Hd K mg) : Fn (tb K P w mg base) 2 "_law_known_tables" ps__law_known_tables m__law_known_tables :=
  let ⟨fd, A⟩ := A__law_known_tables B
  ⟨_, fd, A, B.glo (B.c.at 60 (f := faB (.glo "_law_known_tables")))⟩
theorem A__law_drawn_row {K : PySem.W.Frag} {P : Program} {w : World} {mg : Str → Option Value} {base : Heap} (B : Hd K mg) : ∃ fd, FnAt (tb K P w mg base) 2 (He.fAd K ("_law_drawn_row", none)) fd ps__law_drawn_row m__law_drawn_row :=
  let ⟨fd, F⟩ := B.c.def_ 10 (d := dA__law_drawn_row) (by rfl)
  ⟨fd, fnat_of (n := 1) F sc__law_drawn_row (F.bindsN fun _ _ _ _ _ _ us hl => match us, hl with | [_, _, _], _ => rfl) (d__law_drawn_row (pg B) (F__law_take B) _)⟩
theorem F__law_drawn_row {K : PySem.W.Frag} {P : Program} {w : World} {mg : Str → Option Value} {base : Heap} (B : Hd K mg) : Fn (tb K P w mg base) 2 "_law_drawn_row" ps__law_drawn_row m__law_drawn_row :=
  let ⟨fd, A⟩ := A__law_drawn_row B
  ⟨_, fd, A, B.glo (B.c.at 61 (f := faB (.glo "_law_drawn_row")))⟩
theorem A__law_drawn_rows {K : PySem.W.Frag} {P : Program} {w : World} {mg : Str → Option Value} {base : Heap} (B : Hd K mg) : ∃ fd, FnAt (tb K P w mg base) 3 (He.fAd K ("_law_drawn_rows", none)) fd ps__law_drawn_rows m__law_drawn_rows :=
  let ⟨fd, F⟩ := B.c.def_ 9 (d := dA__law_drawn_rows) (by rfl)
  ⟨fd, fnat_of (n := 2) F sc__law_drawn_rows (F.bindsN fun _ _ _ _ _ _ us hl => match us, hl with | [_, _, _, _], _ => rfl) (d__law_drawn_rows (pg B) (F__law_take B) (F__law_drawn_row B) _)⟩
theorem F__law_drawn_rows {K : PySem.W.Frag} {P : Program} {w : World} {mg : Str → Option Value} {base : Heap} (B : Hd K mg) : Fn (tb K P w mg base) 3 "_law_drawn_rows" ps__law_drawn_rows m__law_drawn_rows :=
  let ⟨fd, A⟩ := A__law_drawn_rows B
  ⟨_, fd, A, B.glo (B.c.at 62 (f := faB (.glo "_law_drawn_rows")))⟩
theorem A__law_drawn_table {K : PySem.W.Frag} {P : Program} {w : World} {mg : Str → Option Value} {base : Heap} (B : Hd K mg) : ∃ fd, FnAt (tb K P w mg base) 4 (He.fAd K ("_law_drawn_table", none)) fd ps__law_drawn_table m__law_drawn_table :=
  let ⟨fd, F⟩ := B.c.def_ 6 (d := dA__law_drawn_table) (by rfl)
  ⟨fd, fnat_of (n := 3) F sc__law_drawn_table (F.bindsN fun _ _ _ _ _ _ us hl => match us, hl with | [_, _, _], _ => rfl) (d__law_drawn_table (pg B) (F__law_take B) (F__law_pick B) (F__law_known_tables B) (F__law_drawn_rows B) _)⟩
theorem F__law_drawn_table {K : PySem.W.Frag} {P : Program} {w : World} {mg : Str → Option Value} {base : Heap} (B : Hd K mg) : Fn (tb K P w mg base) 4 "_law_drawn_table" ps__law_drawn_table m__law_drawn_table :=
  let ⟨fd, A⟩ := A__law_drawn_table B
  ⟨_, fd, A, B.glo (B.c.at 63 (f := faB (.glo "_law_drawn_table")))⟩
theorem A__law_drawn_tables {K : PySem.W.Frag} {P : Program} {w : World} {mg : Str → Option Value} {base : Heap} (B : Hd K mg) : ∃ fd, FnAt (tb K P w mg base) 5 (He.fAd K ("_law_drawn_tables", none)) fd ps__law_drawn_tables m__law_drawn_tables :=
  let ⟨fd, F⟩ := B.c.def_ 5 (d := dA__law_drawn_tables) (by rfl)
  ⟨fd, fnat_of (n := 4) F sc__law_drawn_tables (F.bindsN fun _ _ _ _ _ _ us hl => match us, hl with | [_, _, _], _ => rfl) (d__law_drawn_tables (pg B) (F__law_take B) (F__law_drawn_table B) _)⟩
theorem F__law_drawn_tables {K : PySem.W.Frag} {P : Program} {w : World} {mg : Str → Option Value} {base : Heap} (B : Hd K mg) : Fn (tb K P w mg base) 5 "_law_drawn_tables" ps__law_drawn_tables m__law_drawn_tables :=
  let ⟨fd, A⟩ := A__law_drawn_tables B
  ⟨_, fd, A, B.glo (B.c.at 64 (f := faB (.glo "_law_drawn_tables")))⟩
theorem A_within {K : PySem.W.Frag} {P : Program} {w : World} {mg : Str → Option Value} {base : Heap} (B : Hd K mg) : ∃ fd, FnAt (tb K P w mg base) 1 (He.fAd K ("within", none)) fd ps_within m_within :=
  let ⟨fd, F⟩ := B.c.def_ 14 (d := dA_within) (by rfl)
  ⟨fd, fnat_of (n := 0) F sc_within (F.bindsN fun _ _ _ _ _ _ us hl => match us, hl with | [_, _, _], _ => rfl) (d_within (pg B) _)⟩
theorem F_within {K : PySem.W.Frag} {P : Program} {w : World} {mg : Str → Option Value} {base : Heap} (B : Hd K mg) : Fn (tb K P w mg base) 1 "within" ps_within m_within :=
  let ⟨fd, A⟩ := A_within B
  ⟨_, fd, A, B.glo (B.c.at 65 (f := faB (.glo "within")))⟩
theorem A_check_width {K : PySem.W.Frag} {P : Program} {w : World} {mg : Str → Option Value} {base : Heap} (B : Hd K mg) : ∃ fd, FnAt (tb K P w mg base) 2 (He.fAd K ("check_width", none)) fd ps_check_width m_check_width :=
  let ⟨fd, F⟩ := B.c.def_ 13 (d := dA_check_width) (by rfl)
  ⟨fd, fnat_of (n := 1) F sc_check_width (F.bindsN fun _ _ _ _ _ _ us hl => match us, hl with | [_], _ => rfl) (d_check_width (pg B) (F_within B) _)⟩
theorem F_check_width {K : PySem.W.Frag} {P : Program} {w : World} {mg : Str → Option Value} {base : Heap} (B : Hd K mg) : Fn (tb K P w mg base) 2 "check_width" ps_check_width m_check_width :=
  let ⟨fd, A⟩ := A_check_width B
  ⟨_, fd, A, B.glo (B.c.at 66 (f := faB (.glo "check_width")))⟩
theorem K_Book {K : PySem.W.Frag} {P : Program} {w : World} {mg : Str → Option Value} {base : Heap} (B : Hd K mg) : Mkr (tb K P w mg base) 3 1 "Book" ps_Book_init m_Book_init :=
  let ⟨fd, F⟩ := B.c.def_ 12 (d := dA_Book_init) (by rfl)
  mkr_of (n := 2) F sc_Book_init (F.bindsN fun _ _ _ _ _ _ us hl => match us, hl with | [_, _, _], _ => rfl) (He.mkr_ok (B.c.at 67 (f := faB (.mkr "Book")))) (B.glo (B.c.at 68 (f := faB (.glo "Book")))) (d_Book_init (pg B) (F_check_width B) _)
theorem A_check_arity {K : PySem.W.Frag} {P : Program} {w : World} {mg : Str → Option Value} {base : Heap} (B : Hd K mg) : ∃ fd, FnAt (tb K P w mg base) 2 (He.fAd K ("check_arity", none)) fd ps_check_arity m_check_arity :=
  let ⟨fd, F⟩ := B.c.def_ 17 (d := dA_check_arity) (by rfl)
  ⟨fd, fnat_of (n := 1) F sc_check_arity (F.bindsN fun _ _ _ _ _ _ us hl => match us, hl with | [_, _], _ => rfl) (d_check_arity (pg B) (F_within B) _)⟩
theorem F_check_arity {K : PySem.W.Frag} {P : Program} {w : World} {mg : Str → Option Value} {base : Heap} (B : Hd K mg) : Fn (tb K P w mg base) 2 "check_arity" ps_check_arity m_check_arity :=
  let ⟨fd, A⟩ := A_check_arity B
  ⟨_, fd, A, B.glo (B.c.at 69 (f := faB (.glo "check_arity")))⟩
theorem A_is_row {K : PySem.W.Frag} {P : Program} {w : World} {mg : Str → Option Value} {base : Heap} (B : Hd K mg) : ∃ fd, FnAt (tb K P w mg base) 2 (He.fAd K ("is_row", none)) fd ps_is_row m_is_row :=
  let ⟨fd, F⟩ := B.c.def_ 18 (d := dA_is_row) (by rfl)
  ⟨fd, fnat_of (n := 1) F sc_is_row (F.bindsN fun _ _ _ _ _ _ us hl => match us, hl with | [_, _, _], _ => rfl) (d_is_row (pg B) (F_within B) _)⟩
theorem F_is_row {K : PySem.W.Frag} {P : Program} {w : World} {mg : Str → Option Value} {base : Heap} (B : Hd K mg) : Fn (tb K P w mg base) 2 "is_row" ps_is_row m_is_row :=
  let ⟨fd, A⟩ := A_is_row B
  ⟨_, fd, A, B.glo (B.c.at 70 (f := faB (.glo "is_row")))⟩
theorem K_Table {K : PySem.W.Frag} {P : Program} {w : World} {mg : Str → Option Value} {base : Heap} (B : Hd K mg) : Mkr (tb K P w mg base) 3 0 "Table" ps_Table_init m_Table_init :=
  let ⟨fd, F⟩ := B.c.def_ 16 (d := dA_Table_init) (by rfl)
  mkr_of (n := 2) F sc_Table_init (F.bindsN fun _ _ _ _ _ _ us hl => match us, hl with | [_, _, _, _], _ => rfl) (He.mkr_ok (B.c.at 71 (f := faB (.mkr "Table")))) (B.glo (B.c.at 33 (f := faB (.glo "Table")))) (d_Table_init (pg B) (F_check_width B) (F_check_arity B) (F_is_row B) _)
theorem A__law_program_table {K : PySem.W.Frag} {P : Program} {w : World} {mg : Str → Option Value} {base : Heap} (B : Hd K mg) : ∃ fd, FnAt (tb K P w mg base) 5 (He.fAd K ("_law_program_table", none)) fd ps__law_program_table m__law_program_table :=
  let ⟨fd, F⟩ := B.c.def_ 15 (d := dA__law_program_table) (by rfl)
  ⟨fd, fnat_of (n := 4) F sc__law_program_table (F.bindsN fun _ _ _ _ _ _ us hl => match us, hl with | [_, _], _ => rfl) (d__law_program_table (pg B) (K_Table B) _)⟩
theorem F__law_program_table {K : PySem.W.Frag} {P : Program} {w : World} {mg : Str → Option Value} {base : Heap} (B : Hd K mg) : Fn (tb K P w mg base) 5 "_law_program_table" ps__law_program_table m__law_program_table :=
  let ⟨fd, A⟩ := A__law_program_table B
  ⟨_, fd, A, B.glo (B.c.at 72 (f := faB (.glo "_law_program_table")))⟩
theorem A__law_program_book {K : PySem.W.Frag} {P : Program} {w : World} {mg : Str → Option Value} {base : Heap} (B : Hd K mg) : ∃ fd, FnAt (tb K P w mg base) 6 (He.fAd K ("_law_program_book", none)) fd ps__law_program_book m__law_program_book :=
  let ⟨fd, F⟩ := B.c.def_ 11 (d := dA__law_program_book) (by rfl)
  ⟨fd, fnat_of (n := 5) F sc__law_program_book (F.bindsN fun _ _ _ _ _ _ us hl => match us, hl with | [_, _], _ => rfl) (d__law_program_book (pg B) (K_Book B) (F__law_program_table B) _)⟩
theorem F__law_program_book {K : PySem.W.Frag} {P : Program} {w : World} {mg : Str → Option Value} {base : Heap} (B : Hd K mg) : Fn (tb K P w mg base) 6 "_law_program_book" ps__law_program_book m__law_program_book :=
  let ⟨fd, A⟩ := A__law_program_book B
  ⟨_, fd, A, B.glo (B.c.at 73 (f := faB (.glo "_law_program_book")))⟩
theorem A__law_uses {K : PySem.W.Frag} {P : Program} {w : World} {mg : Str → Option Value} {base : Heap} (B : Hd K mg) : ∃ fd, FnAt (tb K P w mg base) 2 (He.fAd K ("_law_uses", none)) fd ps__law_uses m__law_uses :=
  let ⟨fd, F⟩ := B.c.def_ 19 (d := dA__law_uses) (by rfl)
  ⟨fd, fnat_of (n := 1) F sc__law_uses (F.bindsN fun _ _ _ _ _ _ us hl => match us, hl with | [_, _, _, _], _ => rfl) (d__law_uses (pg B) (F__law_take B) _)⟩
theorem F__law_uses {K : PySem.W.Frag} {P : Program} {w : World} {mg : Str → Option Value} {base : Heap} (B : Hd K mg) : Fn (tb K P w mg base) 2 "_law_uses" ps__law_uses m__law_uses :=
  let ⟨fd, A⟩ := A__law_uses B
  ⟨_, fd, A, B.glo (B.c.at 74 (f := faB (.glo "_law_uses")))⟩
theorem A__law_lines_of {K : PySem.W.Frag} {P : Program} {w : World} {mg : Str → Option Value} {base : Heap} (B : Hd K mg) : ∃ fd, FnAt (tb K P w mg base) 1 (He.fAd K ("_law_lines_of", none)) fd ps__law_lines_of m__law_lines_of :=
  let ⟨fd, F⟩ := B.c.def_ 20 (d := dA__law_lines_of) (by rfl)
  ⟨fd, fnat_of (n := 0) F sc__law_lines_of (F.bindsN fun _ _ _ _ _ _ us hl => match us, hl with | [_, _], _ => rfl) (d__law_lines_of (pg B) _)⟩
theorem F__law_lines_of {K : PySem.W.Frag} {P : Program} {w : World} {mg : Str → Option Value} {base : Heap} (B : Hd K mg) : Fn (tb K P w mg base) 1 "_law_lines_of" ps__law_lines_of m__law_lines_of :=
  let ⟨fd, A⟩ := A__law_lines_of B
  ⟨_, fd, A, B.glo (B.c.at 75 (f := faB (.glo "_law_lines_of")))⟩
theorem A__law_use_lines {K : PySem.W.Frag} {P : Program} {w : World} {mg : Str → Option Value} {base : Heap} (B : Hd K mg) : ∃ fd, FnAt (tb K P w mg base) 1 (He.fAd K ("_law_use_lines", none)) fd ps__law_use_lines m__law_use_lines :=
  let ⟨fd, F⟩ := B.c.def_ 21 (d := dA__law_use_lines) (by rfl)
  ⟨fd, fnat_of (n := 0) F sc__law_use_lines (F.bindsN fun _ _ _ _ _ _ us hl => match us, hl with | [_, _], _ => rfl) (d__law_use_lines (pg B) _)⟩
theorem F__law_use_lines {K : PySem.W.Frag} {P : Program} {w : World} {mg : Str → Option Value} {base : Heap} (B : Hd K mg) : Fn (tb K P w mg base) 1 "_law_use_lines" ps__law_use_lines m__law_use_lines :=
  let ⟨fd, A⟩ := A__law_use_lines B
  ⟨_, fd, A, B.glo (B.c.at 76 (f := faB (.glo "_law_use_lines")))⟩
theorem A__law_changed {K : PySem.W.Frag} {P : Program} {w : World} {mg : Str → Option Value} {base : Heap} (B : Hd K mg) : ∃ fd, FnAt (tb K P w mg base) 3 (He.fAd K ("_law_changed", none)) fd ps__law_changed m__law_changed :=
  let ⟨fd, F⟩ := B.c.def_ 22 (d := dA__law_changed) (by rfl)
  ⟨fd, fnat_of (n := 2) F sc__law_changed (F.bindsN fun _ _ _ _ _ _ us hl => match us, hl with | [_, _], _ => rfl) (d__law_changed (pg B) (F__law_take B) (F__law_pick B) _)⟩
theorem F__law_changed {K : PySem.W.Frag} {P : Program} {w : World} {mg : Str → Option Value} {base : Heap} (B : Hd K mg) : Fn (tb K P w mg base) 3 "_law_changed" ps__law_changed m__law_changed :=
  let ⟨fd, A⟩ := A__law_changed B
  ⟨_, fd, A, B.glo (B.c.at 77 (f := faB (.glo "_law_changed")))⟩
theorem A__law_number {K : PySem.W.Frag} {P : Program} {w : World} {mg : Str → Option Value} {base : Heap} (B : Hd K mg) : ∃ fd, FnAt (tb K P w mg base) 1 (He.fAd K ("_law_number", none)) fd ps__law_number m__law_number :=
  let ⟨fd, F⟩ := B.c.def_ 25 (d := dA__law_number) (by rfl)
  ⟨fd, fnat_of (n := 0) F sc__law_number (F.bindsN fun _ _ _ _ _ _ us hl => match us, hl with | [_], _ => rfl) (d__law_number (pg B) _)⟩
theorem F__law_number {K : PySem.W.Frag} {P : Program} {w : World} {mg : Str → Option Value} {base : Heap} (B : Hd K mg) : Fn (tb K P w mg base) 1 "_law_number" ps__law_number m__law_number :=
  let ⟨fd, A⟩ := A__law_number B
  ⟨_, fd, A, B.glo (B.c.at 78 (f := faB (.glo "_law_number")))⟩
theorem A__law_headed {K : PySem.W.Frag} {P : Program} {w : World} {mg : Str → Option Value} {base : Heap} (B : Hd K mg) : ∃ fd, FnAt (tb K P w mg base) 2 (He.fAd K ("_law_headed", none)) fd ps__law_headed m__law_headed :=
  let ⟨fd, F⟩ := B.c.def_ 24 (d := dA__law_headed) (by rfl)
  ⟨fd, fnat_of (n := 1) F sc__law_headed (F.bindsN fun _ _ _ _ _ _ us hl => match us, hl with | [_, _], _ => rfl) (d__law_headed (pg B) (F__law_number B) _)⟩
theorem F__law_headed {K : PySem.W.Frag} {P : Program} {w : World} {mg : Str → Option Value} {base : Heap} (B : Hd K mg) : Fn (tb K P w mg base) 2 "_law_headed" ps__law_headed m__law_headed :=
  let ⟨fd, A⟩ := A__law_headed B
  ⟨_, fd, A, B.glo (B.c.at 79 (f := faB (.glo "_law_headed")))⟩
theorem A__law_within {K : PySem.W.Frag} {P : Program} {w : World} {mg : Str → Option Value} {base : Heap} (B : Hd K mg) : ∃ fd, FnAt (tb K P w mg base) 1 (He.fAd K ("_law_within", none)) fd ps__law_within m__law_within :=
  let ⟨fd, F⟩ := B.c.def_ 27 (d := dA__law_within) (by rfl)
  ⟨fd, fnat_of (n := 0) F sc__law_within (F.bindsN fun _ _ _ _ _ _ us hl => match us, hl with | [_, _, _], _ => rfl) (d__law_within (pg B) _)⟩
theorem F__law_within {K : PySem.W.Frag} {P : Program} {w : World} {mg : Str → Option Value} {base : Heap} (B : Hd K mg) : Fn (tb K P w mg base) 1 "_law_within" ps__law_within m__law_within :=
  let ⟨fd, A⟩ := A__law_within B
  ⟨_, fd, A, B.glo (B.c.at 80 (f := faB (.glo "_law_within")))⟩
theorem A__law_is_row {K : PySem.W.Frag} {P : Program} {w : World} {mg : Str → Option Value} {base : Heap} (B : Hd K mg) : ∃ fd, FnAt (tb K P w mg base) 2 (He.fAd K ("_law_is_row", none)) fd ps__law_is_row m__law_is_row :=
  let ⟨fd, F⟩ := B.c.def_ 26 (d := dA__law_is_row) (by rfl)
  ⟨fd, fnat_of (n := 1) F sc__law_is_row (F.bindsN fun _ _ _ _ _ _ us hl => match us, hl with | [_, _, _], _ => rfl) (d__law_is_row (pg B) (F__law_within B) _)⟩
theorem F__law_is_row {K : PySem.W.Frag} {P : Program} {w : World} {mg : Str → Option Value} {base : Heap} (B : Hd K mg) : Fn (tb K P w mg base) 2 "_law_is_row" ps__law_is_row m__law_is_row :=
  let ⟨fd, A⟩ := A__law_is_row B
  ⟨_, fd, A, B.glo (B.c.at 81 (f := faB (.glo "_law_is_row")))⟩
theorem A__law_book_due {K : PySem.W.Frag} {P : Program} {w : World} {mg : Str → Option Value} {base : Heap} (B : Hd K mg) : ∃ fd, FnAt (tb K P w mg base) 3 (He.fAd K ("_law_book_due", none)) fd ps__law_book_due m__law_book_due :=
  let ⟨fd, F⟩ := B.c.def_ 23 (d := dA__law_book_due) (by rfl)
  ⟨fd, fnat_of (n := 2) F sc__law_book_due (F.bindsN fun _ _ _ _ _ _ us hl => match us, hl with | [_], _ => rfl) (d__law_book_due (pg B) (F__law_headed B) (F__law_number B) (F__law_is_row B) _)⟩
theorem F__law_book_due {K : PySem.W.Frag} {P : Program} {w : World} {mg : Str → Option Value} {base : Heap} (B : Hd K mg) : Fn (tb K P w mg base) 3 "_law_book_due" ps__law_book_due m__law_book_due :=
  let ⟨fd, A⟩ := A__law_book_due B
  ⟨_, fd, A, B.glo (B.c.at 82 (f := faB (.glo "_law_book_due")))⟩
theorem A__law_puzzle_due {K : PySem.W.Frag} {P : Program} {w : World} {mg : Str → Option Value} {base : Heap} (B : Hd K mg) : ∃ fd, FnAt (tb K P w mg base) 3 (He.fAd K ("_law_puzzle_due", none)) fd ps__law_puzzle_due m__law_puzzle_due :=
  let ⟨fd, F⟩ := B.c.def_ 28 (d := dA__law_puzzle_due) (by rfl)
  ⟨fd, fnat_of (n := 2) F sc__law_puzzle_due (F.bindsN fun _ _ _ _ _ _ us hl => match us, hl with | [_, _], _ => rfl) (d__law_puzzle_due (pg B) (F__law_headed B) (F__law_number B) (F__law_is_row B) _)⟩
theorem F__law_puzzle_due {K : PySem.W.Frag} {P : Program} {w : World} {mg : Str → Option Value} {base : Heap} (B : Hd K mg) : Fn (tb K P w mg base) 3 "_law_puzzle_due" ps__law_puzzle_due m__law_puzzle_due :=
  let ⟨fd, A⟩ := A__law_puzzle_due B
  ⟨_, fd, A, B.glo (B.c.at 83 (f := faB (.glo "_law_puzzle_due")))⟩
theorem sc_BadText_init : FnScope ["self", "line"] ["self", "line"] (defScope s_BadText_init) := ⟨by first | rfl | kernel_rfl, by first | rfl | kernel_rfl, by first | rfl | kernel_rfl, by decide +kernel, by first | rfl | kernel_rfl, by decide +kernel, by decide +kernel⟩
theorem C_BadText {K : PySem.W.Frag} {P : Program} {w : World} {mg : Str → Option Value} {base : Heap} (B : Hd K mg) : ErC (tb K P w mg base) 1 3 "BadText" "line" :=
  let ⟨fd, F⟩ := B.c.def_ 49 (d := dA_BadText_init) (by rfl)
  erC_of (B.c.at 84 (f := erB "BadText")) rfl (B.glo (B.c.at 85 (f := faB (.glo "BadText")))) (He.noat_ok (B.c.at 86 (f := faB (.noat "BadText" "line")))) rfl F sc_BadText_init (F.bindsN fun _ _ _ _ _ _ us hl => match us, hl with | [_, _], _ => rfl) (fun cdv A outer s H E => ps_ost (pv 0) (pv 1))
theorem A_Table_len {K : PySem.W.Frag} {P : Program} {w : World} {mg : Str → Option Value} {base : Heap} (B : Hd K mg) : ∃ fd, FnAt (tb K P w mg base) 1 (He.fAd K ("Table", some "__len__")) fd ps_Table_len m_Table_len :=
  let ⟨fd, F⟩ := B.c.def_ 31 (d := dA_Table_len) (by rfl)
  ⟨fd, fnat_of (n := 0) F sc_Table_len (F.bindsN fun _ _ _ _ _ _ us hl => match us, hl with | [_], _ => rfl) (d_Table_len (pg B) _)⟩
theorem A_Book_len {K : PySem.W.Frag} {P : Program} {w : World} {mg : Str → Option Value} {base : Heap} (B : Hd K mg) : ∃ fd, FnAt (tb K P w mg base) 1 (He.fAd K ("Book", some "__len__")) fd ps_Book_len m_Book_len :=
  let ⟨fd, F⟩ := B.c.def_ 32 (d := dA_Book_len) (by rfl)
  ⟨fd, fnat_of (n := 0) F sc_Book_len (F.bindsN fun _ _ _ _ _ _ us hl => match us, hl with | [_], _ => rfl) (d_Book_len (pg B) _)⟩
theorem A_Puzzle_len {K : PySem.W.Frag} {P : Program} {w : World} {mg : Str → Option Value} {base : Heap} (B : Hd K mg) : ∃ fd, FnAt (tb K P w mg base) 1 (He.fAd K ("Puzzle", some "__len__")) fd ps_Puzzle_len m_Puzzle_len :=
  let ⟨fd, F⟩ := B.c.def_ 33 (d := dA_Puzzle_len) (by rfl)
  ⟨fd, fnat_of (n := 0) F sc_Puzzle_len (F.bindsN fun _ _ _ _ _ _ us hl => match us, hl with | [_], _ => rfl) (d_Puzzle_len (pg B) _)⟩
theorem D_len_Table_Book_Puzzle {K : PySem.W.Frag} {P : Program} {w : World} {mg : Str → Option Value} {base : Heap} (B : Hd K mg) : Duns (tb K P w mg base) 1 "__len__" ms_len_Table_Book_Puzzle := fun j m e => by
  match j, e with
  | 0, e =>
    cases (show some m_Table_len = some m from e)
    obtain ⟨fd, A⟩ := A_Table_len (P := P) (w := w) (base := base) B
    obtain ⟨h1, h2, h3⟩ := dunB_ok (B.c.at 87 (f := duB "Table" "__len__"))
    exact ⟨_, ⟨_, fd, A.mono (by decide), h1, h2, h3⟩⟩
  | 1, e =>
    cases (show some m_Book_len = some m from e)
    obtain ⟨fd, A⟩ := A_Book_len (P := P) (w := w) (base := base) B
    obtain ⟨h1, h2, h3⟩ := dunB_ok (B.c.at 88 (f := duB "Book" "__len__"))
    exact ⟨_, ⟨_, fd, A.mono (by decide), h1, h2, h3⟩⟩
  | 2, e =>
    cases (show some m_Puzzle_len = some m from e)
    obtain ⟨fd, A⟩ := A_Puzzle_len (P := P) (w := w) (base := base) B
    obtain ⟨h1, h2, h3⟩ := dunB_ok (B.c.at 89 (f := duB "Puzzle" "__len__"))
    exact ⟨_, ⟨_, fd, A.mono (by decide), h1, h2, h3⟩⟩
  | n + 3, e => cases (show none = some m from e)
theorem A_Book_tables {K : PySem.W.Frag} {P : Program} {w : World} {mg : Str → Option Value} {base : Heap} (B : Hd K mg) : ∃ fd, FnAt (tb K P w mg base) 1 (pAd K (He.ga K "Book") "tables") fd ps_Book_tables m_Book_tables :=
  let ⟨fd, F⟩ := B.c.def_ 34 (d := dA_Book_tables) (by rfl)
  ⟨fd, fnat_of (n := 0) F sc_Book_tables (F.bindsN fun _ _ _ _ _ _ us hl => match us, hl with | [_], _ => rfl) (d_Book_tables (pg B) _)⟩
theorem P_tables_Book {K : PySem.W.Frag} {P : Program} {w : World} {mg : Str → Option Value} {base : Heap} (B : Hd K mg) : Prps (tb K P w mg base) 1 "tables" ms_tables_Book := fun j m e => by
  match j, e with
  | 0, e => cases (show none = some m from e)
  | 1, e =>
    cases (show some m_Book_tables = some m from e)
    obtain ⟨fd, A⟩ := A_Book_tables (P := P) (w := w) (base := base) B
    exact ⟨⟨_, _, fd, _, A.mono (by decide), propB_ok (B.c.at 90 (f := prB "Book" "tables"))⟩, He.cls_ok (B.c.at 14 (f := faB (.cls "Book")))⟩
  | 2, e => cases (show none = some m from e)
  | n + 3, e => cases (show none = some m from e)
theorem A_Table_rows {K : PySem.W.Frag} {P : Program} {w : World} {mg : Str → Option Value} {base : Heap} (B : Hd K mg) : ∃ fd, FnAt (tb K P w mg base) 1 (pAd K (He.ga K "Table") "rows") fd ps_Table_rows m_Table_rows :=
  let ⟨fd, F⟩ := B.c.def_ 35 (d := dA_Table_rows) (by rfl)
  ⟨fd, fnat_of (n := 0) F sc_Table_rows (F.bindsN fun _ _ _ _ _ _ us hl => match us, hl with | [_], _ => rfl) (d_Table_rows (pg B) _)⟩
theorem A_Puzzle_rows {K : PySem.W.Frag} {P : Program} {w : World} {mg : Str → Option Value} {base : Heap} (B : Hd K mg) : ∃ fd, FnAt (tb K P w mg base) 1 (pAd K (He.ga K "Puzzle") "rows") fd ps_Puzzle_rows m_Puzzle_rows :=
  let ⟨fd, F⟩ := B.c.def_ 36 (d := dA_Puzzle_rows) (by rfl)
  ⟨fd, fnat_of (n := 0) F sc_Puzzle_rows (F.bindsN fun _ _ _ _ _ _ us hl => match us, hl with | [_], _ => rfl) (d_Puzzle_rows (pg B) _)⟩
theorem P_rows_Table_Puzzle {K : PySem.W.Frag} {P : Program} {w : World} {mg : Str → Option Value} {base : Heap} (B : Hd K mg) : Prps (tb K P w mg base) 1 "rows" ms_rows_Table_Puzzle := fun j m e => by
  match j, e with
  | 0, e =>
    cases (show some m_Table_rows = some m from e)
    obtain ⟨fd, A⟩ := A_Table_rows (P := P) (w := w) (base := base) B
    exact ⟨⟨_, _, fd, _, A.mono (by decide), propB_ok (B.c.at 91 (f := prB "Table" "rows"))⟩, He.cls_ok (B.c.at 11 (f := faB (.cls "Table")))⟩
  | 1, e => cases (show none = some m from e)
  | 2, e =>
    cases (show some m_Puzzle_rows = some m from e)
    obtain ⟨fd, A⟩ := A_Puzzle_rows (P := P) (w := w) (base := base) B
    exact ⟨⟨_, _, fd, _, A.mono (by decide), propB_ok (B.c.at 92 (f := prB "Puzzle" "rows"))⟩, He.cls_ok (B.c.at 17 (f := faB (.cls "Puzzle")))⟩
  | n + 3, e => cases (show none = some m from e)
theorem A_written {K : PySem.W.Frag} {P : Program} {w : World} {mg : Str → Option Value} {base : Heap} (B : Hd K mg) : ∃ fd, FnAt (tb K P w mg base) 1 (He.fAd K ("written", none)) fd ps_written m_written :=
  let ⟨fd, F⟩ := B.c.def_ 37 (d := dA_written) (by rfl)
  ⟨fd, fnat_of (n := 0) F sc_written (F.bindsN fun _ _ _ _ _ _ us hl => match us, hl with | [_], _ => rfl) (d_written (pg B) _)⟩
theorem F_written {K : PySem.W.Frag} {P : Program} {w : World} {mg : Str → Option Value} {base : Heap} (B : Hd K mg) : Fn (tb K P w mg base) 1 "written" ps_written m_written :=
  let ⟨fd, A⟩ := A_written B
  ⟨_, fd, A, B.glo (B.c.at 93 (f := faB (.glo "written")))⟩
theorem A_show_book {K : PySem.W.Frag} {P : Program} {w : World} {mg : Str → Option Value} {base : Heap} (B : Hd K mg) : ∃ fd, FnAt (tb K P w mg base) 3 (He.fAd K ("show_book", none)) fd ps_show_book m_show_book :=
  let ⟨fd, F⟩ := B.c.def_ 30 (d := dA_show_book) (by rfl)
  ⟨fd, fnat_of (n := 2) F sc_show_book (F.bindsN fun _ _ _ _ _ _ us hl => match us, hl with | [_], _ => rfl) (d_show_book (pg B) (D_len_Table_Book_Puzzle B) (P_tables_Book B) (P_rows_Table_Puzzle B) (F_written B) _)⟩
theorem F_show_book {K : PySem.W.Frag} {P : Program} {w : World} {mg : Str → Option Value} {base : Heap} (B : Hd K mg) : Fn (tb K P w mg base) 3 "show_book" ps_show_book m_show_book :=
  let ⟨fd, A⟩ := A_show_book B
  ⟨_, fd, A, B.glo (B.c.at 94 (f := faB (.glo "show_book")))⟩
theorem A_lines_of {K : PySem.W.Frag} {P : Program} {w : World} {mg : Str → Option Value} {base : Heap} (B : Hd K mg) : ∃ fd, FnAtX (tb K P w mg base) 3 (He.fAd K ("lines_of", none)) fd ps_lines_of m_lines_of :=
  let ⟨fd, F⟩ := B.c.def_ 39 (d := dA_lines_of) (by rfl)
  ⟨fd, fnatX_of (n := 2) F sc_lines_of (F.bindsN fun _ _ _ _ _ _ us hl => match us, hl with | [_], _ => rfl) (d_lines_of (pg B) (C_BadText B) _)⟩
theorem FX_lines_of {K : PySem.W.Frag} {P : Program} {w : World} {mg : Str → Option Value} {base : Heap} (B : Hd K mg) : FnX (tb K P w mg base) 3 "lines_of" ps_lines_of m_lines_of :=
  let ⟨fd, A⟩ := A_lines_of B
  ⟨_, fd, A, B.glo (B.c.at 95 (f := faB (.glo "lines_of")))⟩
theorem A_number_of {K : PySem.W.Frag} {P : Program} {w : World} {mg : Str → Option Value} {base : Heap} (B : Hd K mg) : ∃ fd, FnAt (tb K P w mg base) 1 (He.fAd K ("number_of", none)) fd ps_number_of m_number_of :=
  let ⟨fd, F⟩ := B.c.def_ 41 (d := dA_number_of) (by rfl)
  ⟨fd, fnat_of (n := 0) F sc_number_of (F.bindsN fun _ _ _ _ _ _ us hl => match us, hl with | [_], _ => rfl) (d_number_of (pg B) _)⟩
theorem F_number_of {K : PySem.W.Frag} {P : Program} {w : World} {mg : Str → Option Value} {base : Heap} (B : Hd K mg) : Fn (tb K P w mg base) 1 "number_of" ps_number_of m_number_of :=
  let ⟨fd, A⟩ := A_number_of B
  ⟨_, fd, A, B.glo (B.c.at 96 (f := faB (.glo "number_of")))⟩
theorem A_headed {K : PySem.W.Frag} {P : Program} {w : World} {mg : Str → Option Value} {base : Heap} (B : Hd K mg) : ∃ fd, FnAtX (tb K P w mg base) 3 (He.fAd K ("headed", none)) fd ps_headed m_headed :=
  let ⟨fd, F⟩ := B.c.def_ 40 (d := dA_headed) (by rfl)
  ⟨fd, fnatX_of (n := 2) F sc_headed (F.bindsN fun _ _ _ _ _ _ us hl => match us, hl with | [_, _, _], _ => rfl) (d_headed (pg B) (C_BadText B) (F_number_of B) _)⟩
theorem FX_headed {K : PySem.W.Frag} {P : Program} {w : World} {mg : Str → Option Value} {base : Heap} (B : Hd K mg) : FnX (tb K P w mg base) 3 "headed" ps_headed m_headed :=
  let ⟨fd, A⟩ := A_headed B
  ⟨_, fd, A, B.glo (B.c.at 97 (f := faB (.glo "headed")))⟩
theorem A_numbers_in {K : PySem.W.Frag} {P : Program} {w : World} {mg : Str → Option Value} {base : Heap} (B : Hd K mg) : ∃ fd, FnAt (tb K P w mg base) 2 (He.fAd K ("numbers_in", none)) fd ps_numbers_in m_numbers_in :=
  let ⟨fd, F⟩ := B.c.def_ 43 (d := dA_numbers_in) (by rfl)
  ⟨fd, fnat_of (n := 1) F sc_numbers_in (F.bindsN fun _ _ _ _ _ _ us hl => match us, hl with | [_], _ => rfl) (d_numbers_in (pg B) (F_number_of B) _)⟩
theorem F_numbers_in {K : PySem.W.Frag} {P : Program} {w : World} {mg : Str → Option Value} {base : Heap} (B : Hd K mg) : Fn (tb K P w mg base) 2 "numbers_in" ps_numbers_in m_numbers_in :=
  let ⟨fd, A⟩ := A_numbers_in B
  ⟨_, fd, A, B.glo (B.c.at 98 (f := faB (.glo "numbers_in")))⟩
theorem A_table_at {K : PySem.W.Frag} {P : Program} {w : World} {mg : Str → Option Value} {base : Heap} (B : Hd K mg) : ∃ fd, FnAtX (tb K P w mg base) 5 (He.fAd K ("table_at", none)) fd ps_table_at m_table_at :=
  let ⟨fd, F⟩ := B.c.def_ 42 (d := dA_table_at) (by rfl)
  ⟨fd, fnatX_of (n := 4) F sc_table_at (F.bindsN fun _ _ _ _ _ _ us hl => match us, hl with | [_, _, _], _ => rfl) (d_table_at (pg B) (FX_headed B) (F_within B) (C_BadText B) (F_numbers_in B) (F_is_row B) (K_Table B) _)⟩
theorem FX_table_at {K : PySem.W.Frag} {P : Program} {w : World} {mg : Str → Option Value} {base : Heap} (B : Hd K mg) : FnX (tb K P w mg base) 5 "table_at" ps_table_at m_table_at :=
  let ⟨fd, A⟩ := A_table_at B
  ⟨_, fd, A, B.glo (B.c.at 99 (f := faB (.glo "table_at")))⟩
theorem A_read_book {K : PySem.W.Frag} {P : Program} {w : World} {mg : Str → Option Value} {base : Heap} (B : Hd K mg) : ∃ fd, FnAtX (tb K P w mg base) 6 (He.fAd K ("read_book", none)) fd ps_read_book m_read_book :=
  let ⟨fd, F⟩ := B.c.def_ 38 (d := dA_read_book) (by rfl)
  ⟨fd, fnatX_of (n := 5) F sc_read_book (F.bindsN fun _ _ _ _ _ _ us hl => match us, hl with | [_], _ => rfl) (d_read_book (pg B) (FX_lines_of B) (FX_headed B) (F_within B) (C_BadText B) (FX_table_at B) (K_Book B) _)⟩
theorem FX_read_book {K : PySem.W.Frag} {P : Program} {w : World} {mg : Str → Option Value} {base : Heap} (B : Hd K mg) : FnX (tb K P w mg base) 6 "read_book" ps_read_book m_read_book :=
  let ⟨fd, A⟩ := A_read_book B
  ⟨_, fd, A, B.glo (B.c.at 100 (f := faB (.glo "read_book")))⟩
theorem A_show_puzzle {K : PySem.W.Frag} {P : Program} {w : World} {mg : Str → Option Value} {base : Heap} (B : Hd K mg) : ∃ fd, FnAt (tb K P w mg base) 3 (He.fAd K ("show_puzzle", none)) fd ps_show_puzzle m_show_puzzle :=
  let ⟨fd, F⟩ := B.c.def_ 44 (d := dA_show_puzzle) (by rfl)
  ⟨fd, fnat_of (n := 2) F sc_show_puzzle (F.bindsN fun _ _ _ _ _ _ us hl => match us, hl with | [_], _ => rfl) (d_show_puzzle (pg B) (D_len_Table_Book_Puzzle B) (P_rows_Table_Puzzle B) (F_written B) _)⟩
theorem F_show_puzzle {K : PySem.W.Frag} {P : Program} {w : World} {mg : Str → Option Value} {base : Heap} (B : Hd K mg) : Fn (tb K P w mg base) 3 "show_puzzle" ps_show_puzzle m_show_puzzle :=
  let ⟨fd, A⟩ := A_show_puzzle B
  ⟨_, fd, A, B.glo (B.c.at 101 (f := faB (.glo "show_puzzle")))⟩
theorem A_Book_getitem {K : PySem.W.Frag} {P : Program} {w : World} {mg : Str → Option Value} {base : Heap} (B : Hd K mg) : ∃ fd, FnAt (tb K P w mg base) 2 (He.fAd K ("Book", some "__getitem__")) fd ps_Book_getitem m_Book_getitem :=
  let ⟨fd, F⟩ := B.c.def_ 47 (d := dA_Book_getitem) (by rfl)
  ⟨fd, fnat_of (n := 1) F sc_Book_getitem (F.bindsN fun _ _ _ _ _ _ us hl => match us, hl with | [_, _], _ => rfl) (d_Book_getitem (pg B) (F_within B) _)⟩
theorem D_getitem_Book {K : PySem.W.Frag} {P : Program} {w : World} {mg : Str → Option Value} {base : Heap} (B : Hd K mg) : Duns (tb K P w mg base) 2 "__getitem__" ms_getitem_Book := fun j m e => by
  match j, e with
  | 0, e => cases (show none = some m from e)
  | 1, e =>
    cases (show some m_Book_getitem = some m from e)
    obtain ⟨fd, A⟩ := A_Book_getitem (P := P) (w := w) (base := base) B
    obtain ⟨h1, h2, h3⟩ := dunB_ok (B.c.at 102 (f := duB "Book" "__getitem__"))
    exact ⟨_, ⟨_, fd, A.mono (by decide), h1, h2, h3⟩⟩
  | 2, e => cases (show none = some m from e)
  | n + 3, e => cases (show none = some m from e)
theorem A_is_use {K : PySem.W.Frag} {P : Program} {w : World} {mg : Str → Option Value} {base : Heap} (B : Hd K mg) : ∃ fd, FnAt (tb K P w mg base) 4 (He.fAd K ("is_use", none)) fd ps_is_use m_is_use :=
  let ⟨fd, F⟩ := B.c.def_ 46 (d := dA_is_use) (by rfl)
  ⟨fd, fnat_of (n := 3) F sc_is_use (F.bindsN fun _ _ _ _ _ _ us hl => match us, hl with | [_, _, _], _ => rfl) (d_is_use (pg B) (F_within B) (D_len_Table_Book_Puzzle B) (F_is_row B) (D_getitem_Book B) _)⟩
theorem F_is_use {K : PySem.W.Frag} {P : Program} {w : World} {mg : Str → Option Value} {base : Heap} (B : Hd K mg) : Fn (tb K P w mg base) 4 "is_use" ps_is_use m_is_use :=
  let ⟨fd, A⟩ := A_is_use B
  ⟨_, fd, A, B.glo (B.c.at 103 (f := faB (.glo "is_use")))⟩
theorem K_Puzzle {K : PySem.W.Frag} {P : Program} {w : World} {mg : Str → Option Value} {base : Heap} (B : Hd K mg) : Mkr (tb K P w mg base) 5 2 "Puzzle" ps_Puzzle_init m_Puzzle_init :=
  let ⟨fd, F⟩ := B.c.def_ 48 (d := dA_Puzzle_init) (by rfl)
  mkr_of (n := 4) F sc_Puzzle_init (F.bindsN fun _ _ _ _ _ _ us hl => match us, hl with | [_, _, _, _], _ => rfl) (He.mkr_ok (B.c.at 104 (f := faB (.mkr "Puzzle")))) (B.glo (B.c.at 105 (f := faB (.glo "Puzzle")))) (d_Puzzle_init (pg B) (F_within B) (F_is_use B) _)
theorem A_read_puzzle {K : PySem.W.Frag} {P : Program} {w : World} {mg : Str → Option Value} {base : Heap} (B : Hd K mg) : ∃ fd, FnAtX (tb K P w mg base) 7 (He.fAd K ("read_puzzle", none)) fd ps_read_puzzle m_read_puzzle :=
  let ⟨fd, F⟩ := B.c.def_ 45 (d := dA_read_puzzle) (by rfl)
  ⟨fd, fnatX_of (n := 6) F sc_read_puzzle (F.bindsN fun _ _ _ _ _ _ us hl => match us, hl with | [_, _], _ => rfl) (d_read_puzzle (pg B) (FX_lines_of B) (FX_headed B) (C_BadText B) (F_number_of B) (F_numbers_in B) (F_is_use B) (K_Puzzle B) _)⟩
theorem FX_read_puzzle {K : PySem.W.Frag} {P : Program} {w : World} {mg : Str → Option Value} {base : Heap} (B : Hd K mg) : FnX (tb K P w mg base) 7 "read_puzzle" ps_read_puzzle m_read_puzzle :=
  let ⟨fd, A⟩ := A_read_puzzle B
  ⟨_, fd, A, B.glo (B.c.at 106 (f := faB (.glo "read_puzzle")))⟩
theorem A__law_told {K : PySem.W.Frag} {P : Program} {w : World} {mg : Str → Option Value} {base : Heap} (B : Hd K mg) : ∃ fd, FnAt (tb K P w mg base) 8 (He.fAd K ("_law_told", none)) fd ps__law_told m__law_told :=
  let ⟨fd, F⟩ := B.c.def_ 29 (d := dA__law_told) (by rfl)
  ⟨fd, fnat_of (n := 7) F sc__law_told (F.bindsN fun _ _ _ _ _ _ us hl => match us, hl with | [_, _, _], _ => rfl) (d__law_told (pg B) (C_BadText B) (F_show_book B) (FX_read_book B) (F_show_puzzle B) (FX_read_puzzle B) _)⟩
theorem F__law_told {K : PySem.W.Frag} {P : Program} {w : World} {mg : Str → Option Value} {base : Heap} (B : Hd K mg) : Fn (tb K P w mg base) 8 "_law_told" ps__law_told m__law_told :=
  let ⟨fd, A⟩ := A__law_told B
  ⟨_, fd, A, B.glo (B.c.at 107 (f := faB (.glo "_law_told")))⟩
theorem A_law {K : PySem.W.Frag} {P : Program} {w : World} {mg : Str → Option Value} {base : Heap} (B : Hd K mg) : ∃ fd, FnAt (tb K P w mg base) 9 (He.fAd K ("law", none)) fd ps_law m_law :=
  let ⟨fd, F⟩ := B.c.def_ 0 (d := dA_law) (by rfl)
  ⟨fd, fnat_of (n := 8) F sc_law (F.bindsN fun _ _ _ _ _ _ us hl => match us, hl with | [_], _ => rfl) (d_law (pg B) (F__law_feed B) (F__law_width B) (F__law_drawn_tables B) (F__law_program_book B) (F__law_take B) (F__law_uses B) (F__law_lines_of B) (F__law_use_lines B) (F__law_pick B) (F__law_changed B) (F__law_book_due B) (F__law_puzzle_due B) (F__law_told B) _)⟩
theorem F_law {K : PySem.W.Frag} {P : Program} {w : World} {mg : Str → Option Value} {base : Heap} (B : Hd K mg) : Fn (tb K P w mg base) 9 "law" ps_law m_law :=
  let ⟨fd, A⟩ := A_law B
  ⟨_, fd, A, B.glo (B.c.at 108 (f := faB (.glo "law")))⟩
theorem A_lawS (K : PySem.W.Frag) (P : Program) (w : World) (mg : Str → Option Value) (B : Hd K mg) {f : Addr} (hfa : mg ("law" : Str) = some (.ref f)) :
    ∃ fd : FuncData, (∀ (s : Shared) (v : Value), BindsTo s fd ⟨[v], []⟩ [("script", v)]) ∧ ∀ base : Heap, FnAt (tb K P w mg base) 9 f fd ps_law m_law := by
  obtain ⟨fd, F⟩ := B.c.def_ 0 (d := dA_law) (by rfl)
  have e := hfa.symm.trans (B.glo (B.c.at 108 (f := faB (.glo "law"))))
  cases e
  have b := FunD.bindsA (ps := ["script"]) F fun _ _ _ _ _ _ us hl => match us, hl with | [_], _ => rfl
  refine ⟨fd, fun s v => b s [v] rfl, fun base => ?_⟩
  exact fnat_of (n := 8) F sc_law (F.bindsN fun _ _ _ _ _ _ us hl => match us, hl with | [_], _ => rfl) (d_law (pg B) (F__law_feed B) (F__law_width B) (F__law_drawn_tables B) (F__law_program_book B) (F__law_take B) (F__law_uses B) (F__law_lines_of B) (F__law_use_lines B) (F__law_pick B) (F__law_changed B) (F__law_book_due B) (F__law_puzzle_due B) (F__law_told B) _)
/-- what the law's mathematics has to say -/
def LawSays : Prop := ∀ ns : List Int, ns.length ≤ 63 → ∃ c', m_law [.scr ns] [] = some (.bl true, c')
def spLaw (K : PySem.W.Frag) : Sp := fun vs H Q _ => ∃ (a : Addr) (ns : List Int), vs = [.ref a] ∧ ns.length ≤ 63 ∧ SqL K H a (ns.map V.int) ∧ ∀ H', Q (.bl true) H'
end H58
set_option Elab.async false
set_option linter.all false
set_option maxRecDepth 100000
set_option maxHeartbeats 0
/-! Ma0: plain laws of the readings' parts. -/
namespace Ma
open PySem PySem.Spec PyProof.Rows L2 Pd TL

/-! ### data that compare equal to themselves -/
mutual
theorem pdn_self : ∀ (k : Nat) (d : D) (p : PyData), pdn k d = some p → PyData.eqv p p = true
  | k, .non, p, e => by simp only [pdn] at e; cases e; rfl
  | k, .bl b, p, e => by simp only [pdn] at e; cases e; simp [PyData.eqv]
  | k, .int i, p, e => by simp only [pdn] at e; cases e; simp [PyData.eqv]
  | k, .str x, p, e => by
    simp only [pdn] at e
    split at e <;> cases e
    simp [PyData.eqv]
  | 0, .tup xs, p, e => by simp [pdn] at e
  | 0, .lst xs, p, e => by simp [pdn] at e
  | k + 1, .tup xs, p, e => by
    simp only [pdn] at e
    split at e <;> cases e
    rename_i ps h
    simp only [PyData.eqv]
    exact pdns_self k xs ps h
  | k + 1, .lst xs, p, e => by
    simp only [pdn] at e
    split at e <;> cases e
    rename_i ps h
    simp only [PyData.eqv]
    exact pdns_self k xs ps h
  | k, .dic ks vs, p, e => by cases k <;> simp [pdn] at e
  | k, .obj c vs, p, e => by cases k <;> simp [pdn] at e
  | k, .cell c, p, e => by cases k <;> simp [pdn] at e
  | k, .scr c, p, e => by cases k <;> simp [pdn] at e
  | k, .cls c, p, e => by cases k <;> simp [pdn] at e
theorem pdns_self : ∀ (k : Nat) (ds : List D) (ps : List PyData), pdns k ds = some ps → PyData.eqvAll ps ps = true
  | k, [], ps, e => by simp only [pdns] at e; cases e; simp [PyData.eqvAll]
  | k, x :: xs, ps, e => by
    simp only [pdns] at e
    split at e <;> cases e
    rename_i p ps h1 h2
    simp only [PyData.eqvAll, pdn_self k x p h1, pdns_self k xs ps h2, Bool.and_self]
end
theorem oEq_self {d : D} {p : PyData} {c : Cs} (h : pdn deep d = some p) : oEq d d c = some (.bl true, c) := by
  simp only [oEq, h, pdn_self _ _ _ h]
theorem oNe_self {d : D} {p : PyData} {c : Cs} (h : pdn deep d = some p) : oNe d d c = some (.bl false, c) := by
  simp only [oNe, h, pdn_self _ _ _ h, Bool.not_true]

/-! ### rows -/
theorem pdns_ints (k : Nat) : ∀ r : List Int, pdns k (r.map .int) = some (r.map .int)
  | [] => by simp [pdns]
  | x :: r => by simp [pdns, pdn, pdns_ints k r]
theorem pdn_tupI (k : Nat) (r : List Int) : pdn (k + 1) (tupI r) = some (.tuple (r.map .int)) := by simp [tupI, pdn, pdns_ints]
theorem pdns_tupI (k : Nat) : ∀ rs : List (List Int), pdns (k + 1) (rs.map tupI) = some (rs.map fun r => .tuple (r.map .int))
  | [] => by simp [pdns]
  | x :: r => by simp only [List.map_cons, pdns, pdn_tupI, pdns_tupI k r]
theorem pdn_rows (k : Nat) (rs : List (List Int)) : pdn (k + 2) (.lst (rs.map tupI)) = some (.list (rs.map fun r => .tuple (r.map .int))) := by
  simp only [pdn, pdns_tupI]
theorem nks_ints : ∀ r : List Int, nks (r.map .int) = some (r.map .num)
  | [] => by simp [nks]
  | x :: r => by simp [nks, nk, nks_ints r]
theorem nk_tupI (r : List Int) : nk (tupI r) = some (.tup (r.map .num)) := by simp [tupI, nk, nks_ints]
theorem map_num_inj : ∀ {r s : List Int}, r.map NestedKey.num = s.map NestedKey.num → r = s
  | [], [], _ => rfl
  | [], _ :: _, h => by simp at h
  | _ :: _, [], h => by simp at h
  | x :: r, y :: s, h => by
    simp only [List.map_cons, List.cons.injEq, NestedKey.num.injEq] at h
    rw [h.1, map_num_inj h.2]
theorem nk_inj {r s : List Int} : nk (tupI r) = nk (tupI s) ↔ r = s := by
  rw [nk_tupI, nk_tupI]
  constructor
  · intro h
    simp only [Option.some.injEq, NestedKey.tup.injEq] at h
    exact map_num_inj h
  · intro h
    rw [h]
theorem depth_nums : ∀ r : List Int, NestedKey.depthAll (r.map NestedKey.num) = 0
  | [] => rfl
  | x :: r => by
    show max 0 (NestedKey.depthAll (r.map NestedKey.num)) = 0
    rw [depth_nums r]; rfl
theorem keyOk_tupI (r : List Int) : keyOk (tupI r) = true := by
  have e : keyOk (tupI r) = (match nk (tupI r) with | some k => decide (k.depth ≤ 8) | none => false) := rfl
  rw [e, nk_tupI]
  have : (NestedKey.tup (r.map NestedKey.num)).depth = 1 := by
    show NestedKey.depthAll (r.map NestedKey.num) + 1 = 1
    rw [depth_nums]
  simp [this]
theorem all_isTup (rs : List (List Int)) : (rs.map tupI).all isTupD = true := by
  rw [List.all_eq_true]
  intro d hd
  obtain ⟨r, _, rfl⟩ := List.mem_map.mp hd
  rfl
theorem dHas_rows (rs : List (List Int)) (r : List Int) : dHas (rs.map tupI) (tupI r) = decide (r ∈ rs) := by
  unfold dHas
  rw [List.any_map]
  by_cases h : r ∈ rs
  · rw [decide_eq_true h, List.any_eq_true]
    exact ⟨r, h, by simp⟩
  · rw [decide_eq_false h, List.any_eq_false]
    intro s hs
    simp only [Function.comp, decide_eq_true_eq, nk_inj]
    intro e
    exact h (e ▸ hs)
/-- a new row -/
theorem set_new {rs : List (List Int)} {r : List Int} {vs : List D} {v : D} (h : r ∉ rs) (hl : rs.length < lim) : uSetN (.dic (rs.map tupI) vs) (tupI r) v = some (.dic ((rs ++ [r]).map tupI) (vs ++ [v])) := by
  have : dHas (rs.map tupI) (tupI r) = false := by rw [dHas_rows]; exact decide_eq_false h
  simp only [uSetN, all_isTup, keyOk_tupI, List.length_map, hl, decide_true, Bool.and_self, if_true, dPut, this, List.map_append, List.map_cons, List.map_nil, Bool.false_eq_true, if_false]

/-! ### sorted -/
theorem dataLe_tups {β : Type} (x : β → List Int) : PySem.W.dataLe false (fun b => .tuple ((x b).map .int)) = fun p q => decide (x p ≤ x q) := by
  rw [← PySem.W.dataLe_rows x]
  funext p q
  rw [PySem.W.dataLe_eq, PySem.W.dataLe_eq]
  simp only [PySem.W.dataLt_tuple, PySem.W.dataLt_list]
theorem alike_ints : ∀ (r s : List Int), PySem.W.alikeAll (r.map .int) (s.map .int) = true
  | [], _ => by simp [PySem.W.alikeAll]
  | _ :: _, [] => by simp [PySem.W.alikeAll]
  | x :: r, y :: s => by simp [PySem.W.alikeAll, PySem.W.alike, alike_ints r s]
theorem sort_rows {rs : List (List Int)} (hs : StrI rs) (hn : ∀ r ∈ rs, r ≠ []) (hl : rs.length ≤ lim) (vs : List D) (c : Cs) : bSortA [.dic (rs.map tupI) vs] c = some (.lst (rs.map tupI), c) := by
  have e1 : pdns deep (rs.map tupI) = some (rs.map fun r => .tuple (r.map .int)) := pdns_tupI 59 rs
  have e2 : alikeB (rs.map fun r => (.tuple (r.map .int) : PyData)) = true := by
    unfold alikeB
    rw [List.all_eq_true]; intro d hd
    rw [List.all_eq_true]; intro e he
    obtain ⟨r, _, rfl⟩ := List.mem_map.mp hd
    obtain ⟨s, _, rfl⟩ := List.mem_map.mp he
    simp [PySem.W.alike, alike_ints]
  have e3 : sortB (rs.map fun r => (.tuple (r.map .int) : PyData)) = true := by
    unfold sortB
    rw [Bool.or_eq_true_iff]; left
    rw [List.all_eq_true]; intro d hd
    obtain ⟨r, hr, rfl⟩ := List.mem_map.mp hd
    cases r with
    | nil => exact absurd rfl (hn _ hr)
    | cons x r => rfl
  have e4 : sortD (rs.map tupI) (rs.map fun r => (.tuple (r.map .int) : PyData)) = rs.map tupI := by
    unfold sortD
    have z : (rs.map tupI).zip (rs.map fun r => (.tuple (r.map .int) : PyData)) = rs.map fun r => (tupI r, (.tuple (r.map .int) : PyData)) := by
      clear hs hn hl e1 e2 e3
      induction rs with
      | nil => rfl
      | cons x r ih => simp only [List.map_cons, List.zip_cons_cons, ih]
    rw [z, List.mergeSort_of_pairwise]
    · rw [List.map_map]; rfl
    · rw [List.pairwise_map]
      refine hs.imp fun {a b} h => ?_
      have := congrFun (congrFun (dataLe_tups (fun r : List Int => r)) a) b
      have t : PySem.W.dataLe false (·.2) (tupI a, (.tuple (a.map .int) : PyData)) (tupI b, (.tuple (b.map .int) : PyData)) = PySem.W.dataLe false (fun b : List Int => (.tuple (b.map .int) : PyData)) a b := rfl
      rw [t, this]
      exact decide_eq_true (List.le_of_lt h)
  unfold bSortA
  simp only [deref, e1, all_isTup, e2, e3, e4, List.length_map, hl, decide_true, Bool.and_self, if_true]
end Ma
set_option Elab.async false
set_option linter.all false
set_option maxRecDepth 100000
set_option maxHeartbeats 0
/-! Ma1: texts: numbers, lines, words. -/
namespace Ma
open PySem PySem.Spec PyProof.Rows L2 Pd TL
/-- a number's text -/
abbrev numS (i : Int) : Str := Str.ofString (toString i)
theorem tl_numS {i : Int} (h : 0 ≤ i) : tl (numS i) = numL i.toNat := by
  obtain ⟨n, rfl⟩ := Int.eq_ofNat_of_zero_le h
  exact tl_num n
theorem smStr_ok {i : Int} (h : 0 ≤ i) (h2 : i < 1000000000) : smStr i = true := by
  obtain ⟨n, rfl⟩ := Int.eq_ofNat_of_zero_le h
  have hn : n < 2 ^ 1920 := Nat.lt_of_lt_of_le (show n < 1000000000 by omega) (by decide)
  unfold smStr
  rw [Int.natAbs_natCast, decide_eq_true_eq]
  by_cases hz : n = 0
  · subst hz; decide
  · exact (Nat.log2_lt hz).mpr hn
theorem numS_len {i : Int} (h : 0 ≤ i) (h2 : i < 1000000000) : (numS i).length ≤ 9 ∧ 1 ≤ (numS i).length := by
  rw [len_tl, tl_numS h]
  refine ⟨numL_len (by decide) (by omega), ?_⟩
  exact List.length_pos_iff.mpr (numL_ne _)
/-- signs below 128 -/
def Asc (x : Str) : Prop := ∀ c ∈ tl x, c < 128
theorem asc_num {i : Int} (h : 0 ≤ i) : Asc (numS i) := by
  intro c hc
  rw [tl_numS h] at hc
  have := numL_digits _ c hc
  omega
theorem strOk_of {x : Str} (h : Asc x) : PyData.strOk x = true := by
  unfold PyData.strOk
  rw [← Array.all_toList, List.all_eq_true]
  intro c hc
  have := h c hc
  exact decide_eq_true (by omega)
theorem pdn_str {x : Str} (k : Nat) (h : Asc x) : pdn k (.str x) = some (.str x) := by
  simp only [pdn, strOk_of h, if_true]
theorem eqv_str (x y : Str) : PyData.eqv (.str x) (.str y) = decide (x = y) := by
  simp only [PyData.eqv]
  by_cases h : x = y
  · subst h; simp
  · simp [h]
theorem asc_append {x y : Str} (hx : Asc x) (hy : Asc y) : Asc (x ++ y) := by
  intro c hc
  rw [tl_append] at hc
  rcases List.mem_append.mp hc with h | h
  · exact hx c h
  · exact hy c h
theorem joinL_mem {S : List Nat} {c : Nat} : ∀ {l : List (List Nat)}, c ∈ joinL S l → c ∈ S ∨ ∃ p ∈ l, c ∈ p
  | [], h => by simp [joinL] at h
  | [p], h => .inr ⟨p, List.mem_cons_self .., h⟩
  | p :: q :: r, h => by
    simp only [joinL, List.mem_append] at h
    rcases h with h | h | h
    · exact .inr ⟨p, List.mem_cons_self .., h⟩
    · exact .inl h
    · rcases joinL_mem h with h | ⟨p', hp, hc⟩
      · exact .inl h
      · exact .inr ⟨p', List.mem_cons_of_mem _ hp, hc⟩
theorem tl_joinT (y : Str) (ps : List Str) : tl (Txt.join y ps) = joinL (tl y) (ps.map tl) := by rw [join_eq, tl_join]
theorem mem_join {y : Str} {c : Nat} {ps : List Str} (h : c ∈ tl (Txt.join y ps)) : c ∈ tl y ∨ ∃ p ∈ ps, c ∈ tl p := by
  rw [tl_joinT] at h
  rcases joinL_mem h with h | ⟨p, hp, hc⟩
  · exact .inl h
  · obtain ⟨q, hq, rfl⟩ := List.mem_map.mp hp
    exact .inr ⟨q, hq, hc⟩
theorem asc_join {y : Str} {ps : List Str} (hy : Asc y) (h : ∀ p ∈ ps, Asc p) : Asc (Txt.join y ps) := by
  intro c hc
  rcases mem_join hc with h1 | ⟨p, hp, h1⟩
  · exact hy c h1
  · exact h p hp c h1
theorem joinL_len {S : List Nat} : ∀ l : List (List Nat), (joinL S l).length ≤ (l.map (·.length)).sum + l.length * S.length
  | [] => by simp [joinL]
  | [p] => by simp [joinL]
  | p :: q :: r => by
    have := joinL_len (S := S) (q :: r)
    simp only [joinL, List.length_append, List.map_cons, List.sum_cons, List.length_cons] at this ⊢
    have e : (r.length + 1 + 1) * S.length = S.length + (r.length + 1) * S.length := by rw [Nat.add_mul (r.length + 1) 1, Nat.one_mul, Nat.add_comm]
    rw [e]
    omega
theorem join_len (y : Str) (ps : List Str) : (Txt.join y ps).length ≤ (ps.map (·.length)).sum + ps.length * y.length := by
  rw [len_tl, tl_joinT]
  refine Nat.le_trans (joinL_len _) ?_
  rw [List.map_map, List.length_map, len_tl]
  have : ((fun x : List Nat => x.length) ∘ tl) = fun p : Str => p.length := by funext p; exact (len_tl p).symm
  rw [this]
  exact Nat.le_refl _
/-- a word: neither a blank nor a line's end -/
def Wd (x : Str) : Prop := 32 ∉ tl x ∧ 10 ∉ tl x ∧ Asc x
theorem wd_num {i : Int} (h : 0 ≤ i) : Wd (numS i) := by
  refine ⟨?_, ?_, asc_num h⟩ <;> rw [tl_numS h] <;> exact numL_free (by omega)
theorem wd_lit {x : Str} (h : ((tl x).all fun c => decide (c ≠ 32) && (decide (c ≠ 10) && decide (c < 128))) = true) : Wd x := by
  refine ⟨fun hc => ?_, fun hc => ?_, fun c hc => ?_⟩
  · have := List.all_eq_true.mp h 32 hc; simp at this
  · have := List.all_eq_true.mp h 10 hc; simp at this
  · have := List.all_eq_true.mp h c hc
    simp only [Bool.and_eq_true, decide_eq_true_eq] at this
    exact this.2.2
abbrev blank : Str := Str.ofString " "
abbrev eol : Str := Str.ofString "\n"
theorem tl_blank : tl blank = [32] := by rw [tl_ofString]; rfl
theorem tl_eol : tl eol = [10] := by rw [tl_ofString]; rfl
theorem split_words {ws : List Str} (hne : ws ≠ []) (h : ∀ w ∈ ws, Wd w) : Txt.split (Txt.join blank ws) blank = ws :=
  TL.split_join tl_blank (by decide +kernel) hne fun p hp => (h p hp).1
/-- a line: words joined -/
def Ln (x : Str) : Prop := 10 ∉ tl x ∧ Asc x
theorem ln_words {ws : List Str} (h : ∀ w ∈ ws, Wd w) : Ln (Txt.join blank ws) := by
  refine ⟨fun hc => ?_, asc_join (by intro c hc; rw [tl_blank] at hc; simp at hc; omega) fun p hp => (h p hp).2.2⟩
  rcases mem_join hc with h1 | ⟨p, hp, h1⟩
  · rw [tl_blank] at h1; simp at h1
  · exact (h p hp).2.1 h1
theorem split_lines {ls : List Str} (hne : ls ≠ []) (h : ∀ l ∈ ls, Ln l) : Txt.split (Txt.join eol ls) eol = ls :=
  TL.split_join tl_eol (by decide +kernel) hne fun p hp => (h p hp).1
theorem intText_num {i : Int} (h : 0 ≤ i) (h2 : i < 1000000000) : PySem.intText? (numS i) = some i := by
  obtain ⟨n, rfl⟩ := Int.eq_ofNat_of_zero_le h
  refine int_num (Nat.le_trans (numL_len (k := 9) (by decide) (by omega)) (by decide))
/-! ### the parts of readings that ask for texts -/
theorem bStr_num {i : Int} (h : 0 ≤ i) (h2 : i < 1000000000) (c : Cs) : bStr [.int i] c = some (.str (numS i), c) := by
  simp only [bStr, smStr_ok h h2, if_true]
theorem strs?_of : ∀ ss : List Str, Pd.strs? (ss.map D.str) = some ss
  | [] => rfl
  | s :: ss => by simp only [List.map_cons, Pd.strs?, strs?_of ss]
theorem mJoin_of (x : Str) (ss : List Str) (h : (ss.map (·.length)).sum + ss.length * x.length ≤ lim) (c : Cs) : mJoin [.str x, .lst (ss.map D.str)] c = some (.str (Txt.join x ss), c) := by
  simp only [mJoin, seqOf, deref, strs?_of, h, if_true]
theorem mSplit_of {x y : Str} (h : (y.length == 0) = false) (h2 : x.length + 2 ≤ lim) (c : Cs) : mSplit [.str x, .str y] c = some (.lst ((Txt.split x y).map D.str), c) := by
  simp only [mSplit, h, h2, decide_true, Bool.not_false, Bool.and_self, if_true]
theorem pdns_strs (k : Nat) : ∀ {ss : List Str}, (∀ s ∈ ss, Asc s) → pdns k (ss.map D.str) = some (ss.map .str)
  | [], _ => by simp [pdns]
  | s :: ss, h => by
    simp only [List.map_cons, pdns, pdn_str k (h s (List.mem_cons_self ..)), pdns_strs k fun z hz => h z (List.mem_cons_of_mem _ hz)]
end Ma
set_option Elab.async false
set_option linter.all false
set_option maxRecDepth 100000
set_option maxHeartbeats 0
/-! Ma2: loops, comprehensions by their steps. -/
namespace Ma
open PySem PySem.Spec PyProof.Rows L2 Pd TL
theorem compD_map {α : Type} {g : FG} {ft : FT} {fe : FE} {h r : α → D} {env : En} {c : Cs} : ∀ {xs : List α}, (∀ x ∈ xs, ∃ env1, g (h x) env = some env1 ∧ ft env1 c = some (true, c) ∧ fe env1 c = some (r x, c)) → compD g ft fe (xs.map h) env c = some (xs.map r, c)
  | [], _ => rfl
  | x :: xs, H => by
    obtain ⟨env1, e1, e2, e3⟩ := H x (List.mem_cons_self ..)
    simp only [List.map_cons, compD, e1, e2, e3, compD_map fun z hz => H z (List.mem_cons_of_mem _ hz)]
theorem compD_filter {α : Type} {g : FG} {ft : FT} {fe : FE} {h r : α → D} {p : α → Bool} {env : En} {c : Cs} : ∀ {xs : List α}, (∀ x ∈ xs, ∃ env1, g (h x) env = some env1 ∧ ft env1 c = some (p x, c) ∧ fe env1 c = some (r x, c)) → compD g ft fe (xs.map h) env c = some ((xs.filter p).map r, c)
  | [], _ => rfl
  | x :: xs, H => by
    obtain ⟨env1, e1, e2, e3⟩ := H x (List.mem_cons_self ..)
    have ih := compD_filter fun z hz => H z (List.mem_cons_of_mem _ hz)
    cases hp : p x with
    | true =>
      rw [hp] at e2
      simp only [List.map_cons, compD, e1, e2, e3, ih, List.filter_cons, hp, if_true]
    | false =>
      rw [hp] at e2
      simp only [List.map_cons, compD, e1, e2, ih, List.filter_cons, hp, Bool.false_eq_true, if_false]
theorem compD_st {α : Type} {g : FG} {ft : FT} {fe : FE} {h : α → D} {env : En} {P : Cs → Prop} {R : α → D → Prop} : ∀ {xs : List α} {c : Cs}, P c →
    (∀ x ∈ xs, ∀ c, P c → ∃ env1 y c', g (h x) env = some env1 ∧ ft env1 c = some (true, c) ∧ fe env1 c = some (y, c') ∧ P c' ∧ R x y) →
    ∃ ys c', compD g ft fe (xs.map h) env c = some (ys, c') ∧ P c' ∧ ys.length = xs.length ∧ ∀ y ∈ ys, ∃ x ∈ xs, R x y
  | [], c, hp, _ => ⟨[], c, rfl, hp, rfl, fun y hy => (by cases hy)⟩
  | x :: xs, c, hp, H => by
    obtain ⟨env1, y, c1, e1, e2, e3, hp1, hr⟩ := H x (List.mem_cons_self ..) c hp
    obtain ⟨ys, c2, e4, hp2, hl, hy⟩ := compD_st hp1 fun z hz => H z (List.mem_cons_of_mem _ hz)
    refine ⟨y :: ys, c2, ?_, hp2, by simp [hl], ?_⟩
    · simp only [List.map_cons, compD, e1, e2, e3, e4]
    · intro z hz
      rcases List.mem_cons.mp hz with rfl | hz
      · exact ⟨x, List.mem_cons_self .., hr⟩
      · obtain ⟨w, hw, hr'⟩ := hy z hz
        exact ⟨w, List.mem_cons_of_mem _ hw, hr'⟩
theorem forD_aux {α : Type} {g : FG} {fb : FS} {h : α → D} {I : List α → En → Cs → Prop} : ∀ {post pre : List α} {env : En} {c : Cs}, I pre env c →
    (∀ pre' x post', pre ++ post = pre' ++ x :: post' → ∀ env c, I pre' env c → ∃ env1 env2 c2, g (h x) env = some env1 ∧ fb env1 c = some (.nx, env2, c2) ∧ I (pre' ++ [x]) env2 c2) →
    ∃ env' c', forD g fb (post.map h) env c = some (.nx, env', c') ∧ I (pre ++ post) env' c'
  | [], pre, env, c, hi, _ => ⟨env, c, rfl, by rw [List.append_nil]; exact hi⟩
  | x :: post, pre, env, c, hi, H => by
    obtain ⟨env1, env2, c2, e1, e2, hi2⟩ := H pre x post rfl env c hi
    have ea : (pre ++ [x]) ++ post = pre ++ x :: post := by rw [List.append_assoc]; rfl
    obtain ⟨env', c', e3, hi3⟩ := forD_aux (post := post) hi2 fun pre' y post' e => H pre' y post' (ea.symm.trans e)
    refine ⟨env', c', ?_, ea ▸ hi3⟩
    simp only [List.map_cons, forD, e1, e2, e3]
/-- a loop without an early end -/
theorem forD_st {α : Type} {g : FG} {fb : FS} {h : α → D} (I : List α → En → Cs → Prop) {xs : List α} {env : En} {c : Cs} (hi : I [] env c)
    (H : ∀ pre x post, xs = pre ++ x :: post → ∀ env c, I pre env c → ∃ env1 env2 c2, g (h x) env = some env1 ∧ fb env1 c = some (.nx, env2, c2) ∧ I (pre ++ [x]) env2 c2) :
    ∃ env' c', forD g fb (xs.map h) env c = some (.nx, env', c') ∧ I xs env' c' := by
  have := forD_aux (post := xs) (pre := []) hi (fun pre' x post' e => H pre' x post' (by rw [List.nil_append] at e; exact e))
  rw [List.nil_append] at this
  exact this
/-- enumerate -/
theorem enumD_map {α : Type} (h : α → D) : ∀ (i : Nat) (xs : List α), enumD i (xs.map h) = (xs.zipIdx i).map fun p => .tup [.int (p.2 : Nat), h p.1]
  | _, [] => rfl
  | i, x :: xs => by simp only [List.map_cons, enumD, List.zipIdx_cons, enumD_map h (i + 1) xs]
/-! ### the feed: a cell that holds two ints -/
def Fd (k : Nat) (c : Cs) : Prop := ∃ dg st : Int, c[k]? = some (.lst [.int dg, .int st])
/-- the other cells stay -/
structure FdTo (k : Nat) (c c' : Cs) : Prop where
  fd : Fd k c'
  len : c'.length = c.length
  oth : ∀ j, j ≠ k → c'[j]? = c[j]?
theorem FdTo.refl {k : Nat} {c : Cs} (h : Fd k c) : FdTo k c c := ⟨h, rfl, fun _ _ => rfl⟩
theorem FdTo.trans {k : Nat} {c1 c2 c3 : Cs} (h : FdTo k c1 c2) (h' : FdTo k c2 c3) : FdTo k c1 c3 := ⟨h'.fd, h'.len.trans h.len, fun j hj => (h'.oth j hj).trans (h.oth j hj)⟩
theorem FdTo.set {k : Nat} {c : Cs} {dg st : Int} (h : k < c.length) : FdTo k c (c.set k (.lst [.int dg, .int st])) :=
  ⟨⟨dg, st, by rw [List.getElem?_set_self h]⟩, by rw [List.length_set], fun j hj => by rw [List.getElem?_set_ne (Ne.symm hj)]⟩
theorem Fd.lt {k : Nat} {c : Cs} (h : Fd k c) : k < c.length := by
  obtain ⟨dg, st, e⟩ := h
  exact (List.getElem?_eq_some_iff.mp e).1
/-! ### tables, rows -/
def GRow (w : Int) (a : Nat) (r : List Int) : Prop := r.length = a ∧ ∀ x ∈ r, 0 ≤ x ∧ x < w
structure GT (w : Int) (a : Nat) (rs : List (List Int)) : Prop where
  a1 : 1 ≤ a
  a3 : a ≤ 3
  row : ∀ r ∈ rs, GRow w a r
  str : StrI rs
  len : rs.length ≤ 64
def gtB (w : Int) : D → Bool
  | .lst [.int a, .lst ds] => match tupsI? ds with
    | some rs => decide (1 ≤ a) && decide (a ≤ 3) && rs.all (fun r => decide ((r.length : Int) = a) && r.all fun x => decide (0 ≤ x) && decide (x < w)) && strB rs && decide (rs.length ≤ 64)
    | none => false
  | _ => false
where
  strB : List (List Int) → Bool
  | x :: y :: r => decide (x < y) && strB (y :: r)
  | _ => true
theorem strB_ok : ∀ {rs : List (List Int)}, gtB.strB rs = true → StrI rs
  | [], _ => .nil
  | [x], _ => by simp
  | x :: y :: r, h => by
    simp only [gtB.strB, Bool.and_eq_true, decide_eq_true_eq] at h
    have ih := strB_ok h.2
    refine List.pairwise_cons.mpr ⟨?_, ih⟩
    intro z hz
    rcases List.mem_cons.mp hz with rfl | hz
    · exact h.1
    · exact List.lt_trans h.1 ((List.pairwise_cons.mp ih).1 z hz)
/-- a table as the law draws it -/
def gD (a : Nat) (rs : List (List Int)) : D := .lst [.int a, .lst (rs.map tupI)]
theorem gtB_ok {w : Int} {d : D} (h : gtB w d = true) : ∃ a rs, d = gD a rs ∧ GT w a rs := by
  unfold gtB at h
  split at h
  case h_2 => cases h
  case h_1 a ds =>
    split at h
    case h_2 => cases h
    case h_1 rs e =>
      simp only [Bool.and_eq_true, decide_eq_true_eq, List.all_eq_true] at h
      obtain ⟨⟨⟨⟨h1, h2⟩, h3⟩, h4⟩, h5⟩ := h
      obtain ⟨n, rfl⟩ := Int.eq_ofNat_of_zero_le (show 0 ≤ a by omega)
      refine ⟨n, rs, by rw [tupsI?_map e]; rfl, by omega, by omega, fun r hr => ⟨by have := (h3 r hr).1; omega, (h3 r hr).2⟩, strB_ok h4, h5⟩
end Ma
set_option Elab.async false
set_option linter.all false
set_option maxRecDepth 100000
set_option maxHeartbeats 0
/-! Ma3: comparing. -/
namespace Ma
open PySem PySem.Spec PyProof.Rows L2 Pd TL
theorem beq_dec (i j : Int) : (i == j) = decide (i = j) := by
  by_cases h : i = j
  · subst h; simp
  · simp [h]
theorem oEq_int (i j : Int) (c : Cs) : oEq (.int i) (.int j) c = some (.bl (decide (i = j)), c) := by simp only [oEq, deep, pdn, PyData.eqv, beq_dec]
theorem oNe_int (i j : Int) (c : Cs) : oNe (.int i) (.int j) c = some (.bl (!decide (i = j)), c) := by simp only [oNe, deep, pdn, PyData.eqv, beq_dec]
theorem oEq_str {x y : Str} (hx : Asc x) (hy : Asc y) (c : Cs) : oEq (.str x) (.str y) c = some (.bl (decide (x = y)), c) := by simp only [oEq, pdn_str _ hx, pdn_str _ hy, eqv_str]
theorem oNe_str {x y : Str} (hx : Asc x) (hy : Asc y) (c : Cs) : oNe (.str x) (.str y) c = some (.bl (!decide (x = y)), c) := by simp only [oNe, pdn_str _ hx, pdn_str _ hy, eqv_str]
theorem eqvAll_strs : ∀ xs ys : List Str, PyData.eqvAll (xs.map .str) (ys.map .str) = decide (xs = ys)
  | [], [] => by simp [PyData.eqvAll]
  | [], _ :: _ => by simp [PyData.eqvAll]
  | _ :: _, [] => by simp [PyData.eqvAll]
  | x :: xs, y :: ys => by
    simp only [List.map_cons, PyData.eqvAll, eqv_str, eqvAll_strs xs ys]
    by_cases h : x = y <;> by_cases k : xs = ys <;> simp [h, k]
theorem pdn_strs (k : Nat) {ss : List Str} (h : ∀ s ∈ ss, Asc s) : pdn (k + 1) (.lst (ss.map D.str)) = some (.list (ss.map .str)) := by simp only [pdn, pdns_strs k h]
theorem oNe_strs {xs ys : List Str} (hx : ∀ s ∈ xs, Asc s) (hy : ∀ s ∈ ys, Asc s) (c : Cs) : oNe (.lst (xs.map D.str)) (.lst (ys.map D.str)) c = some (.bl (!decide (xs = ys)), c) := by
  simp only [oNe, deep, pdn_strs 59 hx, pdn_strs 59 hy, PyData.eqv, eqvAll_strs]
theorem bools?_true {α : Type} : ∀ xs : List α, bools? (xs.map fun _ => D.bl true) = some (xs.map fun _ => true)
  | [] => rfl
  | x :: xs => by simp only [List.map_cons, bools?, bools?_true xs]
theorem bAll_true {α : Type} (xs : List α) (c : Cs) : bAll [.lst (xs.map fun _ => D.bl true)] c = some (.bl true, c) := by
  simp only [bAll, bools?_true]
  have : (xs.map fun _ => true).all id = true := by simp
  rw [this]
theorem lim_le {n : Nat} (h : n ≤ 1000) : n ≤ lim := Nat.le_trans h (by decide)
theorem atIn {α : Type} (xs : List α) (n : Nat) : atI xs (n : Int) = xs[n]? := by
  unfold atI ixN
  rw [if_pos (Int.natCast_nonneg n)]
  by_cases h : n < xs.length
  · rw [if_pos (by omega)]; simp
  · rw [if_neg (by omega), List.getElem?_eq_none (by omega)]; rfl
theorem atI0 {α : Type} (x : α) (r : List α) : atI (x :: r) 0 = some x := atIn (x :: r) 0
theorem atI1 {α : Type} (x y : α) (r : List α) : atI (x :: y :: r) 1 = some y := atIn (x :: y :: r) 1
theorem atI2 {α : Type} (x y z : α) (r : List α) : atI (x :: y :: z :: r) 2 = some z := atIn (x :: y :: z :: r) 2
theorem atI3 {α : Type} (x y z u : α) (r : List α) : atI (x :: y :: z :: u :: r) 3 = some u := atIn (x :: y :: z :: u :: r) 3
theorem atI4 {α : Type} (x y z u v : α) (r : List α) : atI (x :: y :: z :: u :: v :: r) 4 = some v := atIn (x :: y :: z :: u :: v :: r) 4
end Ma
set_option Elab.async false
set_option linter.all false
set_option maxRecDepth 100000
set_option maxHeartbeats 0
/-! Ma4: signs of a text, words of a line. -/
namespace Ma
open PySem PySem.Spec PyProof.Rows L2 Pd TL
theorem str_eta (x : Str) : x = SX.S (tl x) := (SX.S_tl x).symm
theorem inStr_one (k : Nat) (y : Str) : inStr ⟨#[k]⟩ y = decide (k ∈ tl y) := by
  unfold inStr
  conv => lhs; rw [str_eta y]
  exact SX.in_one (tl y) k
theorem tl_digits : tl (Str.ofString "0123456789") = [48, 49, 50, 51, 52, 53, 54, 55, 56, 57] := by rw [tl_ofString]; rfl
theorem digit_in {k : Nat} (h : 48 ≤ k ∧ k ≤ 57) : inStr ⟨#[k]⟩ (Str.ofString "0123456789") = true := by
  rw [inStr_one, tl_digits, decide_eq_true_eq]
  have : k = 48 ∨ k = 49 ∨ k = 50 ∨ k = 51 ∨ k = 52 ∨ k = 53 ∨ k = 54 ∨ k = 55 ∨ k = 56 ∨ k = 57 := by omega
  simpa using this
theorem oIn_digit {k : Nat} (h : 48 ≤ k ∧ k ≤ 57) (c : Cs) : oInQ false (.str ⟨#[k]⟩) (.str (Str.ofString "0123456789")) c = some (.bl true, c) := by
  simp only [oInQ, deref, inD, digit_in h]; rfl
theorem numS_ne {i : Int} (h : 0 ≤ i) (h2 : i < 1000000000) : numS i ≠ Str.ofString "" := by
  intro e
  have := (numS_len h h2).2
  rw [e] at this
  exact absurd this (by decide +kernel)
theorem asc_lit {x : Str} (h : ((tl x).all fun c => decide (c < 128)) = true) : Asc x := fun c hc => of_decide_eq_true (List.all_eq_true.mp h c hc)
theorem asc_empty : Asc (Str.ofString "") := asc_lit (by decide +kernel)
theorem signs_num {i : Int} (h : 0 ≤ i) : Pd.signs (numS i) = (numL i.toNat).map fun k => D.str ⟨#[k]⟩ := by
  unfold Pd.signs
  have := tl_numS h
  unfold tl at this
  rw [this]
/-- a line of five words, two of them fixed texts -/
theorem join5 {A B C x y : Str} {p q : Str} (hp : tl p = tl A ++ [32] ++ tl B ++ [32]) (hq : tl q = [32] ++ tl C ++ [32]) : p ++ x ++ q ++ y = Txt.join blank [A, B, x, C, y] := by
  apply ext_tl
  simp only [tl_append, tl_joinT, hp, hq, tl_blank, List.map_cons, List.map_nil, joinL, List.append_assoc, List.cons_append, List.nil_append]
/-- words of a line -/
def wordsD (ws : List Str) : D := .lst (ws.map D.str)
abbrev lineOf (ws : List Str) : Str := Txt.join blank ws
abbrev textOf (ls : List (List Str)) : Str := Txt.join eol (ls.map lineOf)
structure Lns (ls : List (List Str)) : Prop where
  ne : ls ≠ []
  few : ls.length ≤ 1000
  w : ∀ l ∈ ls, l ≠ [] ∧ (∀ w ∈ l, Wd w) ∧ (lineOf l).length ≤ 200
theorem sum_le {m : Nat} : ∀ {l : List Nat}, (∀ x ∈ l, x ≤ m) → l.sum ≤ l.length * m
  | [], _ => by simp
  | x :: l, h => by
    have h1 := h x (List.mem_cons_self ..)
    have h2 := sum_le fun z hz => h z (List.mem_cons_of_mem _ hz)
    rw [List.sum_cons, List.length_cons, Nat.add_mul, Nat.one_mul]
    omega
theorem Lns.sum {ls : List (List Str)} (h : Lns ls) : ((ls.map lineOf).map (·.length)).sum + (ls.map lineOf).length * eol.length ≤ 210000 := by
  have h1 : ((ls.map lineOf).map (·.length)).sum ≤ ((ls.map lineOf).map (·.length)).length * 200 := sum_le fun x hx => by
    obtain ⟨l, hl, rfl⟩ := List.mem_map.mp hx
    obtain ⟨l', hl', rfl⟩ := List.mem_map.mp hl
    exact (h.w l' hl').2.2
  have h2 : eol.length = 1 := by rw [len_tl, tl_eol]; rfl
  rw [List.length_map, List.length_map] at h1
  rw [List.length_map, h2]
  have := h.few
  omega
theorem Lns.len {ls : List (List Str)} (h : Lns ls) : (textOf ls).length + 2 ≤ lim := by
  have := join_len eol (ls.map lineOf)
  have := h.sum
  have : lim = 1000000 := rfl
  show (Txt.join eol (ls.map lineOf)).length + 2 ≤ lim
  omega
theorem Lns.split {ls : List (List Str)} (h : Lns ls) : Txt.split (textOf ls) eol = ls.map lineOf :=
  split_lines (by intro e; exact h.ne (List.map_eq_nil_iff.mp e)) fun l hl => by
    obtain ⟨l', hl', rfl⟩ := List.mem_map.mp hl
    exact ln_words (h.w l' hl').2.1
theorem Lns.asc {ls : List (List Str)} (h : Lns ls) : Asc (textOf ls) :=
  asc_join (asc_lit (by decide +kernel)) fun p hp => by
    obtain ⟨l', hl', rfl⟩ := List.mem_map.mp hp
    exact (ln_words (h.w l' hl').2.1).2
theorem Lns.join {ls : List (List Str)} (h : Lns ls) (c : Cs) : mJoin [.str eol, .lst ((ls.map lineOf).map D.str)] c = some (.str (textOf ls), c) :=
  mJoin_of eol (ls.map lineOf) (Nat.le_trans h.sum (by decide)) c
theorem sum_num {r : List Int} (h : ∀ x ∈ r, 0 ≤ x ∧ x < 1000000000) : ((r.map numS).map (·.length)).sum ≤ r.length * 9 := by
  have := sum_le (m := 9) (l := (r.map numS).map (·.length)) fun x hx => by
    obtain ⟨l, hl, rfl⟩ := List.mem_map.mp hx
    obtain ⟨i, hi, rfl⟩ := List.mem_map.mp hl
    exact (numS_len (h i hi).1 (h i hi).2).1
  rw [List.length_map, List.length_map] at this
  exact this
theorem blank_len : blank.length = 1 := by rw [len_tl, tl_blank]; rfl
theorem join_nums {r : List Int} (h : ∀ x ∈ r, 0 ≤ x ∧ x < 1000000000) (hl : r.length ≤ 10) (c : Cs) : mJoin [.str blank, .lst ((r.map numS).map D.str)] c = some (.str (lineOf (r.map numS)), c) := by
  refine mJoin_of blank _ ?_ c
  have := sum_num h
  rw [blank_len, List.length_map]
  have : lim = 1000000 := rfl
  omega
theorem line_nums {r : List Int} (h : ∀ x ∈ r, 0 ≤ x ∧ x < 1000000000) (hl : r.length ≤ 10) : (lineOf (r.map numS)).length ≤ 100 := by
  have h1 := join_len blank (r.map numS)
  have := sum_num h
  rw [blank_len, List.length_map] at h1
  show (Txt.join blank (r.map numS)).length ≤ 100
  omega
end Ma
set_option Elab.async false
set_option linter.all false
set_option maxRecDepth 100000
set_option maxHeartbeats 0
/-! Ma5: rows compared, lines cut. -/
namespace Ma
open PySem PySem.Spec PyProof.Rows L2 Pd TL
theorem lexAt_shift {e r e' r' : Nat → Bool} {z : Bool} (he : ∀ i, e (i + 1) = e' i) (hr : ∀ i, r (i + 1) = r' i) : ∀ (k i : Nat), Ob.lexAt e r z (i + 1) k = Ob.lexAt e' r' z i k
  | 0, _ => rfl
  | k + 1, i => by
    show (if e (i + 1) = true then Ob.lexAt e r z (i + 1 + 1) k else r (i + 1)) = (if e' i = true then Ob.lexAt e' r' z (i + 1) k else r' i)
    rw [he, hr, lexAt_shift he hr k (i + 1)]
theorem lexAt_z {e r : Nat → Bool} {z z' : Bool} (hz : z = z') (k i : Nat) : Ob.lexAt e r z i k = Ob.lexAt e r z' i k := by rw [hz]
theorem lexLeZ_cons (x y : Int) (r s : List Int) : lexLeZ (x :: r) (y :: s) = if x = y then lexLeZ r s else decide (x ≤ y) := by
  unfold lexLeZ
  have hm : min (x :: r).length (y :: s).length = min r.length s.length + 1 := by simp only [List.length_cons]; omega
  rw [hm]
  show (if decide (x = y) = true then _ else decide (x ≤ y)) = _
  by_cases h : x = y
  · rw [if_pos (decide_eq_true h), if_pos h, lexAt_shift (e' := fun j => decide (r.getD j 0 = s.getD j 0)) (r' := fun j => decide (r.getD j 0 ≤ s.getD j 0)) (fun i => rfl) (fun i => rfl)]
    refine lexAt_z ?_ _ _
    simp
  · rw [if_neg (by simpa using h), if_neg h]
theorem lexLeZ_lt : ∀ {r s : List Int}, r.length = s.length → s < r → lexLeZ r s = false
  | [], [], _, h => absurd h (ltI_irrefl _)
  | x :: r, y :: s, hl, h => by
    rw [lexLeZ_cons]
    rw [List.cons_lt_cons_iff] at h
    rcases h with h | ⟨h, k⟩
    · rw [if_neg (by omega), decide_eq_false_iff_not]; omega
    · rw [if_pos h.symm]
      exact lexLeZ_lt (by simpa using hl) k
theorem ints?_of : ∀ r : List Int, Pd.ints? (r.map D.int) = some r
  | [] => rfl
  | x :: r => by simp only [List.map_cons, Pd.ints?, ints?_of r]
theorem oLe_lt {r s : List Int} (hl : r.length = s.length) (h : s < r) (c : Cs) : oLe (tupI r) (tupI s) c = some (.bl false, c) := by
  simp only [oLe, tupI, ints?_of, lexLeZ_lt hl h]
theorem oNe_nil (xs : List (List Int)) (c : Cs) : oNe (.lst (xs.map tupI)) (.lst []) c = some (.bl (!xs.isEmpty), c) := by
  have e1 : pdn deep (.lst (xs.map tupI)) = some (.list (xs.map fun r => .tuple (r.map .int))) := pdn_rows 58 xs
  have e2 : pdn deep (.lst []) = some (.list []) := rfl
  simp only [oNe, e1, e2]
  cases xs with
  | nil => simp [PyData.eqv, PyData.eqvAll]
  | cons x xs => simp [PyData.eqv, PyData.eqvAll]
theorem atI_last {α : Type} (xs : List α) (x : α) : atI (xs ++ [x]) (-1) = some x := by
  unfold atI ixN
  have hl : (xs ++ [x]).length = xs.length + 1 := by simp
  rw [if_neg (by omega), if_pos (by omega), hl]
  have : (-1 + ((xs.length + 1 : Nat) : Int)).toNat = xs.length := by omega
  simp only [Option.bind_some, this]
  simp
theorem range_split {n : Nat} {pre post : List Nat} {x : Nat} (e : List.range n = pre ++ x :: post) : x = pre.length ∧ x < n := by
  have h1 : (pre ++ x :: post)[pre.length]? = some x := by simp
  rw [← e] at h1
  have h2 := List.getElem?_eq_some_iff.mp h1
  obtain ⟨h3, h4⟩ := h2
  rw [List.getElem_range] at h4
  rw [List.length_range] at h3
  exact ⟨h4.symm, by omega⟩
theorem drop_at {α : Type} {ls xs rest : List α} {p i : Nat} (h : ls.drop p = xs ++ rest) (hi : i < xs.length) : ls[p + i]? = xs[i]? := by
  have : (ls.drop p)[i]? = (xs ++ rest)[i]? := by rw [h]
  rw [List.getElem?_drop, List.getElem?_append_left hi] at this
  exact this
theorem drop_more {α : Type} {ls xs rest : List α} {p : Nat} (h : ls.drop p = xs ++ rest) : ls.drop (p + xs.length) = rest := by
  rw [← List.drop_drop, h, List.drop_left]
theorem take_succ' {α : Type} {xs : List α} {n : Nat} (h : n < xs.length) : xs.take (n + 1) = xs.take n ++ [xs[n]] := by
  rw [List.take_add_one, List.getElem?_eq_getElem h]; rfl
end Ma
set_option Elab.async false
set_option linter.all false
set_option maxRecDepth 100000
set_option maxHeartbeats 0
/-! Ma6: statements, one by one. -/
namespace Ma
open PySem PySem.Spec PyProof.Rows L2 Pd TL
theorem fSeq_nx {f g : FS} {env env1 : En} {c c1 : Cs} (h : f env c = some (.nx, env1, c1)) : fSeq f g env c = g env1 c1 := by simp only [fSeq, h]
theorem fSeq_rt {f g : FS} {env env1 : En} {c c1 : Cs} {d : D} (h : f env c = some (.rt d, env1, c1)) : fSeq f g env c = some (.rt d, env1, c1) := by simp only [fSeq, h]
theorem mOf_rt {N : List Str} {k : Nat} {f : FS} {ds : List D} {c c1 : Cs} {d : D} {env1 : En} (hl : ds.length = k) (h : f (startD N ds) c = some (.rt d, env1, c1)) : mOf N k f ds c = some (d, c1) := by
  simp only [mOf, hl, if_true, h]
theorem mOf_nx {N : List Str} {k : Nat} {f : FS} {ds : List D} {c c1 : Cs} {env1 : En} (hl : ds.length = k) (h : f (startD N ds) c = some (.nx, env1, c1)) : mOf N k f ds c = some (.non, c1) := by
  simp only [mOf, hl, if_true, h]
theorem fIte_f {t : FT} {f g : FS} {env : En} {c c1 : Cs} (h : t env c = some (false, c1)) : fIte t f g env c = g env c1 := by simp only [fIte, h]
theorem fIte_t {t : FT} {f g : FS} {env : En} {c c1 : Cs} (h : t env c = some (true, c1)) : fIte t f g env c = f env c1 := by simp only [fIte, h]
theorem fFor_of {fi : FA} {g : FG} {fb : FS} {env : En} {c c1 : Cs} {ds : List D} (h : fi env c = some (ds, c1)) : fFor fi g fb env c = forD g fb ds env c1 := by simp only [fFor, h]
theorem fRg2_of {fa : FA} {env : En} {c c1 : Cs} {i j : Int} {k : Nat} (h : fa env c = some ([.int i, .int j], c1)) (hi : small62 i = true) (hj : small62 j = true) (hk : (j - i).toNat = k) : fRg2 fa env c = some (rangeD i k, c1) := by
  simp only [fRg2, h, hi, hj, hk, Bool.and_self, if_true]
theorem fRg1_of {fa : FA} {env : En} {c c1 : Cs} {j : Int} {k : Nat} (h : fa env c = some ([.int j], c1)) (hj : small62 j = true) (hk : j.toNat = k) : fRg1 fa env c = some (rangeD 0 k, c1) := by
  simp only [fRg1, h, hj, hk, if_true]
theorem fRet_of {f : FE} {env : En} {c c1 : Cs} {d : D} (h : f env c = some (d, c1)) : fRet f env c = some (.rt d, env, c1) := by simp only [fRet, h]
theorem small62_of {i : Int} (h : 0 ≤ i) (h2 : i < 1000000000) : small62 i = true := by
  simp only [small62, Bool.and_eq_true, decide_eq_true_eq]; omega
end Ma
set_option Elab.async false
set_option linter.all false
set_option maxRecDepth 100000
set_option maxHeartbeats 0
/-! Ma7: expressions, one by one. -/
namespace Ma
open PySem PySem.Spec PyProof.Rows L2 Pd TL
section
variable {env env1 : En} {c c1 c2 c3 : Cs} {d x y : D} {ds ys : List D} {f g h : FE} {fa ga : FA} {m : FC} {b : Bool} {i j : Nat}
theorem aC (h1 : f env c = some (d, c1)) (h2 : fa env c1 = some (ds, c2)) : aCons f fa env c = some (d :: ds, c2) := by simp only [aCons, h1, h2]
theorem aN : aNil env c = some ([], c) := rfl
theorem op_of {o : F2} (h1 : f env c = some (x, c1)) (h2 : g env c1 = some (y, c2)) : fOp o f g env c = o x y c2 := by simp only [fOp, h1, h2]
theorem call_of (h1 : fa env c = some (ds, c1)) : fCall m fa env c = m ds c1 := by simp only [fCall, h1]
theorem asB_of (h1 : f env c = some (.bl b, c1)) : asB f env c = some (b, c1) := by simp only [asB, h1]
theorem not_of {ft : FT} (h1 : ft env c = some (b, c1)) : fNot ft env c = some (!b, c1) := by simp only [fNot, h1]
theorem or_t {ft gt : FT} (h1 : ft env c = some (true, c1)) : fOr ft gt env c = some (true, c1) := by simp only [fOr, h1]
theorem or_f {ft gt : FT} (h1 : ft env c = some (false, c1)) : fOr ft gt env c = gt env c1 := by simp only [fOr, h1]
theorem and_t {ft gt : FT} (h1 : ft env c = some (true, c1)) : fAnd ft gt env c = gt env c1 := by simp only [fAnd, h1]
theorem and_f {ft gt : FT} (h1 : ft env c = some (false, c1)) : fAnd ft gt env c = some (false, c1) := by simp only [fAnd, h1]
theorem andV_t (h1 : f env c = some (.bl true, c1)) : fAndV f g env c = g env c1 := by simp only [fAndV, h1]
theorem andV_f (h1 : f env c = some (.bl false, c1)) : fAndV f g env c = some (.bl false, c1) := by simp only [fAndV, h1]
theorem orV_t (h1 : f env c = some (.bl true, c1)) : fOrV f g env c = some (.bl true, c1) := by simp only [fOrV, h1]
theorem orV_f (h1 : f env c = some (.bl false, c1)) : fOrV f g env c = g env c1 := by simp only [fOrV, h1]
theorem notV_of (h1 : f env c = some (.bl b, c1)) : fNotV f env c = some (.bl (!b), c1) := by simp only [fNotV, h1]
theorem if_t {ft : FT} (h1 : ft env c = some (true, c1)) : fIf ft f g env c = f env c1 := by simp only [fIf, h1]
theorem if_f {ft : FT} (h1 : ft env c = some (false, c1)) : fIf ft f g env c = g env c1 := by simp only [fIf, h1]
theorem fld_of {ks : List (Nat × Nat)} {k n : Nat} (h1 : f env c = some (x, c1)) (h2 : deref c1 x = some (.obj k ds)) (h3 : ks.lookup k = some n) (h4 : ds[n]? = some y) : fFld ks f env c = some (y, c1) := by simp only [fFld, h1, h2, h3, h4]
theorem prop_of {ms : Ms} {k : Nat} (h1 : f env c = some (x, c1)) (h2 : deref c1 x = some (.obj k ds)) (h3 : ms k = some m) : fProp ms f env c = m [x] c1 := by simp only [fProp, h1, h2, h3]
theorem meth_of {ms : Ms} {k : Nat} (h1 : f env c = some (x, c1)) (h2 : deref c1 x = some (.obj k ds)) (h3 : ms k = some m) (h4 : fa env c1 = some (ys, c2)) : fMeth ms f fa env c = m (x :: ys) c2 := by simp only [fMeth, h1, h2, h3, h4]
theorem lst_of (h1 : fa env c = some (ds, c1)) (h2 : ds.length ≤ lim) : fLst fa env c = some (.lst ds, c1) := by simp only [fLst, h1, h2, if_true]
theorem tup_of (h1 : fa env c = some (ds, c1)) (h2 : ds.length ≤ lim) : fTup fa env c = some (.tup ds, c1) := by simp only [fTup, h1, h2, if_true]
theorem it_lst (h1 : f env c = some (.lst ds, c1)) : fIt f env c = some (ds, c1) := by simp only [fIt, h1]
theorem it_tup (h1 : f env c = some (.tup ds, c1)) : fIt f env c = some (ds, c1) := by simp only [fIt, h1]
theorem comp_of {gg : FG} {ft : FT} {vs : List Nat} (h1 : fa env c = some (ds, c1)) (h2 : compD gg ft f ds (wipeD env vs) c1 = some (ys, c2)) (h3 : ys.length ≤ lim) : fComp fa gg ft f vs env c = some (.lst ys, c2) := by simp only [fComp, h1, h2, h3, if_true]
theorem lenQ_of {n : Int} (h1 : f env c = some (x, c1)) (h2 : lenD c1 x = some n) : fLenQ f env c = some (.int n, c1) := by simp only [fLenQ, h1, h2]
theorem len_of {ms : Ms} {k : Nat} {n : Int} (h1 : f env c = some (x, c1)) (h2 : deref c1 x = some (.obj k ds)) (h3 : ms k = some m) (h4 : m [x] c1 = some (.int n, c2)) (h5 : 0 ≤ n) (h6 : small62 n = true) : fLen ms f env c = some (.int n, c2) := by
  simp only [fLen, h1, oLen, h2, h3, h4, h5, h6, decide_true, Bool.and_self, if_true]
theorem isi_of {tb : String → Bool} {tc : Nat → Option Bool} (h1 : f env c = some (x, c1)) (h2 : isiD tb tc c1 x = some b) : fIsi tb tc f env c = some (.bl b, c1) := by simp only [fIsi, h1, h2]
theorem set_of (h1 : f env c = some (x, c1)) : fSet i f env c = some (.nx, env.set i (some (.f x)), c1) := by simp only [fSet, h1]
theorem setO_of (h1 : f env c = some (x, c1)) : fSetO i f env c = some (.nx, env.set i (some (.o x)), c1) := by simp only [fSetO, h1]
theorem drop_of (h1 : f env c = some (x, c1)) : fDrop f env c = some (.nx, env, c1) := by simp only [fDrop, h1]
theorem xF_of (h1 : f env c = some (x, c1)) : xF f env c = some (.f x, c1) := by simp only [xF, h1]
theorem xO_of (h1 : f env c = some (x, c1)) : xO f env c = some (.o x, c1) := by simp only [xO, h1]
theorem par_of {fx gx : FX} {s u : Sl} (h1 : fx env c = some (s, c1)) (h2 : gx env c1 = some (u, c2)) : fPar i j fx gx env c = some (.nx, (env.set i (some s)).set j (some u), c2) := by simp only [fPar, h1, h2]
theorem asg_of {gg : FG} (h1 : f env c = some (x, c1)) (h2 : gg x env = some env1) : fAsg f gg env c = some (.nx, env1, c1) := by simp only [fAsg, h1, h2]
theorem md_of {tn : String} (h1 : f env c = some (x, c1)) (h2 : isTyM tn c1 x = true) (h3 : fa env c1 = some (ds, c2)) : fMd tn m f fa env c = m (x :: ds) c2 := by simp only [fMd, h1, h2, h3, if_true]
theorem sl_lst {fl fh : FO} {lo hi : Option Int} (h1 : f env c = some (.lst ds, c1)) (h2 : fl env c1 = some (lo, c2)) (h3 : fh env c2 = some (hi, c3)) : fSl f fl fh env c = some (.lst (cutD ds lo hi), c3) := by simp only [fSl, h1, h2, h3]
theorem sl_tup {fl fh : FO} {lo hi : Option Int} (h1 : f env c = some (.tup ds, c1)) (h2 : fl env c1 = some (lo, c2)) (h3 : fh env c2 = some (hi, c3)) : fSl f fl fh env c = some (.tup (cutD ds lo hi), c3) := by simp only [fSl, h1, h2, h3]
theorem mutO_of {tn : String} {up : Up} {d' r : D} (h0 : env[i]? = some (some (.o d))) (h1 : isTy tn d = true) (h2 : fa env c = some (ds, c1)) (h3 : up d ds = some (r, d')) : fMutO tn up i fa env c = some (.nx, env.set i (some (.o d')), c1) := by
  simp only [fMutO, h0, h1, h2, h3, if_true]
theorem app_of (h : ds.length < lim) : uApp (.lst ds) [x] = some (.non, .lst (ds ++ [x])) := by simp only [uApp, h, if_true]
theorem enum_of (h1 : fa env c = some ([.lst ds], c1)) : fEnum fa env c = some (enumD 0 ds, c1) := by simp only [fEnum, h1]
theorem mInit_of {jc k : Nat} {N : List Str} {fb : FS} {env1 : En} (hl : ds.length + 1 = k) (h : fb (startI jc N ds) c = some (.nx, env1, c1)) (h2 : env1[0]? = some (some (.o d))) : mInit jc N k fb ds c = some (d, c1) := by
  simp only [mInit, hl, if_true, h, h2]
end
end Ma
set_option Elab.async false
set_option linter.all false
set_option maxRecDepth 100000
set_option maxHeartbeats 0
/-! Ma8: statements that may raise, loops with an early end, texts cut and glued, words as numbers. -/
namespace Ma
open PySem PySem.Spec PyProof.Rows L2 Pd TL NumText
section
variable {env env1 env2 : En} {c c1 c2 : Cs} {d x : D} {ds es : List D} {f g : FSX} {fe : FE} {fs : FS} {fx : FEX} {fa : FA} {ft : FT} {gg : FG} {m : FCX} {i k : Nat} {r : Fl}
theorem sqX_nx (h : f env c = some (.fl .nx, env1, c1)) : fSeqX f g env c = g env1 c1 := by simp only [fSeqX, h]
theorem sqX_rt (h : f env c = some (.fl (.rt d), env1, c1)) : fSeqX f g env c = some (.fl (.rt d), env1, c1) := by simp only [fSeqX, h]
theorem sqX_er (h : f env c = some (.er k ds, env1, c1)) : fSeqX f g env c = some (.er k ds, env1, c1) := by simp only [fSeqX, h]
theorem sV_of (h : fs env c = some (r, env1, c1)) : fSV fs env c = some (.fl r, env1, c1) := by simp only [fSV, h]
theorem iteX_t (h : ft env c = some (true, c1)) : fIteX ft f g env c = f env c1 := by simp only [fIteX, h]
theorem iteX_f (h : ft env c = some (false, c1)) : fIteX ft f g env c = g env c1 := by simp only [fIteX, h]
theorem raise_of (h : fe env c = some (d, c1)) : fRaise k fe env c = some (.er k [d], env, c1) := by simp only [fRaise, h]
theorem setX_ok (h : fx env c = some (.ok d, c1)) : fSetX i fx env c = some (.fl .nx, env.set i (some (.f d)), c1) := by simp only [fSetX, h]
theorem setX_er (h : fx env c = some (.er k ds, c1)) : fSetX i fx env c = some (.er k ds, env, c1) := by simp only [fSetX, h]
theorem asgX_ok (h : fx env c = some (.ok d, c1)) (h2 : gg d env = some env1) : fAsgX fx gg env c = some (.fl .nx, env1, c1) := by simp only [fAsgX, h, h2]
theorem asgX_er (h : fx env c = some (.er k ds, c1)) : fAsgX fx gg env c = some (.er k ds, env, c1) := by simp only [fAsgX, h]
theorem callX_of (h : fa env c = some (ds, c1)) : fCallX m fa env c = m ds c1 := by simp only [fCallX, h]
theorem forX_of (h : fa env c = some (ds, c1)) : fForX fa gg f env c = forX gg f ds env c1 := by simp only [fForX, h]
theorem mOfX_rt {N : List Str} {k : Nat} (hl : ds.length = k) (h : f (startD N ds) c = some (.fl (.rt d), env1, c1)) : mOfX N k f ds c = some (.ok d, c1) := by
  simp only [mOfX, hl, if_true, h]
theorem mOfX_er {N : List Str} {k j : Nat} (hl : ds.length = k) (h : f (startD N ds) c = some (.er j es, env1, c1)) : mOfX N k f ds c = some (.er j es, c1) := by
  simp only [mOfX, hl, if_true, h]
theorem forX_step (hg : gg d env = some env1) (hb : f env1 c = some (.fl .nx, env2, c2)) : forX gg f (d :: ds) env c = forX gg f ds env2 c2 := by simp only [forX, hg, hb]
theorem forX_er (hg : gg d env = some env1) (hb : f env1 c = some (.er k es, env2, c2)) : forX gg f (d :: ds) env c = some (.er k es, env2, c2) := by simp only [forX, hg, hb]
theorem forD_step (hg : gg d env = some env1) (hb : fs env1 c = some (.nx, env2, c2)) : forD gg fs (d :: ds) env c = forD gg fs ds env2 c2 := by simp only [forD, hg, hb]
theorem forD_rt (hg : gg d env = some env1) (hb : fs env1 c = some (.rt x, env2, c2)) : forD gg fs (d :: ds) env c = some (.rt x, env2, c2) := by simp only [forD, hg, hb]
theorem forD_bk (hg : gg d env = some env1) (hb : fs env1 c = some (.bk, env2, c2)) : forD gg fs (d :: ds) env c = some (.nx, env2, c2) := by simp only [forD, hg, hb]
theorem fSeq_bk {f g : FS} (h : f env c = some (.bk, env1, c1)) : fSeq f g env c = some (.bk, env1, c1) := by simp only [fSeq, h]
theorem slA_of {fl fh : FO} {lo hi : Option Int} {c3 : Cs} (h1 : fe env c = some (x, c1)) (h2 : fl env c1 = some (lo, c2)) (h3 : fh env c2 = some (hi, c3)) (h4 : cutA x lo hi = some d) : fSlA fe fl fh env c = some (d, c3) := by simp only [fSlA, h1, h2, h3, h4]
theorem oS_of {i : Int} (h : fe env c = some (.int i, c1)) : oSome fe env c = some (some i, c1) := by simp only [oSome, h]
end
theorem rangeD_zero (i : Int) : rangeD i 0 = [] := rfl
theorem rangeD_succ (i : Int) (k : Nat) : rangeD i (k + 1) = .int i :: rangeD (i + 1) k := by
  unfold rangeD
  rw [List.range_succ_eq_map, List.map_cons, List.map_map]
  congr 1
  · simp
  · refine List.map_congr_left fun j _ => ?_
    show D.int (i + ((j + 1 : Nat) : Int)) = D.int (i + 1 + (j : Nat))
    congr 1; omega
/-! ### texts glued -/
theorem joinL_lenE {S : List Nat} : ∀ {l : List (List Nat)}, l ≠ [] → (joinL S l).length + S.length = (l.map (·.length)).sum + l.length * S.length
  | [], h => absurd rfl h
  | [p], _ => by simp [joinL]
  | p :: q :: r, _ => by
    have ih := joinL_lenE (S := S) (l := q :: r) (by simp)
    simp only [joinL, List.length_append, List.map_cons, List.sum_cons, List.length_cons] at ih ⊢
    have e : (r.length + 1 + 1) * S.length = S.length + (r.length + 1) * S.length := by rw [Nat.add_mul (r.length + 1) 1, Nat.one_mul, Nat.add_comm]
    rw [e]
    omega
theorem joinL_ge {S : List Nat} : ∀ {l : List (List Nat)} {p : List Nat}, p ∈ l → p.length ≤ (joinL S l).length
  | [q], p, h => by
    rw [List.mem_singleton.mp h]; exact Nat.le_refl _
  | a :: q :: r, p, h => by
    have ih := fun h => joinL_ge (S := S) (l := q :: r) (p := p) h
    simp only [joinL, List.length_append]
    rcases List.mem_cons.mp h with rfl | h
    · omega
    · have := ih h; omega
/-- how long lines are, each with its end -/
def wt (L : List Str) : Nat := (L.map (·.length)).sum + L.length
theorem wt_nil : wt [] = 0 := rfl
theorem wt_cons (x : Str) (L : List Str) : wt (x :: L) = x.length + 1 + wt L := by simp only [wt, List.map_cons, List.sum_cons, List.length_cons]; omega
theorem wt_app (A B : List Str) : wt (A ++ B) = wt A + wt B := by
  simp only [wt, List.map_append, List.sum_append, List.length_append]; omega
theorem wt_len (L : List Str) : L.length ≤ wt L := by unfold wt; omega
theorem wt_mem {x : Str} : ∀ {L : List Str}, x ∈ L → x.length + 1 ≤ wt L
  | y :: L, h => by
    rw [wt_cons]
    rcases List.mem_cons.mp h with rfl | h
    · omega
    · have := wt_mem h; omega
theorem wt_take (L : List Str) (k : Nat) : wt (L.take k) ≤ wt L := by
  conv => rhs; rw [← List.take_append_drop k L, wt_app]
  omega
theorem wt_parts (L : List Str) {i j : Nat} (h : i ≤ j) : wt (L.take i) + wt (L.drop j) ≤ wt L := by
  have e : wt L = wt (L.take j) + wt (L.drop j) := by rw [← wt_app, List.take_append_drop]
  have e2 : wt (L.take i) ≤ wt (L.take j) := by
    have : L.take i = (L.take j).take i := by rw [List.take_take, Nat.min_eq_left h]
    rw [this]; exact wt_take _ _
  omega
theorem wt_set {y : Str} : ∀ (L : List Str) (i : Nat), wt (L.set i y) ≤ wt L + y.length + 1
  | [], i => by simp [wt]
  | x :: L, 0 => by rw [List.set_cons_zero, wt_cons, wt_cons]; omega
  | x :: L, i + 1 => by
    have := wt_set (y := y) L i
    rw [List.set_cons_succ, wt_cons, wt_cons]; omega
theorem map_len_tl (L : List Str) : (L.map tl).map (·.length) = L.map (·.length) := by
  rw [List.map_map]
  exact List.map_congr_left fun x _ => (len_tl x).symm
theorem wt_join {y : Str} {s : Nat} (ey : tl y = [s]) {L : List Str} (h : L ≠ []) : wt L = (Txt.join y L).length + 1 := by
  have := joinL_lenE (S := tl y) (l := L.map tl) (by simpa using h)
  rw [map_len_tl, List.length_map, ey] at this
  rw [len_tl, tl_joinT, ey, wt]
  simp only [List.length_cons, List.length_nil, Nat.zero_add, Nat.mul_one] at this
  omega
theorem join_le {y : Str} {s : Nat} (ey : tl y = [s]) (L : List Str) : (Txt.join y L).length ≤ wt L := by
  have := join_len y L
  rw [len_tl y, ey] at this
  unfold wt
  simpa using this
theorem part_le (y : Str) {L : List Str} {p : Str} (h : p ∈ L) : p.length ≤ (Txt.join y L).length := by
  rw [len_tl (Txt.join y L), tl_joinT, len_tl]
  exact joinL_ge (List.mem_map.mpr ⟨p, h, rfl⟩)
/-! ### texts cut -/
theorem spl1 (s : Nat) : ∀ (l acc : List Nat), s ∉ acc → joinL [s] (spl [s] 0 acc l) = acc ++ l ∧ spl [s] 0 acc l ≠ [] ∧ (∀ p ∈ spl [s] 0 acc l, s ∉ p) ∧ ∀ p ∈ spl [s] 0 acc l, ∀ c ∈ p, c ∈ acc ++ l
  | [], acc, h => by
    rw [spl_nil]
    refine ⟨by simp [joinL], by simp, ?_, ?_⟩
    · intro p hp; rw [List.mem_singleton.mp hp]; exact h
    · intro p hp c hc; rw [List.mem_singleton.mp hp] at hc; simpa using hc
  | k :: r, acc, h => by
    by_cases hk : k = s
    · subst hk
      have hp : pre [k] (k :: r) = true := pre_self [k] r
      obtain ⟨a, b, d, e⟩ := spl1 k r [] (by simp)
      rw [spl_hit hp]
      show joinL [k] (acc :: spl [k] 0 [] r) = _ ∧ (acc :: spl [k] 0 [] r) ≠ [] ∧ _ ∧ _
      refine ⟨?_, by simp, ?_, ?_⟩
      · have ej : joinL [k] (acc :: spl [k] 0 [] r) = acc ++ ([k] ++ joinL [k] (spl [k] 0 [] r)) := by
          generalize spl [k] 0 [] r = q at b
          cases q with
          | nil => exact absurd rfl b
          | cons x y => rfl
        rw [ej, a]; rfl
      · intro p hp
        rcases List.mem_cons.mp hp with rfl | hp
        · exact h
        · exact d p hp
      · intro p hp c hc
        rcases List.mem_cons.mp hp with rfl | hp
        · exact List.mem_append_left _ hc
        · have := e p hp c hc
          exact List.mem_append_right _ (List.mem_cons_of_mem _ (by simpa using this))
    · have hp : pre [s] (k :: r) = false := pre_of_head [] r hk
      rw [spl_miss hp]
      obtain ⟨a, b, d, e⟩ := spl1 s r (acc ++ [k]) (by
        intro hm
        rcases List.mem_append.mp hm with hm | hm
        · exact h hm
        · exact hk (List.mem_singleton.mp hm).symm)
      refine ⟨by rw [a, List.append_assoc]; rfl, b, d, fun p hp c hc => ?_⟩
      have := e p hp c hc
      rw [List.append_assoc] at this
      exact this
theorem split1 {y : Str} {s : Nat} (ey : tl y = [s]) (hk : y.cps.all (· < 256) = true) (x : Str) : Txt.join y (Txt.split x y) = x ∧ Txt.split x y ≠ [] ∧ ∀ p ∈ Txt.split x y, s ∉ tl p ∧ ∀ c ∈ tl p, c ∈ tl x := by
  have e := TL.split_spl x y (by rw [ey]; simp) (TL.kind_ok hk)
  rw [ey] at e
  obtain ⟨a, b, d, f⟩ := spl1 s (tl x) [] (by simp)
  refine ⟨?_, ?_, ?_⟩
  · apply ext_tl
    rw [tl_joinT, ey, e, a]; rfl
  · intro z
    rw [z] at e
    exact b e.symm
  · intro p hp
    have : tl p ∈ spl [s] 0 [] (tl x) := by rw [← e]; exact List.mem_map.mpr ⟨p, hp, rfl⟩
    exact ⟨d _ this, fun c hc => by simpa using f _ this c hc⟩
theorem split_blank (x : Str) : Txt.join blank (Txt.split x blank) = x ∧ Txt.split x blank ≠ [] ∧ ∀ p ∈ Txt.split x blank, 32 ∉ tl p ∧ ∀ c ∈ tl p, c ∈ tl x := split1 tl_blank (by decide +kernel) x
theorem split_eol (x : Str) : Txt.join eol (Txt.split x eol) = x ∧ Txt.split x eol ≠ [] ∧ ∀ p ∈ Txt.split x eol, 10 ∉ tl p ∧ ∀ c ∈ tl p, c ∈ tl x := split1 tl_eol (by decide +kernel) x
/-! ### slices -/
theorem tl_sto (x : Str) (k : Nat) : tl (Txt.slice x none (some (k : Int))) = (tl x).take k := by
  conv => lhs; rw [str_eta x]
  rw [SX.slice_to (Int.natCast_nonneg k)]; rfl
theorem tl_sfrom (x : Str) (k : Nat) : tl (Txt.slice x (some (k : Int)) none) = (tl x).drop k := by
  conv => lhs; rw [str_eta x]
  rw [SX.slice_from (Int.natCast_nonneg k)]; rfl
theorem cut_to {α : Type} (xs : List α) (k : Nat) : Pd.cutD xs none (some (k : Int)) = xs.take k := by
  unfold Pd.cutD
  rw [HT.sIx_nat, HT.sIx_none, List.drop_zero, Nat.sub_zero]
  rcases Nat.le_total k xs.length with h | h
  · rw [Nat.min_eq_left h]
  · rw [Nat.min_eq_right h, List.take_length, List.take_of_length_le h]
theorem cut_from {α : Type} (xs : List α) (k : Nat) : Pd.cutD xs (some (k : Int)) none = xs.drop k := by
  unfold Pd.cutD
  rw [HT.sIx_nat, HT.sIx_none]
  rcases Nat.le_total k xs.length with h | h
  · rw [Nat.min_eq_left h, ← List.length_drop, List.take_length]
  · rw [Nat.min_eq_right h, Nat.sub_self, List.take_zero, List.drop_of_length_le h]
/-! ### words as numbers -/
def digB (w : Str) : Bool := (tl w).all fun k => decide (48 ≤ k) && decide (k ≤ 57)
def wnum (w : Str) : Option Int := if w = Str.ofString "" then none else if 9 < w.length then none else if digB w then (match intText? w with | some i => if numS i = w then some i else none | none => none) else none
theorem digB_ok {w : Str} (h : digB w = true) : AllDigits (tl w) := fun c hc => by
  have := List.all_eq_true.mp h c hc
  simpa using this
theorem dv_lt : ∀ (n : Nat) (l : List Nat), l.length = n → AllDigits l → digitsVal l < 10 ^ n
  | 0, [], _, _ => by decide
  | n + 1, l, hl, h => by
    have hne : l ≠ [] := by intro z; rw [z] at hl; simp at hl
    have e : l = l.dropLast ++ [l.getLast hne] := (List.dropLast_concat_getLast hne).symm
    have h1 := dv_lt n l.dropLast (by rw [List.length_dropLast]; omega) fun c hc => h c (List.dropLast_subset _ hc)
    have h2 := h _ (List.getLast_mem hne)
    rw [e, digitsVal_snoc, Nat.pow_succ]
    omega
theorem int_digits {w : Str} (h : digB w = true) (h1 : w ≠ Str.ofString "") (h2 : ¬ 9 < w.length) : ∃ i, intText? w = some i ∧ 0 ≤ i ∧ i < 1000000000 := by
  have hd := digB_ok h
  have hne : tl w ≠ [] := by
    intro z
    exact h1 (ext_tl (z.trans (by rw [tl_ofString]; rfl)))
  refine ⟨_, intText_digits hd hne (by omega), Int.natCast_nonneg _, ?_⟩
  have := dv_lt (tl w).length (tl w) rfl hd
  have h3 : (tl w).length ≤ 9 := by rw [← len_tl]; omega
  have h4 : 10 ^ (tl w).length ≤ 10 ^ 9 := Nat.pow_le_pow_right (by decide) h3
  have h5 : digitsVal w.cps.toList < 10 ^ 9 := Nat.lt_of_lt_of_le this h4
  have : (10 : Nat) ^ 9 = 1000000000 := by decide
  omega
theorem wnum_ok {w : Str} {i : Int} (h : wnum w = some i) : 0 ≤ i ∧ i < 1000000000 ∧ numS i = w := by
  unfold wnum at h
  split at h
  · cases h
  · rename_i h1
    split at h
    · cases h
    · rename_i h2
      split at h
      · rename_i h3
        obtain ⟨j, e, j0, j1⟩ := int_digits h3 h1 h2
        rw [e] at h
        simp only at h
        split at h
        · rename_i h4
          cases h
          exact ⟨j0, j1, h4⟩
        · cases h
      · cases h
theorem wnum_num {i : Int} (h : 0 ≤ i) (h2 : i < 1000000000) : wnum (numS i) = some i := by
  have hl := numS_len h h2
  have hd : digB (numS i) = true := by
    unfold digB
    rw [tl_numS h, List.all_eq_true]
    intro k hk
    have := numL_digits _ k hk
    simpa using this
  unfold wnum
  rw [if_neg (numS_ne h h2), if_neg (by omega), if_pos hd, intText_num h h2]
  simp
theorem bools?_bl : ∀ bs : List Bool, bools? (bs.map D.bl) = some bs
  | [] => rfl
  | b :: bs => by simp only [List.map_cons, bools?, bools?_bl bs]
theorem digs_mem (k : Nat) : inStr ⟨#[k]⟩ (Str.ofString "0123456789") = (decide (48 ≤ k) && decide (k ≤ 57)) := by
  rw [inStr_one, tl_digits]
  by_cases h : 48 ≤ k ∧ k ≤ 57
  · have : k = 48 ∨ k = 49 ∨ k = 50 ∨ k = 51 ∨ k = 52 ∨ k = 53 ∨ k = 54 ∨ k = 55 ∨ k = 56 ∨ k = 57 := by omega
    rw [decide_eq_true h.1, decide_eq_true h.2, decide_eq_true (by simpa using this)]; rfl
  · have : ¬ (k = 48 ∨ k = 49 ∨ k = 50 ∨ k = 51 ∨ k = 52 ∨ k = 53 ∨ k = 54 ∨ k = 55 ∨ k = 56 ∨ k = 57) := by omega
    rw [decide_eq_false (by simpa using this)]
    by_cases h1 : 48 ≤ k
    · rw [decide_eq_true h1, decide_eq_false (by omega)]; rfl
    · rw [decide_eq_false h1]; rfl
theorem signs_tl (x : Str) : Pd.signs x = (tl x).map fun k => D.str ⟨#[k]⟩ := rfl
theorem asc_sign {x : Str} (h : Asc x) {k : Nat} (hk : k ∈ tl x) : Asc ⟨#[k]⟩ := fun c hc => by
  have : c = k := by
    have : c ∈ [k] := hc
    simpa using this
  rw [this]; exact h k hk
end Ma
set_option Elab.async false
set_option linter.all false
set_option maxRecDepth 100000
set_option maxHeartbeats 0
namespace M58
open PySem PySem.Spec PyProof.Rows L2 Pd L58 Ma
theorem sm1 : sm64 6364136223846793005 = true := by decide +kernel
theorem sm2 : sm64 7919 = true := by decide +kernel
theorem sm3 : sm64 61 = true := by decide +kernel
theorem pw1 (c : Cs) : oPow (.int 10) (.int 18) c = some (.int (10 ^ 18), c) := by
  have h : (decide ((0 : Int) ≤ 18) && decide ((18 : Int) ≤ 1000) && sm64 10) = true := by decide +kernel
  simp only [oPow, h, if_true]; rfl
theorem mul_r {i j : Int} {c : Cs} (h : sm64 j = true) : oMul (.int i) (.int j) c = some (.int (i * j), c) := by simp only [oMul, h, Bool.or_true, if_true]
theorem mul_l {i j : Int} {c : Cs} (h : sm64 i = true) : oMul (.int i) (.int j) c = some (.int (i * j), c) := by simp only [oMul, h, Bool.true_or, if_true]
theorem mod_p {i j : Int} {c : Cs} (h : 0 < j) : oMod (.int i) (.int j) c = some (.int (i % j), c) := by simp only [oMod, h, if_true]
theorem ps1 : (0 : Int) < 2305843009213693951 := by decide
theorem s_within (v lo hi : Int) (c : Cs) : m_within [.int v, .int lo, .int hi] c = some (.bl (decide (lo ≤ v) && decide (v ≤ hi)), c) := by
  by_cases h1 : lo ≤ v <;> by_cases h2 : v ≤ hi <;>
  simp [m_within, f_within, mOf, startD, N_within, fRet, fAndV, fNotV, fIsi, isiD, kindD, deref, tc_none, isaB, fChain, fVarQ, oLe, h1, h2]
theorem s_check_width (w : Int) (h1 : 1 ≤ w) (h2 : w ≤ 3) (c : Cs) : m_check_width [.int w] c = some (.non, c) := by
  simp [m_check_width, f_check_width, mOf, startD, N_check_width, fIte, fNot, asB, fCall, aCons, aNil, fVar, fC, s_within, h1, h2, fNx, fNo]
theorem s_check_arity (w m : Int) (h1 : 1 ≤ w) (h2 : w ≤ m) (c : Cs) : m_check_arity [.int w, .int m] c = some (.non, c) := by
  simp [m_check_arity, f_check_arity, mOf, startD, N_check_arity, fIte, fNot, asB, fCall, aCons, aNil, fVar, fC, s_within, h1, h2, fNx, fNo]
theorem s_feed0 (ns : List Int) (k v n : Int) (c : Cs) (hn : lenD c (.scr ns) = some n) (h : k < n) (e : oIx (.scr ns) (.int k) c = some (.int v, c)) : ∃ dg st : Int, m__law_feed [.scr ns, .int k] c = some (.cell c.length, c ++ [.lst [.int dg, .int st]]) := by
  have h2 : 2 ≤ lim := by decide
  exact ⟨_, _, by simp only [m__law_feed, f__law_feed, mOf, startD, N__law_feed, List.map_cons, List.map_nil, List.length_cons, List.length_nil, Nat.zero_add, Nat.reduceAdd, Nat.reduceSub, List.replicate, List.cons_append, List.nil_append, List.getElem?_cons_zero, List.getElem?_cons_succ, List.set_cons_zero, List.set_cons_succ, if_true, fSeq, fSet, fIf, asB, fOp, oLt, fVarQ, fVar, fLenQ, hn, h, decide_true, e, fCall, aCons, aNil, fC, bMax, bAbs, oSub, pw1, mul_r sm1, mul_l sm2, mul_l sm3, mod_p ps1, bIntS, bInt, oAdd, fRet, fCell, fLst, h2]; exact rfl⟩
theorem s_feed1 (ns : List Int) (k n : Int) (c : Cs) (hn : lenD c (.scr ns) = some n) (h : ¬ k < n) : ∃ dg st : Int, m__law_feed [.scr ns, .int k] c = some (.cell c.length, c ++ [.lst [.int dg, .int st]]) := by
  have h2 : 2 ≤ lim := by decide
  exact ⟨_, _, by simp only [m__law_feed, f__law_feed, mOf, startD, N__law_feed, List.map_cons, List.map_nil, List.length_cons, List.length_nil, Nat.zero_add, Nat.reduceAdd, Nat.reduceSub, List.replicate, List.cons_append, List.nil_append, List.getElem?_cons_zero, List.getElem?_cons_succ, List.set_cons_zero, List.set_cons_succ, if_true, fSeq, fSet, fIf, asB, fOp, oLt, fVarQ, fVar, fLenQ, hn, h, decide_false, fCall, aCons, aNil, fC, bMax, bAbs, oSub, pw1, mul_r sm1, mul_l sm2, mul_l sm3, mod_p ps1, bIntS, bInt, oAdd, fRet, fCell, fLst, h2]; exact rfl⟩
theorem s_feed (ns : List Int) (k : Nat) (c : Cs) : ∃ dg st : Int, m__law_feed [.scr ns, .int k] c = some (.cell c.length, c ++ [.lst [.int dg, .int st]]) := by
  have hn : lenD c (.scr ns) = some (ns.length : Int) := rfl
  by_cases h : (k : Int) < (ns.length : Int)
  · have hk2 : k < ns.length := by omega
    have e : oIx (.scr ns) (.int k) c = some (.int ns[k], c) := by
      simp [oIx, ixD, deref, atIn, hk2]
    exact s_feed0 ns k _ _ c hn h e
  · exact s_feed1 ns k _ c hn h
theorem s_take (c : Cs) (k : Nat) (m : Int) (hc : Fd k c) (hm : 0 < m) (hm2 : m < 1073741824) : ∃ (r : Int) (c' : Cs), 0 ≤ r ∧ r < m ∧ m__law_take [.cell k, .int m] c = some (.int r, c') ∧ FdTo k c c' := by
  have hl := hc.lt
  obtain ⟨dg, st, e⟩ := hc
  have fd {i : Int} {c : Cs} : oFdiv (.int i) (.int m) c = some (.int (i / m), c) := by simp only [oFdiv, hm, hm2, decide_true, Bool.and_self, if_true]
  have fd2 {i : Int} {c : Cs} : oFdiv (.int i) (.int 65536) c = some (.int (i / 65536), c) := by simp only [oFdiv, show (decide ((0 : Int) < 65536) && decide ((65536 : Int) < 1073741824)) = true from by decide, if_true]
  have i0 : ixN 2 0 = some 0 := by decide
  have i1 : ixN 2 1 = some 1 := by decide
  by_cases h : 0 < dg
  · refine ⟨dg % m, c.set k (.lst [.int (dg / m), .int st]), Int.emod_nonneg _ (by omega), Int.emod_lt_of_pos _ hm, ?_, FdTo.set hl⟩
    simp only [m__law_take, f__law_take, mOf, startD, N__law_take, List.map_cons, List.map_nil, List.length_cons, List.length_nil, Nat.zero_add, Nat.reduceAdd, Nat.reduceSub, List.replicate, List.cons_append, List.nil_append, List.getElem?_cons_zero, List.getElem?_cons_succ, List.set_cons_zero, List.set_cons_succ, if_true, fSeq, fSet, fIte, asB, fOp, oGt, oIx, ixD, atI0, atI1, fVarQ, fVar, deref, e, h, decide_true, fCall, aCons, aNil, fC, mod_p hm, fd, bIntS, bInt, fStC, uSetL, i0, fRet]
  · refine ⟨(st * 6364136223846793005 + 1442695040888963407) % 2305843009213693951 / 65536 % m, c.set k (.lst [.int dg, .int ((st * 6364136223846793005 + 1442695040888963407) % 2305843009213693951)]), Int.emod_nonneg _ (by omega), Int.emod_lt_of_pos _ hm, ?_, FdTo.set hl⟩
    simp only [m__law_take, f__law_take, mOf, startD, N__law_take, List.map_cons, List.map_nil, List.length_cons, List.length_nil, Nat.zero_add, Nat.reduceAdd, Nat.reduceSub, List.replicate, List.cons_append, List.nil_append, List.getElem?_cons_zero, List.getElem?_cons_succ, List.set_cons_zero, List.set_cons_succ, if_true, fSeq, fSet, fIte, asB, fOp, oGt, oIx, ixD, atI0, atI1, fVarQ, fVar, deref, e, h, decide_false, fCall, aCons, aNil, fC, mod_p hm, mod_p ps1, mul_r sm1, oAdd, fd, fd2, bIntS, bInt, fStC, uSetL, i0, i1, fRet, fNx, List.getElem?_set_self hl]
theorem s_pick (c : Cs) (k : Nat) (xs : List D) (hc : Fd k c) (hx : xs ≠ []) (hl : xs.length ≤ 100) : ∃ (x : D) (c' : Cs), x ∈ xs ∧ m__law_pick [.cell k, .lst xs] c = some (x, c') ∧ FdTo k c c' := by
  have hp : 0 < xs.length := List.length_pos_iff.mpr hx
  obtain ⟨r, c', h0, h1, e, f⟩ := s_take c k xs.length hc (by omega) (by omega)
  obtain ⟨n, rfl⟩ := Int.eq_ofNat_of_zero_le h0
  have hn : n < xs.length := by omega
  refine ⟨xs[n], c', List.getElem_mem hn, ?_, f⟩
  simp [m__law_pick, f__law_pick, mOf, startD, N__law_pick, fRet, fOp, fVarQ, fVar, fCall, aCons, aNil, fLenQ, lenD, deref, e, oIx, ixD, atIn, hn]
theorem s_width (c : Cs) (k : Nat) (hc : Fd k c) : ∃ (w : Int) (c' : Cs), 1 ≤ w ∧ w ≤ 3 ∧ m__law_width [.cell k] c = some (.int w, c') ∧ FdTo k c c' := by
  obtain ⟨x, c', hx, e, f⟩ := s_pick c k [.int 2, .int 2, .int 2, .int 3, .int 3, .int 1] hc (by simp) (by simp)
  have e2 : m__law_width [.cell k] c = some (x, c') := by
    simp [m__law_width, f__law_width, mOf, startD, N__law_width, fRet, fCall, aCons, aNil, fVar, fC, fLst, lim, e]
  simp only [List.mem_cons, List.not_mem_nil, or_false] at hx
  rcases hx with rfl | rfl | rfl | rfl | rfl | rfl <;> exact ⟨_, c', by decide, by decide, e2, f⟩
end M58
set_option Elab.async false
set_option linter.all false
set_option maxRecDepth 100000
set_option maxHeartbeats 0
namespace M58
open PySem PySem.Spec PyProof.Rows L2 Pd L58 Ma PySem.W
/-! ### the law's known tables -/
def ktB (w : Int) : Bool := match m__law_known_tables [.int w] [] with
  | some (.lst xs, _) => xs.all (gtB w) && decide (xs.length ≤ 100) && !xs.isEmpty
  | _ => false
theorem kt1 : ktB 1 = true := by decide +kernel
theorem kt2 : ktB 2 = true := by decide +kernel
theorem kt3 : ktB 3 = true := by decide +kernel
theorem kc1 (c : Cs) : m__law_known_tables [.int 1] c = (m__law_known_tables [.int 1] []).map fun p => (p.1, c) := by kernel_rfl
theorem kc2 (c : Cs) : m__law_known_tables [.int 2] c = (m__law_known_tables [.int 2] []).map fun p => (p.1, c) := by kernel_rfl
theorem kc3 (c : Cs) : m__law_known_tables [.int 3] c = (m__law_known_tables [.int 3] []).map fun p => (p.1, c) := by kernel_rfl
theorem s_known0 {w : Int} {c : Cs} (hk : ktB w = true) (hc : m__law_known_tables [.int w] c = (m__law_known_tables [.int w] []).map fun p => (p.1, c)) : ∃ xs, m__law_known_tables [.int w] c = some (.lst xs, c) ∧ xs ≠ [] ∧ xs.length ≤ 100 ∧ ∀ d ∈ xs, gtB w d = true := by
  unfold ktB at hk
  split at hk
  case h_2 => cases hk
  case h_1 xs c1 e =>
    rw [e] at hc
    simp only [Bool.and_eq_true, List.all_eq_true, decide_eq_true_eq, Bool.not_eq_true', List.isEmpty_eq_false_iff] at hk
    exact ⟨xs, hc, hk.2, hk.1.2, hk.1.1⟩
theorem s_known (w : Int) (h1 : 1 ≤ w) (h2 : w ≤ 3) (c : Cs) : ∃ xs, m__law_known_tables [.int w] c = some (.lst xs, c) ∧ xs ≠ [] ∧ xs.length ≤ 100 ∧ ∀ d ∈ xs, gtB w d = true := by
  rcases (show w = 1 ∨ w = 2 ∨ w = 3 by omega) with rfl | rfl | rfl
  · exact s_known0 kt1 (kc1 c)
  · exact s_known0 kt2 (kc2 c)
  · exact s_known0 kt3 (kc3 c)
end M58
set_option Elab.async false
set_option linter.all false
set_option maxRecDepth 100000
set_option maxHeartbeats 0
namespace M58
open PySem PySem.Spec PyProof.Rows L2 Pd L58 Ma
theorem s_is_row (r : List Int) (w : Int) (a : Nat) (ha : a ≤ 10) (h : GRow w a r) (c : Cs) : m_is_row [tupI r, .int w, .int a] c = some (.bl true, c) := by
  have hl : r.length ≤ lim := lim_le (by have := h.1; omega)
  simp [m_is_row, f_is_row, mOf, startD, N_is_row, fSeq, fIte, fOr, fNot, asB, fIsi, isiD, kindD, deref, tupI, isaB, fOp, oNe_int, fLenQ, lenD, fVarQ, fVar, h.1, fNx, fRet, fCall, fComp, fIt, aCons, aNil, wipeD]
  rw [compD_map (h := D.int) (r := fun _ => D.bl true)]
  · simp [hl, bAll_true]
  · intro x hx
    exact ⟨_, rfl, rfl, by simp [fCall, aCons, aNil, fVar, fVarQ, fC, fOp, oSub, s_within, h.2 x hx]; have := h.2 x hx; omega⟩
end M58
set_option Elab.async false
set_option linter.all false
set_option maxRecDepth 100000
set_option maxHeartbeats 0
namespace M58
open PySem PySem.Spec PyProof.Rows L2 Pd L58 Ma
/-- a Table -/
def tobj (w : Int) (a : Nat) (rs : List (List Int)) : D := .obj 0 [.int w, .int a, .lst (rs.map tupI), .dic (rs.map tupI) (rs.map fun _ => .bl true)]
theorem str_new {rs pre post : List (List Int)} {x : List Int} (h : StrI rs) (e : rs = pre ++ x :: post) : x ∉ pre := by
  intro hx
  rw [e] at h
  have := (List.pairwise_append.mp h).2.2 x hx x (List.mem_cons_self ..)
  exact ltI_irrefl _ this
theorem zip_split {α : Type} {rs : List α} {i : Nat} {pre post : List (α × Nat)} {x : α × Nat} (e : rs.zipIdx i = pre ++ x :: post) : rs = pre.map (·.1) ++ x.1 :: post.map (·.1) := by
  have := congrArg (List.map (·.1)) e
  rw [List.zipIdx_map_fst, List.map_append, List.map_cons] at this
  exact this
theorem s_Table_loop (w : Int) (a : Nat) (rs : List (List Int)) (h : GT w a rs) (c : Cs) :
    ∃ x y, forD (gSeq 2 (gsCons (gSet 5) (gsCons (gSet 6) gsNil))) (fSeq (fIte (fNot (asB (fCall m_is_row (aCons (fVar 6) (aCons (fVar 1) (aCons (fVar 2) aNil)))))) fNo fNx) (fStO uSetN 4 (fC (.bl true)) (fVar 6)))
      (enumD 0 (rs.map tupI)) [some (.o (.obj 0 [])), some (.f (.int w)), some (.f (.int a)), some (.f (.lst (rs.map tupI))), some (.o (.dic [] [])), none, none] c =
      some (.nx, [some (.o (.obj 0 [])), some (.f (.int w)), some (.f (.int a)), some (.f (.lst (rs.map tupI))), some (.o (.dic (rs.map tupI) (rs.map fun _ => .bl true))), x, y], c) := by
  rw [enumD_map]
  have key := forD_st (g := gSeq 2 (gsCons (gSet 5) (gsCons (gSet 6) gsNil))) (fb := fSeq (fIte (fNot (asB (fCall m_is_row (aCons (fVar 6) (aCons (fVar 1) (aCons (fVar 2) aNil)))))) fNo fNx) (fStO uSetN 4 (fC (.bl true)) (fVar 6)))
    (h := fun p : List Int × Nat => .tup [.int (p.2 : Nat), tupI p.1])
    (fun pre env c1 => ∃ x y, env = [some (.o (.obj 0 [])), some (.f (.int w)), some (.f (.int a)), some (.f (.lst (rs.map tupI))), some (.o (.dic ((pre.map (·.1)).map tupI) (pre.map fun _ => .bl true))), x, y] ∧ c1 = c)
    (xs := rs.zipIdx 0) (env := [some (.o (.obj 0 [])), some (.f (.int w)), some (.f (.int a)), some (.f (.lst (rs.map tupI))), some (.o (.dic [] [])), none, none]) (c := c) ⟨_, _, rfl, rfl⟩
  have fin := key (by
      intro pre x post e env c1 ⟨u, v, he, hc⟩
      subst he hc
      have hsp := zip_split e
      have hr : x.1 ∈ rs := by rw [hsp]; simp
      have hnew : x.1 ∉ pre.map (·.1) := str_new h.str hsp
      have hlen : (pre.map (·.1)).length < lim := by
        have h1 := congrArg List.length hsp
        simp at h1
        have := h.len
        exact Nat.lt_of_lt_of_le (show _ < 100 by simp; omega) (by decide)
      refine ⟨_, [some (.o (.obj 0 [])), some (.f (.int w)), some (.f (.int a)), some (.f (.lst (rs.map tupI))), some (.o (.dic (((pre ++ [x]).map (·.1)).map tupI) ((pre ++ [x]).map fun _ => .bl true))), some (.f (.int x.2)), some (.f (tupI x.1))], c1, rfl, ?_, ⟨_, _, rfl, rfl⟩⟩
      have hset := set_new (vs := pre.map fun _ => D.bl true) (v := .bl true) hnew hlen
      simp only [fSeq, fIte, fNot, asB, fCall, aCons, aNil, fVar, List.getElem?_cons_zero, List.getElem?_cons_succ, s_is_row x.1 w a (by have := h.a3; omega) (h.row _ hr), Bool.not_true, fNx, fStO, fC, hset, List.set_cons_zero, List.set_cons_succ, List.map_append, List.map_cons, List.map_nil])
  obtain ⟨env', c', e, x, y, h1, h2⟩ := fin
  rw [e]
  subst h1 h2
  refine ⟨x, y, ?_⟩
  rw [List.zipIdx_map_fst]
  have : (rs.zipIdx 0).map (fun _ => D.bl true) = rs.map fun _ => D.bl true := by
    rw [← List.zipIdx_map_fst 0 rs, List.map_map, List.zipIdx_map_fst]; rfl
  rw [this]
theorem s_Table (w : Int) (a : Nat) (rs : List (List Int)) (h1 : 1 ≤ w) (h2 : w ≤ 3) (h : GT w a rs) (c : Cs) : m_Table_init [.int w, .int a, .lst (rs.map tupI)] c = some (tobj w a rs, c) := by
  obtain ⟨x, y, e⟩ := s_Table_loop w a rs h c
  have ha := s_check_arity a 3 (by have := h.a1; omega) (by have := h.a3; omega) c
  have hs := sort_rows h.str (fun r hr => by intro z; have := (h.row r hr).1; rw [z] at this; have := h.a1; simp at *; omega) (lim_le (by have := h.len; omega)) (rs.map fun _ => .bl true) c
  simp [m_Table_init, f_Table_init, mInit, startI, startD, N_Table_init, fSeq, fDrop, fCall, aCons, aNil, fVar, fVarQ, fC, s_check_width w h1 h2, ha, fIte, fNot, asB, fIsi, isiD, kindD, deref, isaB, fNx, fSetO, fFor, fEnum, e, fFldO, List.lookup, fldPut, hs, fFz, fzE, tobj]
end M58
set_option Elab.async false
set_option linter.all false
set_option maxRecDepth 100000
set_option maxHeartbeats 0
namespace M58
open PySem PySem.Spec PyProof.Rows L2 Pd L58 Ma TL
theorem lim_le {n : Nat} (h : n ≤ 1000000) : n ≤ lim := h
/-! ### lines of words -/
structure Lt (ls : List (List Str)) : Prop where
  ne : ls ≠ []
  w : ∀ l ∈ ls, l ≠ [] ∧ ∀ w ∈ l, Wd w
  tot : wt (ls.map lineOf) ≤ 500000
theorem Lt.cnt {ls : List (List Str)} (h : Lt ls) : ls.length ≤ 500000 := by
  have := wt_len (ls.map lineOf)
  rw [List.length_map] at this
  exact Nat.le_trans this h.tot
theorem Lt.tlen {ls : List (List Str)} (h : Lt ls) : (textOf ls).length ≤ 500000 := Nat.le_trans (join_le tl_eol _) h.tot
theorem Lt.line {ls : List (List Str)} (h : Lt ls) {l : List Str} (hl : l ∈ ls) : (lineOf l).length ≤ 500000 := by
  have := wt_mem (List.mem_map.mpr ⟨l, hl, rfl⟩ : lineOf l ∈ ls.map lineOf)
  have := h.tot
  omega
theorem Lt.split {ls : List (List Str)} (h : Lt ls) : Txt.split (textOf ls) eol = ls.map lineOf :=
  split_lines (by intro e; exact h.ne (List.map_eq_nil_iff.mp e)) fun l hl => by
    obtain ⟨l', hl', rfl⟩ := List.mem_map.mp hl
    exact ln_words (h.w l' hl').2
theorem Lt.asc {ls : List (List Str)} (h : Lt ls) : Asc (textOf ls) :=
  asc_join (asc_lit (by decide +kernel)) fun p hp => by
    obtain ⟨l', hl', rfl⟩ := List.mem_map.mp hp
    exact (ln_words (h.w l' hl').2).2
theorem Lt.join {ls : List (List Str)} (h : Lt ls) (c : Cs) : mJoin [.str eol, .lst ((ls.map lineOf).map D.str)] c = some (.str (textOf ls), c) := by
  refine mJoin_of eol (ls.map lineOf) ?_ c
  have e : eol.length = 1 := by rw [len_tl, tl_eol]; rfl
  have := h.tot
  unfold wt at this
  rw [e, Nat.mul_one]
  exact lim_le (by omega)
/-- words that are not too long -/
structure Wl (l : List Str) : Prop where
  n : l.length ≤ 500000
  w : ∀ x ∈ l, Asc x ∧ x.length ≤ 500000
theorem Wl.nil : Wl [] := ⟨by simp, by simp⟩
theorem Lt.wl {ls : List (List Str)} (h : Lt ls) {l : List Str} (hl : l ∈ ls) : Wl l := by
  have hb := h.line hl
  have e := wt_join tl_blank (h.w l hl).1
  have := wt_len l
  have hb' : (Txt.join blank l).length ≤ 499999 := by
    have := wt_mem (List.mem_map.mpr ⟨l, hl, rfl⟩ : lineOf l ∈ ls.map lineOf)
    have := h.tot
    have e2 : (lineOf l).length = (Txt.join blank l).length := rfl
    omega
  exact ⟨by omega, fun x hx => ⟨((h.w l hl).2 x hx).2.2, by have := part_le blank hx; omega⟩⟩
theorem Lt.wlD {ls : List (List Str)} (h : Lt ls) (p : Nat) : Wl (ls.getD p []) := by
  rw [List.getD_eq_getElem?_getD]
  cases e : ls[p]? with
  | none => exact Wl.nil
  | some l => exact h.wl (List.mem_of_getElem? e)
theorem lt_of {x : Str} (ha : Asc x) (hl : x.length ≤ 499999) : ∃ ls, Lt ls ∧ textOf ls = x := by
  obtain ⟨e1, e2, e3⟩ := split_eol x
  have el : ∀ l : Str, lineOf (Txt.split l blank) = l := fun l => (split_blank l).1
  have em : ((Txt.split x eol).map fun l => Txt.split l blank).map lineOf = Txt.split x eol := by
    rw [List.map_map]
    conv => rhs; rw [← List.map_id (Txt.split x eol)]
    exact List.map_congr_left fun l _ => el l
  refine ⟨(Txt.split x eol).map fun l => Txt.split l blank, ⟨by simpa using e2, ?_, ?_⟩, ?_⟩
  · intro l hl
    obtain ⟨y, hy, rfl⟩ := List.mem_map.mp hl
    obtain ⟨b1, b2, b3⟩ := split_blank y
    refine ⟨b2, fun w hw => ⟨(b3 w hw).1, fun hc => (e3 y hy).1 ((b3 w hw).2 _ hc), fun k hk => ha k ((e3 y hy).2 k ((b3 w hw).2 k hk))⟩⟩
  · rw [em, wt_join tl_eol e2, e1]; omega
  · show Txt.join eol (((Txt.split x eol).map fun l => Txt.split l blank).map lineOf) = x
    rw [em, e1]
/-! ### words as numbers, by the program and by the law -/
def numD : Option Int → D
  | some i => .int i
  | none => .non
theorem bIntS_of {w : Str} (h : digB w = true) (h1 : w ≠ Str.ofString "") (h2 : ¬ 9 < w.length) (c : Cs) : ∃ i, intText? w = some i ∧ 0 ≤ i ∧ i < 1000000000 ∧ bIntS [.str w] c = some (.int i, c) ∧ bStr [.int i] c = some (.str (numS i), c) := by
  obtain ⟨i, e, i0, i1⟩ := int_digits h h1 h2
  refine ⟨i, e, i0, i1, ?_, bStr_num i0 i1 c⟩
  have : w.length ≤ 640 := by omega
  simp only [bIntS, e, this, if_true]
theorem len9 {w : Str} (hl : w.length ≤ 500000) {f : FE} {env : En} {c : Cs} (h : f env c = some (.str w, c)) : fOp oGt (fLenQ f) (fC (.int 9)) env c = some (.bl (decide (9 < w.length)), c) := by
  have h2 : w.length ≤ lim := lim_le (by omega)
  have e : fLenQ f env c = some (.int (w.length : Nat), c) := lenQ_of h (by simp only [lenD, deref, h2, if_true])
  refine (op_of e rfl).trans ?_
  simp only [oGt]
  by_cases h3 : 9 < w.length
  · rw [decide_eq_true h3, decide_eq_true (by omega)]
  · rw [decide_eq_false h3, decide_eq_false (by omega)]
theorem eq_empty {w : Str} (ha : Asc w) {f : FE} {env : En} {c : Cs} (h : f env c = some (.str w, c)) : fOp oEq f (fC (.str (Str.ofString ""))) env c = some (.bl (decide (w = Str.ofString "")), c) :=
  (op_of h rfl).trans (oEq_str ha asc_empty c)
theorem s_number_of (w : Str) (ha : Asc w) (hl : w.length ≤ 500000) (c : Cs) : m_number_of [.str w] c = some (numD (wnum w), c) := by
  have q1 := eq_empty ha (f := fVarQ 0) (env := [some (.f (.str w)), none]) (c := c) rfl
  have q2 := len9 hl (f := fVarQ 0) (env := [some (.f (.str w)), none]) (c := c) rfl
  by_cases h1 : w = Str.ofString ""
  · rw [decide_eq_true h1] at q1
    have e : wnum w = none := by unfold wnum; rw [if_pos h1]
    rw [e]
    exact mOf_rt (env1 := [some (.f (.str w)), none]) rfl (fSeq_rt ((fIte_t (c1 := c) (or_t (asB_of q1))).trans rfl))
  rw [decide_eq_false h1] at q1
  by_cases h2 : 9 < w.length
  · rw [decide_eq_true h2] at q2
    have e : wnum w = none := by unfold wnum; rw [if_neg h1, if_pos h2]
    rw [e]
    exact mOf_rt (env1 := [some (.f (.str w)), none]) rfl (fSeq_rt ((fIte_t (c1 := c) ((or_f (asB_of q1)).trans (or_t (asB_of q2)))).trans rfl))
  rw [decide_eq_false h2] at q2
  have q3 : compD (gSet 1) fYes (fOp (oInQ false) (fVarQ 1) (fC (.str (Str.ofString "0123456789")))) (Pd.signs w) (wipeD [some (.f (.str w)), none] [1]) c = some ((tl w).map fun k => D.bl (decide (48 ≤ k) && decide (k ≤ 57)), c) := by
    rw [signs_tl]
    refine compD_map fun k hk => ⟨_, rfl, rfl, (op_of rfl rfl).trans ?_⟩
    simp only [oInQ, deref, inD, digs_mem]; rfl
  have q4 : bAll [.lst ((tl w).map fun k => D.bl (decide (48 ≤ k) && decide (k ≤ 57)))] c = some (.bl (digB w), c) := by
    have := bools?_bl ((tl w).map fun k => decide (48 ≤ k) && decide (k ≤ 57))
    rw [List.map_map] at this
    have e : ((tl w).map fun k => D.bl (decide (48 ≤ k) && decide (k ≤ 57))) = (tl w).map (D.bl ∘ fun k => decide (48 ≤ k) && decide (k ≤ 57)) := rfl
    simp only [bAll, e, this, List.all_map]
    rfl
  have l1 : ((tl w).map fun k => D.bl (decide (48 ≤ k) && decide (k ≤ 57))).length ≤ lim := by rw [List.length_map, ← len_tl]; exact lim_le (by omega)
  have q5 : fCall bAll (aCons (fComp (fSig (fVar 0)) (gSet 1) fYes (fOp (oInQ false) (fVarQ 1) (fC (.str (Str.ofString "0123456789")))) [1]) aNil) [some (.f (.str w)), none] c = some (.bl (digB w), c) :=
    (call_of (aC (comp_of (ds := Pd.signs w) (c1 := c) rfl q3 l1) aN)).trans q4
  by_cases h3 : digB w = true
  · rw [h3] at q5
    obtain ⟨i, e, i0, i1, b1, b2⟩ := bIntS_of h3 h1 h2 c
    have e2 : wnum w = if numS i = w then some i else none := by unfold wnum; rw [if_neg h1, if_neg h2, if_pos h3, e]
    rw [e2]
    have q6 : fOp oEq (fCall bStr (aCons (fCall bIntS (aCons (fVarQ 0) aNil)) aNil)) (fVarQ 0) [some (.f (.str w)), none] c = some (.bl (decide (numS i = w)), c) :=
      (op_of ((call_of (aC ((call_of (aC rfl aN)).trans b1) aN)).trans b2) rfl).trans (oEq_str (asc_num i0) ha c)
    refine mOf_rt (env1 := [some (.f (.str w)), none]) rfl ((fSeq_nx ((fIte_f (c1 := c) ((or_f (asB_of q1)).trans ((or_f (asB_of q2)).trans (not_of (b := true) (asB_of q5))))).trans rfl)).trans (fRet_of ?_))
    by_cases h4 : numS i = w
    · rw [decide_eq_true h4] at q6
      rw [if_pos h4]
      exact (if_t (asB_of q6)).trans ((call_of (aC rfl aN)).trans b1)
    · rw [decide_eq_false h4] at q6
      rw [if_neg h4]
      exact (if_f (asB_of q6)).trans rfl
  · have h3' : digB w = false := by simpa using h3
    rw [h3'] at q5
    have e : wnum w = none := by unfold wnum; rw [if_neg h1, if_neg h2, if_neg h3]
    rw [e]
    exact mOf_rt (env1 := [some (.f (.str w)), none]) rfl (fSeq_rt ((fIte_t (c1 := c) ((or_f (asB_of q1)).trans ((or_f (asB_of q2)).trans (not_of (b := false) (asB_of q5))))).trans rfl))
def numL (o : Option Int) : Int := o.getD (-1)
theorem s_law_number (w : Str) (ha : Asc w) (hl : w.length ≤ 500000) (c : Cs) : m__law_number [.str w] c = some (.int (numL (wnum w)), c) := by
  have q1 := eq_empty ha (f := fVarQ 0) (env := [some (.f (.str w)), none]) (c := c) rfl
  have q2 := len9 hl (f := fVarQ 0) (env := [some (.f (.str w)), none]) (c := c) rfl
  by_cases h1 : w = Str.ofString ""
  · rw [decide_eq_true h1] at q1
    have e : wnum w = none := by unfold wnum; rw [if_pos h1]
    rw [e]
    exact mOf_rt (env1 := [some (.f (.str w)), none]) rfl (fSeq_rt ((fIte_t (c1 := c) (or_t (asB_of q1))).trans rfl))
  rw [decide_eq_false h1] at q1
  by_cases h2 : 9 < w.length
  · rw [decide_eq_true h2] at q2
    have e : wnum w = none := by unfold wnum; rw [if_neg h1, if_pos h2]
    rw [e]
    exact mOf_rt (env1 := [some (.f (.str w)), none]) rfl (fSeq_rt ((fIte_t (c1 := c) ((or_f (asB_of q1)).trans (or_t (asB_of q2)))).trans rfl))
  rw [decide_eq_false h2] at q2
  have q3 : compD (gSet 1) (asB (fOp (oInQ true) (fVarQ 1) (fC (.str (Str.ofString "0123456789"))))) (fVar 1) (Pd.signs w) (wipeD [some (.f (.str w)), none] [1]) c = some (((tl w).filter fun k => !(decide (48 ≤ k) && decide (k ≤ 57))).map fun k => D.str ⟨#[k]⟩, c) := by
    rw [signs_tl]
    refine compD_filter fun k hk => ⟨_, rfl, asB_of ((op_of rfl rfl).trans ?_), rfl⟩
    simp only [oInQ, deref, inD, digs_mem]; rfl
  have l1 : (((tl w).filter fun k => !(decide (48 ≤ k) && decide (k ≤ 57))).map fun k => D.str ⟨#[k]⟩).length ≤ lim := by
    rw [List.length_map]
    exact Nat.le_trans (List.length_filter_le _ _) (by rw [← len_tl]; exact lim_le (by omega))
  have q4 : oNe (.lst (((tl w).filter fun k => !(decide (48 ≤ k) && decide (k ≤ 57))).map fun k => D.str ⟨#[k]⟩)) (.lst []) c = some (.bl (!digB w), c) := by
    have := oNe_strs (xs := ((tl w).filter fun k => !(decide (48 ≤ k) && decide (k ≤ 57))).map fun k => (⟨#[k]⟩ : Str)) (ys := []) (fun s hs => by
      obtain ⟨k, hk, rfl⟩ := List.mem_map.mp hs
      exact asc_sign ha (List.mem_filter.mp hk).1) (by simp) c
    rw [List.map_map, List.map_nil] at this
    refine Eq.trans (b := oNe (.lst (((tl w).filter fun k => !(decide (48 ≤ k) && decide (k ≤ 57))).map (D.str ∘ fun k => (⟨#[k]⟩ : Str)))) (.lst []) c) rfl (this.trans ?_)
    congr 3
    unfold digB
    generalize tl w = l
    induction l with
    | nil => rfl
    | cons x l ih =>
      rw [List.filter_cons, List.all_cons]
      by_cases hx : (decide (48 ≤ x) && decide (x ≤ 57)) = true
      · rw [hx]; simpa using ih
      · have hx' : (decide (48 ≤ x) && decide (x ≤ 57)) = false := by simpa using hx
        rw [hx']; simp
  have l0 : 0 ≤ lim := Nat.zero_le _
  have q5 : fOp oNe (fComp (fSig (fVar 0)) (gSet 1) (asB (fOp (oInQ true) (fVarQ 1) (fC (.str (Str.ofString "0123456789"))))) (fVar 1) [1]) (fLst aNil) [some (.f (.str w)), none] c = some (.bl (!digB w), c) :=
    (op_of (comp_of (ds := Pd.signs w) (c1 := c) rfl q3 l1) (lst_of aN l0)).trans q4
  by_cases h3 : digB w = true
  · rw [h3] at q5
    obtain ⟨i, e, i0, i1, b1, b2⟩ := bIntS_of h3 h1 h2 c
    have e2 : wnum w = if numS i = w then some i else none := by unfold wnum; rw [if_neg h1, if_neg h2, if_pos h3, e]
    rw [e2]
    have q6 : fOp oEq (fCall bStr (aCons (fCall bIntS (aCons (fVarQ 0) aNil)) aNil)) (fVarQ 0) [some (.f (.str w)), none] c = some (.bl (decide (numS i = w)), c) :=
      (op_of ((call_of (aC ((call_of (aC rfl aN)).trans b1) aN)).trans b2) rfl).trans (oEq_str (asc_num i0) ha c)
    refine mOf_rt (env1 := [some (.f (.str w)), none]) rfl ((fSeq_nx ((fIte_f (c1 := c) ((or_f (asB_of q1)).trans ((or_f (asB_of q2)).trans (asB_of q5)))).trans rfl)).trans (fRet_of ?_))
    by_cases h4 : numS i = w
    · rw [decide_eq_true h4] at q6
      rw [if_pos h4]
      exact (if_t (asB_of q6)).trans ((call_of (aC rfl aN)).trans b1)
    · rw [decide_eq_false h4] at q6
      rw [if_neg h4]
      exact (if_f (asB_of q6)).trans rfl
  · have h3' : digB w = false := by simpa using h3
    rw [h3'] at q5
    have e : wnum w = none := by unfold wnum; rw [if_neg h1, if_neg h2, if_neg h3]
    rw [e]
    exact mOf_rt (env1 := [some (.f (.str w)), none]) rfl (fSeq_rt ((fIte_t (c1 := c) ((or_f (asB_of q1)).trans ((or_f (asB_of q2)).trans (asB_of q5)))).trans rfl))
end M58
set_option Elab.async false
set_option linter.all false
set_option maxRecDepth 100000
set_option maxHeartbeats 0
namespace M58
open PySem PySem.Spec PyProof.Rows L2 Pd L58 Ma TL
/-! ### rows of a line -/
def okN (w : Int) (x : Str) : Bool := match wnum x with | some i => decide (i < w) | none => false
def okRow (w : Int) (a : Nat) (l : List Str) : Bool := decide (l.length = a) && l.all (okN w)
def rowV (l : List Str) : List Int := l.map fun x => numL (wnum x)
def rowD (l : List Str) : D := .tup (l.map fun x => numD (wnum x))
theorem okRow_nil (w : Int) (a : Nat) (h : 1 ≤ a) : okRow w a [] = false := by
  unfold okRow
  rw [decide_eq_false (by simp; omega)]; rfl
theorem okRow_ok {w : Int} {a : Nat} {l : List Str} (h : okRow w a l = true) : l.length = a ∧ ∀ x ∈ l, ∃ i, wnum x = some i ∧ 0 ≤ i ∧ i < w := by
  unfold okRow at h
  simp only [Bool.and_eq_true, decide_eq_true_eq, List.all_eq_true] at h
  refine ⟨h.1, fun x hx => ?_⟩
  have := h.2 x hx
  unfold okN at this
  split at this
  · rename_i i e
    exact ⟨i, e, (wnum_ok e).1, of_decide_eq_true this⟩
  · cases this
theorem okRow_row {w : Int} {a : Nat} {l : List Str} (h : okRow w a l = true) : GRow w a (rowV l) := by
  obtain ⟨h1, h2⟩ := okRow_ok h
  refine ⟨by rw [rowV, List.length_map]; exact h1, fun i hi => ?_⟩
  obtain ⟨x, hx, rfl⟩ := List.mem_map.mp hi
  obtain ⟨j, e, j0, j1⟩ := h2 x hx
  rw [e]; exact ⟨j0, j1⟩
theorem okRow_D {w : Int} {a : Nat} {l : List Str} (h : okRow w a l = true) : rowD l = tupI (rowV l) := by
  obtain ⟨h1, h2⟩ := okRow_ok h
  unfold rowD tupI rowV
  rw [List.map_map]
  congr 1
  refine List.map_congr_left fun x hx => ?_
  obtain ⟨j, e, j0, j1⟩ := h2 x hx
  show numD (wnum x) = D.int (numL (wnum x))
  rw [e]; rfl
theorem okRow_back {w : Int} {a : Nat} {l : List Str} (h : okRow w a l = true) : (rowV l).map numS = l := by
  obtain ⟨h1, h2⟩ := okRow_ok h
  unfold rowV
  rw [List.map_map]
  conv => rhs; rw [← List.map_id l]
  refine List.map_congr_left fun x hx => ?_
  obtain ⟨j, e, j0, j1⟩ := h2 x hx
  show numS (numL (wnum x)) = x
  rw [e]; exact (wnum_ok e).2.2
theorem s_numbers_in (l : List Str) (h : Wl l) (c : Cs) : m_numbers_in [wordsD l] c = some (rowD l, c) := by
  have q : compD (gSet 1) fYes (fCall m_number_of (aCons (fVar 1) aNil)) (l.map D.str) (wipeD [some (.f (wordsD l)), none] [1]) c = some (l.map fun x => numD (wnum x), c) :=
    compD_map fun x hx => ⟨_, rfl, rfl, (call_of (aC rfl aN)).trans (s_number_of x (h.w x hx).1 (h.w x hx).2 c)⟩
  have l1 : (l.map fun x => numD (wnum x)).length ≤ lim := by rw [List.length_map]; exact lim_le (by have := h.n; omega)
  exact mOf_rt (env1 := [some (.f (wordsD l)), none]) rfl (fRet_of ((call_of (aC (comp_of (ds := l.map D.str) (c1 := c) rfl q l1) aN)).trans rfl))
theorem s_withinN (o : Option Int) (lo hi : Int) (c : Cs) : m_within [numD o, .int lo, .int hi] c = some (.bl (match o with | some v => decide (lo ≤ v) && decide (v ≤ hi) | none => false), c) := by
  cases o with
  | some v => exact s_within v lo hi c
  | none => rfl
theorem s_lwithin (v lo hi : Int) (c : Cs) : m__law_within [.int v, .int lo, .int hi] c = some (.bl (decide (lo ≤ v) && decide (v ≤ hi)), c) := s_within v lo hi c
theorem okN_P (w : Int) (x : Str) : (match wnum x with | some v => decide ((0 : Int) ≤ v) && decide (v ≤ w - 1) | none => false) = okN w x := by
  unfold okN
  cases e : wnum x with
  | none => rfl
  | some i =>
    have := (wnum_ok e).1
    simp only [decide_eq_true this, Bool.true_and]
    by_cases h : i < w
    · rw [decide_eq_true h, decide_eq_true (by omega)]
    · rw [decide_eq_false h, decide_eq_false (by omega)]
theorem okN_L (w : Int) (x : Str) : (decide ((0 : Int) ≤ numL (wnum x)) && decide (numL (wnum x) ≤ w - 1)) = okN w x := by
  rw [← okN_P]
  cases e : wnum x with
  | none => rfl
  | some i => rfl
theorem ne_len (n a : Nat) (c : Cs) : oNe (.int (n : Nat)) (.int (a : Nat)) c = some (.bl (!decide (n = a)), c) := by
  rw [oNe_int]
  congr 3
  by_cases h : n = a
  · rw [decide_eq_true h, decide_eq_true (by omega)]
  · rw [decide_eq_false h, decide_eq_false (by omega)]
theorem s_is_rowP (l : List Str) (w : Int) (a : Nat) (hl : l.length ≤ 500000) (c : Cs) : m_is_row [rowD l, .int w, .int a] c = some (.bl (okRow w a l), c) := by
  have q1 : fOp oNe (fLenQ (fVarQ 0)) (fVarQ 2) [some (.f (rowD l)), some (.f (.int w)), some (.f (.int a)), none] c = some (.bl (!decide (l.length = a)), c) := by
    have e : fLenQ (fVarQ 0) [some (.f (rowD l)), some (.f (.int w)), some (.f (.int a)), none] c = some (.int (l.length : Nat), c) := lenQ_of (x := rowD l) rfl (by simp only [lenD, deref, rowD, List.length_map])
    exact (op_of e rfl).trans (ne_len _ _ c)
  have q0 : fNot (asB (fIsi (fun s => isaB s "tuple") (tc_none 3) (fVarQ 0))) [some (.f (rowD l)), some (.f (.int w)), some (.f (.int a)), none] c = some (false, c) := not_of (b := true) (asB_of (isi_of (x := rowD l) (c1 := c) rfl rfl))
  by_cases h : l.length = a
  · rw [decide_eq_true h] at q1
    have q : compD (gSet 3) fYes (fCall m_within (aCons (fVar 3) (aCons (fC (.int 0)) (aCons (fOp oSub (fVarQ 1) (fC (.int 1))) aNil)))) (l.map fun x => numD (wnum x)) (wipeD [some (.f (rowD l)), some (.f (.int w)), some (.f (.int a)), none] [3]) c = some (l.map fun x => D.bl (okN w x), c) :=
      compD_map fun x hx => ⟨_, rfl, rfl, (call_of (aC rfl (aC rfl (aC ((op_of rfl rfl).trans rfl) aN)))).trans ((s_withinN (wnum x) 0 (w - 1) c).trans (by rw [okN_P]))⟩
    have l1 : (l.map fun x => D.bl (okN w x)).length ≤ lim := by rw [List.length_map]; exact lim_le (by omega)
    have q2 : bAll [.lst (l.map fun x => D.bl (okN w x))] c = some (.bl (okRow w a l), c) := by
      have := bools?_bl (l.map (okN w))
      rw [List.map_map] at this
      have e : (l.map fun x => D.bl (okN w x)) = l.map (D.bl ∘ okN w) := rfl
      simp only [bAll, e, this, okRow, h, decide_true, Bool.true_and, List.all_map]
      rfl
    refine mOf_rt (env1 := [some (.f (rowD l)), some (.f (.int w)), some (.f (.int a)), none]) rfl ((fSeq_nx ((fIte_f (c1 := c) ((or_f q0).trans (asB_of q1))).trans rfl)).trans (fRet_of ?_))
    exact (call_of (aC (comp_of (ds := l.map fun x => numD (wnum x)) (c1 := c) rfl q l1) aN)).trans q2
  · rw [decide_eq_false h] at q1
    have e : okRow w a l = false := by unfold okRow; rw [decide_eq_false h]; rfl
    rw [e]
    exact mOf_rt (env1 := [some (.f (rowD l)), some (.f (.int w)), some (.f (.int a)), none]) rfl (fSeq_rt ((fIte_t (c1 := c) ((or_f q0).trans (asB_of q1))).trans rfl))
theorem oEq_ints_nil (xs : List Int) (c : Cs) : oEq (.lst (xs.map D.int)) (.lst []) c = some (.bl xs.isEmpty, c) := by
  have e1 : pdn deep (.lst (xs.map D.int)) = some (.list (xs.map .int)) := by
    have := pdns_ints 59 xs
    show pdn (59 + 1) _ = _
    simp only [pdn, this]
  have e2 : pdn deep (.lst []) = some (.list []) := rfl
  simp only [oEq, e1, e2]
  cases xs with
  | nil => simp [PyData.eqv, PyData.eqvAll]
  | cons x xs => simp [PyData.eqv, PyData.eqvAll]
theorem s_is_rowL (l : List Str) (w : Int) (a : Nat) (hl : l.length ≤ 500000) (c : Cs) : m__law_is_row [tupI (rowV l), .int w, .int a] c = some (.bl (okRow w a l), c) := by
  have q1 : fOp oNe (fLenQ (fVarQ 0)) (fVarQ 2) [some (.f (tupI (rowV l))), some (.f (.int w)), some (.f (.int a)), none] c = some (.bl (!decide (l.length = a)), c) := by
    have e : fLenQ (fVarQ 0) [some (.f (tupI (rowV l))), some (.f (.int w)), some (.f (.int a)), none] c = some (.int (l.length : Nat), c) := lenQ_of (x := tupI (rowV l)) rfl (by simp only [lenD, deref, tupI, rowV, List.length_map])
    exact (op_of e rfl).trans (ne_len _ _ c)
  have q0 : fNot (asB (fIsi (fun s => isaB s "tuple") (tc_none 3) (fVarQ 0))) [some (.f (tupI (rowV l))), some (.f (.int w)), some (.f (.int a)), none] c = some (false, c) := not_of (b := true) (asB_of (isi_of (x := tupI (rowV l)) (c1 := c) rfl rfl))
  by_cases h : l.length = a
  · rw [decide_eq_true h] at q1
    have q : compD (gSet 3) (fNot (asB (fCall m__law_within (aCons (fVar 3) (aCons (fC (.int 0)) (aCons (fOp oSub (fVarQ 1) (fC (.int 1))) aNil)))))) (fVar 3) (l.map fun x => D.int (numL (wnum x))) (wipeD [some (.f (tupI (rowV l))), some (.f (.int w)), some (.f (.int a)), none] [3]) c = some ((l.filter fun x => !okN w x).map fun x => D.int (numL (wnum x)), c) :=
      compD_filter fun x hx => ⟨_, rfl, not_of (asB_of ((call_of (aC rfl (aC rfl (aC ((op_of rfl rfl).trans rfl) aN)))).trans ((s_lwithin _ 0 (w - 1) c).trans (by rw [okN_L])))), rfl⟩
    have l1 : ((l.filter fun x => !okN w x).map fun x => D.int (numL (wnum x))).length ≤ lim := by
      rw [List.length_map]; exact Nat.le_trans (List.length_filter_le _ _) (lim_le (by omega))
    have q2 : oEq (.lst ((l.filter fun x => !okN w x).map fun x => D.int (numL (wnum x)))) (.lst []) c = some (.bl (okRow w a l), c) := by
      have := oEq_ints_nil ((l.filter fun x => !okN w x).map fun x => numL (wnum x)) c
      rw [List.map_map] at this
      refine Eq.trans (b := oEq (.lst ((l.filter fun x => !okN w x).map (D.int ∘ fun x => numL (wnum x)))) (.lst []) c) rfl (this.trans ?_)
      congr 3
      unfold okRow
      rw [decide_eq_true h, Bool.true_and]
      clear q1 q q0 l1 this h hl
      induction l with
      | nil => rfl
      | cons x l ih =>
        rw [List.filter_cons, List.all_cons]
        cases okN w x <;> simp [ih]
    have em : deref c (tupI (rowV l)) = some (.tup (l.map fun x => D.int (numL (wnum x)))) := by
      simp only [deref, tupI, rowV, List.map_map]; rfl
    have ei : fIt (fVar 0) [some (.f (tupI (rowV l))), some (.f (.int w)), some (.f (.int a)), none] c = some (l.map fun x => D.int (numL (wnum x)), c) := by
      refine it_tup (f := fVar 0) (ds := l.map fun x => D.int (numL (wnum x))) ?_
      show some (tupI (rowV l), c) = _
      simp only [tupI, rowV, List.map_map]; rfl
    have l0 : 0 ≤ lim := Nat.zero_le _
    refine mOf_rt (env1 := [some (.f (tupI (rowV l))), some (.f (.int w)), some (.f (.int a)), none]) rfl ((fSeq_nx ((fIte_f (c1 := c) ((or_f q0).trans (asB_of q1))).trans rfl)).trans (fRet_of ?_))
    exact (op_of (comp_of ei q l1) (lst_of aN l0)).trans q2
  · rw [decide_eq_false h] at q1
    have e : okRow w a l = false := by unfold okRow; rw [decide_eq_false h]; rfl
    rw [e]
    exact mOf_rt (env1 := [some (.f (tupI (rowV l))), some (.f (.int w)), some (.f (.int a)), none]) rfl (fSeq_rt ((fIte_t (c1 := c) ((or_f q0).trans (asB_of q1))).trans rfl))
/-! ### first lines -/
def hd (l : List Str) (A B C : Str) : Option (Int × Int) := match l with
  | [a, b, x, d, y] => if [a, b, d] = [A, B, C] then (match wnum x, wnum y with | some i, some j => some (i, j) | _, _ => none) else none
  | _ => none
theorem hd_ok {l : List Str} {A B C : Str} {i j : Int} (h : hd l A B C = some (i, j)) : l = [A, B, numS i, C, numS j] ∧ 0 ≤ i ∧ i < 1000000000 ∧ 0 ≤ j ∧ j < 1000000000 := by
  unfold hd at h
  split at h
  · rename_i a b x d y
    split at h
    · rename_i e
      simp only [List.cons.injEq, and_true] at e
      obtain ⟨rfl, rfl, rfl⟩ := e
      split at h
      · rename_i i' j' e1 e2
        cases h
        obtain ⟨p1, p2, p3⟩ := wnum_ok e1
        obtain ⟨r1, r2, r3⟩ := wnum_ok e2
        rw [p3, r3]
        exact ⟨rfl, p1, p2, r1, r2⟩
      · cases h
    · cases h
  · cases h
theorem hd_nil (A B C : Str) : hd [] A B C = none := rfl
theorem hd_len {l : List Str} (A B C : Str) (h : l.length ≠ 5) : hd l A B C = none := by
  unfold hd
  split
  · exact absurd rfl h
  · rfl
def hdR (p : Int) : Option (Int × Int) → Rx
  | some (i, j) => .ok (.tup [.int i, .int j])
  | none => .er 3 [.int (p + 1)]
def hdL : Option (Int × Int) → D
  | some (i, j) => .lst [.int i, .int j]
  | none => .lst []
theorem line_at (ls : List (List Str)) (p : Nat) {f g : FE} {env : En} {c : Cs} (hf : f env c = some (.lst (ls.map wordsD), c)) (hg : g env c = some (.int p, c)) {fe fz : FE} {d z : D} (h1 : p < ls.length → fe env c = some (d, c)) (h2 : ¬ p < ls.length → fz env c = some (z, c)) :
    fIf (asB (fOp oLt g (fLenQ f))) fe fz env c = some (if p < ls.length then d else z, c) := by
  have e : fLenQ f env c = some (.int (ls.length : Nat), c) := lenQ_of hf (by simp only [lenD, deref, List.length_map])
  have q : fOp oLt g (fLenQ f) env c = some (.bl (decide (p < ls.length)), c) := by
    refine (op_of hg e).trans ?_
    simp only [oLt]
    by_cases h : p < ls.length
    · rw [decide_eq_true h, decide_eq_true (by omega)]
    · rw [decide_eq_false h, decide_eq_false (by omega)]
  by_cases h : p < ls.length
  · rw [decide_eq_true h] at q
    rw [if_pos h]
    exact (if_t (asB_of q)).trans (h1 h)
  · rw [decide_eq_false h] at q
    rw [if_neg h]
    exact (if_f (asB_of q)).trans (h2 h)
theorem ix_line (ls : List (List Str)) (p : Nat) (h : p < ls.length) (c : Cs) : oIx (.lst (ls.map wordsD)) (.int p) c = some (wordsD (ls.getD p []), c) := by
  simp only [oIx, ixD, deref, atIn, List.getElem?_map, List.getD_eq_getElem?_getD, List.getElem?_eq_getElem h, Option.map_some, Option.getD_some]
theorem getD_out {ls : List (List Str)} {p : Nat} (h : ¬ p < ls.length) : ls.getD p [] = [] := by
  rw [List.getD_eq_getElem?_getD, List.getElem?_eq_none (by omega)]; rfl
theorem five {l : List Str} (h : l.length = 5) : ∃ a b x d y, l = [a, b, x, d, y] := by
  match l, h with
  | [a, b, x, d, y], _ => exact ⟨a, b, x, d, y, rfl⟩
theorem s_headed (ls : List (List Str)) (hL : Lt ls) (p : Nat) (A B C : Str) (hA : Asc A) (hB : Asc B) (hC : Asc C) (c : Cs) :
    m_headed [.lst (ls.map wordsD), .int p, .lst [.str A, .str B, .str C]] c = some (hdR p (hd (ls.getD p []) A B C), c) := by
  have wl := hL.wlD p
  have q1 : fIf (asB (fOp oLt (fVarQ 1) (fLenQ (fVarQ 0)))) (fOp oIx (fVarQ 0) (fVarQ 1)) (fLst aNil) [some (.f (.lst (ls.map wordsD))), some (.f (.int p)), some (.f (.lst [.str A, .str B, .str C])), none, none] c = some (wordsD (ls.getD p []), c) := by
    refine (line_at ls p rfl rfl (d := wordsD (ls.getD p [])) (z := wordsD (ls.getD p [])) (fun h => (op_of rfl rfl).trans (ix_line ls p h c)) (fun h => ?_)).trans (by split <;> rfl)
    rw [getD_out h]
    exact lst_of aN (Nat.zero_le _)
  generalize ls.getD p [] = l at wl q1 ⊢
  have e0 : startD N_headed [.lst (ls.map wordsD), .int p, .lst [.str A, .str B, .str C]] = [some (.f (.lst (ls.map wordsD))), some (.f (.int p)), some (.f (.lst [.str A, .str B, .str C])), none, none] := rfl
  generalize (D.lst (ls.map wordsD)) = L at q1 e0 ⊢
  have er : ∀ {env1 : En} (v : Option Sl), env1 = [some (.f L), some (.f (.int p)), some (.f (.lst [.str A, .str B, .str C])), some (.f (wordsD l)), v] → (fRaise 3 (fOp oAdd (fVarQ 1) (fC (.int 1)))) env1 c = some (.er 3 [.int ((p : Int) + 1)], env1, c) := by
    rintro _ v rfl
    exact raise_of ((op_of rfl rfl).trans rfl)
  have ln : fLenQ (fVarQ 3) [some (.f L), some (.f (.int p)), some (.f (.lst [.str A, .str B, .str C])), some (.f (wordsD l)), none] c = some (.int (l.length : Nat), c) := lenQ_of (x := wordsD l) rfl (by simp only [lenD, deref, wordsD, List.length_map])
  have l3 : 3 ≤ lim := by decide
  have l2 : 2 ≤ lim := by decide
  have q2 := ne_len l.length 5 c
  by_cases h5 : l.length = 5
  · obtain ⟨a, b, x, d, y, rfl⟩ := five h5
    have wa := wl.w a (by simp)
    have wb := wl.w b (by simp)
    have wx := wl.w x (by simp)
    have wd := wl.w d (by simp)
    have wy := wl.w y (by simp)
    have q3 : oNe (.lst [.str a, .str b, .str d]) (.lst [.str A, .str B, .str C]) c = some (.bl (!decide ([a, b, d] = [A, B, C])), c) :=
      oNe_strs (xs := [a, b, d]) (ys := [A, B, C]) (by simp; exact ⟨wa.1, wb.1, wd.1⟩) (by simp; exact ⟨hA, hB, hC⟩) c
    have i0 : oIx (wordsD [a, b, x, d, y]) (.int 0) c = some (.str a, c) := by simp only [wordsD, List.map_cons, oIx, ixD, deref, atI0]
    have i1 : oIx (wordsD [a, b, x, d, y]) (.int 1) c = some (.str b, c) := by simp only [wordsD, List.map_cons, oIx, ixD, deref, atI1]
    have i2 : oIx (wordsD [a, b, x, d, y]) (.int 2) c = some (.str x, c) := by simp only [wordsD, List.map_cons, oIx, ixD, deref, atI2]
    have i3 : oIx (wordsD [a, b, x, d, y]) (.int 3) c = some (.str d, c) := by simp only [wordsD, List.map_cons, oIx, ixD, deref, atI3]
    have i4 : oIx (wordsD [a, b, x, d, y]) (.int 4) c = some (.str y, c) := by simp only [wordsD, List.map_cons, oIx, ixD, deref, atI4]
    have n1 := s_number_of x wx.1 wx.2 c
    have n2 := s_number_of y wy.1 wy.2 c
    rw [decide_eq_true h5] at q2
    have q4 : fOr (asB (fOp oNe (fLenQ (fVarQ 3)) (fC (.int 5)))) (asB (fOp oNe (fLst (aCons (fOp oIx (fVarQ 3) (fC (.int 0))) (aCons (fOp oIx (fVarQ 3) (fC (.int 1))) (aCons (fOp oIx (fVarQ 3) (fC (.int 3))) aNil)))) (fVarQ 2))) [some (.f L), some (.f (.int p)), some (.f (.lst [.str A, .str B, .str C])), some (.f (wordsD [a, b, x, d, y])), none] c = some (!decide ([a, b, d] = [A, B, C]), c) :=
      (or_f (asB_of ((op_of ln rfl).trans q2))).trans (asB_of ((op_of (lst_of (aC ((op_of rfl rfl).trans i0) (aC ((op_of rfl rfl).trans i1) (aC ((op_of rfl rfl).trans i3) aN))) l3) rfl).trans q3))
    by_cases hw : [a, b, d] = [A, B, C]
    · rw [decide_eq_true hw] at q4
      have q5 : fTup (aCons (fCall m_number_of (aCons (fOp oIx (fVarQ 3) (fC (.int 2))) aNil)) (aCons (fCall m_number_of (aCons (fOp oIx (fVarQ 3) (fC (.int 4))) aNil)) aNil)) [some (.f L), some (.f (.int p)), some (.f (.lst [.str A, .str B, .str C])), some (.f (wordsD [a, b, x, d, y])), none] c = some (.tup [numD (wnum x), numD (wnum y)], c) :=
        tup_of (aC ((call_of (aC ((op_of rfl rfl).trans i2) aN)).trans n1) (aC ((call_of (aC ((op_of rfl rfl).trans i4) aN)).trans n2) aN)) l2
      have q6 : ∀ u v : Option Int, oInQ false .non (.tup [numD u, numD v]) c = some (.bl (!(u.isSome && v.isSome)), c) := by
        intro u v
        cases u <;> cases v <;> simp [numD, oInQ, deref, inD, inTup, flatD, pdn, pdns, deep, PyData.eqv]
      have q7 := q6 (wnum x) (wnum y)
      have ehd : hd [a, b, x, d, y] A B C = match wnum x, wnum y with | some i, some j => some (i, j) | _, _ => none := by
        show (if [a, b, d] = [A, B, C] then _ else none) = _
        rw [if_pos hw]
      rw [ehd]
      cases hx : wnum x with
      | none =>
        rw [hx] at q5 q7
        refine mOfX_er (env1 := [some (.f L), some (.f (.int p)), some (.f (.lst [.str A, .str B, .str C])), some (.f (wordsD [a, b, x, d, y])), some (.f (.tup [numD none, numD (wnum y)]))]) rfl ((sqX_nx (sV_of (set_of q1))).trans ?_)
        refine (sqX_nx ((iteX_f (c1 := c) q4).trans rfl)).trans ?_
        refine (sqX_nx (sV_of (set_of q5))).trans ?_
        exact sqX_er ((iteX_t (asB_of ((op_of rfl rfl).trans q7))).trans (er _ rfl))
      | some i =>
        cases hy : wnum y with
        | none =>
          rw [hx, hy] at q5 q7
          refine mOfX_er (env1 := [some (.f L), some (.f (.int p)), some (.f (.lst [.str A, .str B, .str C])), some (.f (wordsD [a, b, x, d, y])), some (.f (.tup [numD (some i), numD none]))]) rfl ((sqX_nx (sV_of (set_of q1))).trans ?_)
          refine (sqX_nx ((iteX_f (c1 := c) q4).trans rfl)).trans ?_
          refine (sqX_nx (sV_of (set_of q5))).trans ?_
          exact sqX_er ((iteX_t (asB_of ((op_of rfl rfl).trans q7))).trans (er _ rfl))
        | some j =>
          rw [hx, hy] at q5 q7
          refine mOfX_rt (env1 := [some (.f L), some (.f (.int p)), some (.f (.lst [.str A, .str B, .str C])), some (.f (wordsD [a, b, x, d, y])), some (.f (.tup [numD (some i), numD (some j)]))]) rfl ((sqX_nx (sV_of (set_of q1))).trans ?_)
          refine (sqX_nx ((iteX_f (c1 := c) q4).trans rfl)).trans ?_
          refine (sqX_nx (sV_of (set_of q5))).trans ?_
          refine (sqX_nx ((iteX_f (c1 := c) (asB_of ((op_of rfl rfl).trans q7))).trans rfl)).trans ?_
          exact sV_of (fRet_of rfl)
    · rw [decide_eq_false hw] at q4
      have ehd : hd [a, b, x, d, y] A B C = none := by
        show (if [a, b, d] = [A, B, C] then _ else none) = _
        rw [if_neg hw]
      rw [ehd]
      refine mOfX_er (env1 := [some (.f L), some (.f (.int p)), some (.f (.lst [.str A, .str B, .str C])), some (.f (wordsD [a, b, x, d, y])), none]) rfl ((sqX_nx (sV_of (set_of q1))).trans ?_)
      exact sqX_er ((iteX_t q4).trans (er _ rfl))
  · rw [decide_eq_false h5] at q2
    rw [hd_len A B C h5]
    refine mOfX_er (env1 := [some (.f L), some (.f (.int p)), some (.f (.lst [.str A, .str B, .str C])), some (.f (wordsD l)), none]) rfl ((sqX_nx (sV_of (set_of q1))).trans ?_)
    exact sqX_er ((iteX_t (or_t (asB_of ((op_of ln rfl).trans q2)))).trans (er _ rfl))
theorem s_lheaded (l : List Str) (hne : l ≠ []) (hw : ∀ w ∈ l, Wd w) (wl : Wl l) (hlen : (lineOf l).length ≤ 500000) (A B C : Str) (hA : Asc A) (hB : Asc B) (hC : Asc C) (c : Cs) :
    m__law_headed [.str (lineOf l), .lst [.str A, .str B, .str C]] c = some (hdL (hd l A B C), c) := by
  have sp : mSplit [.str (lineOf l), .str blank] c = some (wordsD l, c) := by
    have := mSplit_of (x := lineOf l) (y := blank) (by decide +kernel) (lim_le (by omega)) c
    rw [split_words hne hw] at this
    exact this
  have q1 : fMd "str" mSplit (fVarQ 0) (aCons (fC (.str (Str.ofString " "))) aNil) [some (.f (.str (lineOf l))), some (.f (.lst [.str A, .str B, .str C])), none, none] c = some (wordsD l, c) := (md_of rfl rfl (aC rfl aN)).trans sp
  have ln : fLenQ (fVarQ 2) [some (.f (.str (lineOf l))), some (.f (.lst [.str A, .str B, .str C])), some (.f (wordsD l)), none] c = some (.int (l.length : Nat), c) := lenQ_of (x := wordsD l) rfl (by simp only [lenD, deref, wordsD, List.length_map])
  have l3 : 3 ≤ lim := by decide
  have l2 : 2 ≤ lim := by decide
  have l0 : 0 ≤ lim := Nat.zero_le _
  have q2 := ne_len l.length 5 c
  by_cases h5 : l.length = 5
  · rw [decide_eq_true h5] at q2
    obtain ⟨a, b, x, d, y, rfl⟩ := five h5
    have wa := wl.w a (by simp)
    have wb := wl.w b (by simp)
    have wx := wl.w x (by simp)
    have wd := wl.w d (by simp)
    have wy := wl.w y (by simp)
    have q3 : oNe (.lst [.str a, .str b, .str d]) (.lst [.str A, .str B, .str C]) c = some (.bl (!decide ([a, b, d] = [A, B, C])), c) :=
      oNe_strs (xs := [a, b, d]) (ys := [A, B, C]) (by simp; exact ⟨wa.1, wb.1, wd.1⟩) (by simp; exact ⟨hA, hB, hC⟩) c
    have i0 : oIx (wordsD [a, b, x, d, y]) (.int 0) c = some (.str a, c) := by simp only [wordsD, List.map_cons, oIx, ixD, deref, atI0]
    have i1 : oIx (wordsD [a, b, x, d, y]) (.int 1) c = some (.str b, c) := by simp only [wordsD, List.map_cons, oIx, ixD, deref, atI1]
    have i2 : oIx (wordsD [a, b, x, d, y]) (.int 2) c = some (.str x, c) := by simp only [wordsD, List.map_cons, oIx, ixD, deref, atI2]
    have i3 : oIx (wordsD [a, b, x, d, y]) (.int 3) c = some (.str d, c) := by simp only [wordsD, List.map_cons, oIx, ixD, deref, atI3]
    have i4 : oIx (wordsD [a, b, x, d, y]) (.int 4) c = some (.str y, c) := by simp only [wordsD, List.map_cons, oIx, ixD, deref, atI4]
    have n1 := s_law_number x wx.1 wx.2 c
    have n2 := s_law_number y wy.1 wy.2 c
    have q4 : fOr (asB (fOp oNe (fLenQ (fVarQ 2)) (fC (.int 5)))) (asB (fOp oNe (fLst (aCons (fOp oIx (fVarQ 2) (fC (.int 0))) (aCons (fOp oIx (fVarQ 2) (fC (.int 1))) (aCons (fOp oIx (fVarQ 2) (fC (.int 3))) aNil)))) (fVarQ 1))) [some (.f (.str (lineOf [a, b, x, d, y]))), some (.f (.lst [.str A, .str B, .str C])), some (.f (wordsD [a, b, x, d, y])), none] c = some (!decide ([a, b, d] = [A, B, C]), c) :=
      (or_f (asB_of ((op_of ln rfl).trans q2))).trans (asB_of ((op_of (lst_of (aC ((op_of rfl rfl).trans i0) (aC ((op_of rfl rfl).trans i1) (aC ((op_of rfl rfl).trans i3) aN))) l3) rfl).trans q3))
    by_cases hw : [a, b, d] = [A, B, C]
    · rw [decide_eq_true hw] at q4
      have q5 : fLst (aCons (fCall m__law_number (aCons (fOp oIx (fVarQ 2) (fC (.int 2))) aNil)) (aCons (fCall m__law_number (aCons (fOp oIx (fVarQ 2) (fC (.int 4))) aNil)) aNil)) [some (.f (.str (lineOf [a, b, x, d, y]))), some (.f (.lst [.str A, .str B, .str C])), some (.f (wordsD [a, b, x, d, y])), none] c = some (.lst [.int (numL (wnum x)), .int (numL (wnum y))], c) :=
        lst_of (aC ((call_of (aC ((op_of rfl rfl).trans i2) aN)).trans n1) (aC ((call_of (aC ((op_of rfl rfl).trans i4) aN)).trans n2) aN)) l2
      have ehd : hd [a, b, x, d, y] A B C = match wnum x, wnum y with | some i, some j => some (i, j) | _, _ => none := by
        show (if [a, b, d] = [A, B, C] then _ else none) = _
        rw [if_pos hw]
      have q6 : oGe (.int ([numL (wnum y)].foldl min (numL (wnum x)))) (.int 0) c = some (.bl ((wnum x).isSome && (wnum y).isSome), c) := by
        have fm : ([numL (wnum y)].foldl min (numL (wnum x))) = min (numL (wnum x)) (numL (wnum y)) := rfl
        rw [fm]
        simp only [oGe]
        cases hx : wnum x with
        | none =>
          rw [decide_eq_false (by show ¬ (0 : Int) ≤ min (-1) _; omega)]; rfl
        | some i =>
          have := (wnum_ok hx).1
          cases hy : wnum y with
          | none => rw [decide_eq_false (by show ¬ (0 : Int) ≤ min _ (-1); omega)]; rfl
          | some j =>
            have := (wnum_ok hy).1
            rw [decide_eq_true (by show (0 : Int) ≤ min i j; omega)]; rfl
      have q7 : fIf (asB (fOp oGe (fCall bMin (aCons (fVarQ 3) aNil)) (fC (.int 0)))) (fVar 3) (fLst aNil) [some (.f (.str (lineOf [a, b, x, d, y]))), some (.f (.lst [.str A, .str B, .str C])), some (.f (wordsD [a, b, x, d, y])), some (.f (.lst [.int (numL (wnum x)), .int (numL (wnum y))]))] c = some (hdL (hd [a, b, x, d, y] A B C), c) := by
        have qa := asB_of ((op_of (f := fCall bMin (aCons (fVarQ 3) aNil)) (g := fC (.int 0)) (env := [some (.f (.str (lineOf [a, b, x, d, y]))), some (.f (.lst [.str A, .str B, .str C])), some (.f (wordsD [a, b, x, d, y])), some (.f (.lst [.int (numL (wnum x)), .int (numL (wnum y))]))]) (c := c) ((call_of (aC rfl aN)).trans rfl) rfl).trans q6)
        rw [ehd]
        cases hx : wnum x with
        | none =>
          rw [hx] at qa
          exact (if_f qa).trans (lst_of aN l0)
        | some i =>
          cases hy : wnum y with
          | none =>
            rw [hx, hy] at qa
            exact (if_f qa).trans (lst_of aN l0)
          | some j =>
            rw [hx, hy] at qa
            exact (if_t qa).trans rfl
      exact mOf_rt rfl ((fSeq_nx (set_of q1)).trans ((fSeq_nx ((fIte_f (c1 := c) q4).trans rfl)).trans ((fSeq_nx (set_of q5)).trans (fRet_of q7))))
    · rw [decide_eq_false hw] at q4
      have ehd : hd [a, b, x, d, y] A B C = none := by
        show (if [a, b, d] = [A, B, C] then _ else none) = _
        rw [if_neg hw]
      rw [ehd]
      exact mOf_rt rfl ((fSeq_nx (set_of q1)).trans (fSeq_rt ((fIte_t (c1 := c) q4).trans (fRet_of (lst_of aN l0)))))
  · rw [decide_eq_false h5] at q2
    rw [hd_len A B C h5]
    exact mOf_rt rfl ((fSeq_nx (set_of q1)).trans (fSeq_rt ((fIte_t (c1 := c) (or_t (asB_of ((op_of ln rfl).trans q2)))).trans (fRet_of (lst_of aN l0)))))
end M58
set_option Elab.async false
set_option linter.all false
set_option maxRecDepth 100000
set_option maxHeartbeats 0
namespace M58
open PySem PySem.Spec PyProof.Rows L2 Pd L58 Ma TL
/-! ### what a text says -/
abbrev Tbl := Nat × List (List Int)
abbrev Use := Nat × List Int
def rowW (r : List Int) : List Str := r.map numS
def hdT (t : Tbl) : List Str := ["table", "arity", numS t.1, "rows", numS t.2.length]
def tabWs (t : Tbl) : List (List Str) := hdT t :: t.2.map rowW
def hdB (w : Int) (n : Nat) : List Str := ["book", "width", numS w, "tables", numS n]
def preB (w : Int) (n : Nat) (ts : List Tbl) : List (List Str) := hdB w n :: (ts.map tabWs).flatten
def bookWs (w : Int) (ts : List Tbl) : List (List Str) := preB w ts.length ts
def useW (u : Use) : List Str := "row" :: numS u.1 :: "at" :: u.2.map numS
def hdP (P : Int) (n : Nat) : List Str := ["puzzle", "places", numS P, "rows", numS n]
def puzWs (P : Int) (n : Nat) (us : List Use) : List (List Str) := hdP P n :: us.map useW
structure GU (ts : List Tbl) (P : Int) (u : Use) : Prop where
  ex : ∃ t, ts[u.1]? = some t ∧ GRow P t.1 u.2
def okNext (rs : List (List Int)) (r : List Int) : Bool := match rs.getLast? with | some q => decide (q < r) | none => true
def rowsP (ls : List (List Str)) (w : Int) (a : Nat) : Nat → Nat → List (List Int) → Nat ⊕ List (List Int)
  | 0, _, rs => .inr rs
  | n + 1, p, rs => if (okRow w a (ls.getD p []) && okNext rs (rowV (ls.getD p []))) = true then rowsP ls w a n (p + 1) (rs ++ [rowV (ls.getD p [])]) else .inl (p + 1)
def tabsP (ls : List (List Str)) (w : Int) : Nat → Nat → List Tbl → Nat ⊕ (Nat × List Tbl)
  | 0, p, ts => .inr (p, ts)
  | n + 1, p, ts => match hd (ls.getD p []) "table" "arity" "rows" with
    | none => .inl (p + 1)
    | some (a, m) => if 1 ≤ a ∧ a ≤ 3 then match rowsP ls w a.toNat m.toNat (p + 1) [] with
        | .inl e => .inl e
        | .inr rs => tabsP ls w n (p + 1 + m.toNat) (ts ++ [(a.toNat, rs)])
      else .inl (p + 1)
def bookP (ls : List (List Str)) : Nat ⊕ (Int × List Tbl) := match hd (ls.getD 0 []) "book" "width" "tables" with
  | none => .inl 1
  | some (w, n) => if 1 ≤ w ∧ w ≤ 3 then match tabsP ls w n.toNat 1 [] with
      | .inl e => .inl e
      | .inr (p, ts) => if p = ls.length then .inr (w, ts) else .inl (p + 1)
    else .inl 1
def useAt (ts : List Tbl) (P : Int) (l : List Str) : Option Use := match l with
  | r :: x :: y :: rest => if r = "row" ∧ y = "at" then match wnum x with
      | some i => match ts[i.toNat]? with
        | some t => if okRow P t.1 rest = true then some (i.toNat, rowV rest) else none
        | none => none
      | none => none
    else none
  | _ => none
def usesP (ls : List (List Str)) (ts : List Tbl) (P : Int) : Nat → Nat → List Use → Nat ⊕ List Use
  | 0, _, us => .inr us
  | n + 1, p, us => match useAt ts P (ls.getD p []) with
    | some u => usesP ls ts P n (p + 1) (us ++ [u])
    | none => .inl (p + 1)
def puzzleP (ls : List (List Str)) (ts : List Tbl) : Nat ⊕ (Int × List Use) := match hd (ls.getD 0 []) "puzzle" "places" "rows" with
  | none => .inl 1
  | some (P, n) => if P ≤ 60 then match usesP ls ts P n.toNat 1 [] with
      | .inl e => .inl e
      | .inr us => if n.toNat + 1 = ls.length then .inr (P, us) else .inl (n.toNat + 2)
    else .inl 1
/-! ### rows ascending -/
theorem str_snoc {rs : List (List Int)} {r : List Int} (h : StrI rs) (hn : okNext rs r = true) : StrI (rs ++ [r]) := by
  refine List.pairwise_append.mpr ⟨h, by simp, ?_⟩
  intro x hx y hy
  rw [List.mem_singleton.mp hy]
  have hne : rs ≠ [] := by intro z; rw [z] at hx; cases hx
  unfold okNext at hn
  rw [List.getLast?_eq_some_getLast hne] at hn
  have hl : rs.getLast hne < r := of_decide_eq_true hn
  have e := (List.dropLast_concat_getLast hne).symm
  rw [e] at hx h
  rcases List.mem_append.mp hx with hx | hx
  · exact List.lt_trans ((List.pairwise_append.mp h).2.2 x hx _ (by simp)) hl
  · rw [List.mem_singleton.mp hx]; exact hl
theorem int_up {lo hi : Int} : ∀ {l : List Int}, l.Pairwise (· < ·) → (∀ x ∈ l, lo ≤ x ∧ x < hi) → lo ≤ hi → (l.length : Int) ≤ hi - lo
  | [], _, _, h => by simp; omega
  | x :: l, hp, hb, h => by
    have h1 := hb x (List.mem_cons_self ..)
    have hp' := List.pairwise_cons.mp hp
    have ih := int_up (lo := x + 1) (hi := hi) hp'.2 (fun y hy => ⟨by have := hp'.1 y hy; omega, (hb y (List.mem_cons_of_mem _ hy)).2⟩) (by omega)
    simp only [List.length_cons]
    omega
theorem str_few {w : Int} {a : Nat} {rs : List (List Int)} (h : StrI rs) (hr : ∀ r ∈ rs, GRow w a r) (hw : w ≤ 3) (ha : a ≤ 3) : rs.length ≤ 27 := by
  have bd : ∀ r ∈ rs, TS.Bd 3 r := fun r hm x hx => by
    have := (hr r hm).2 x hx; omega
  have p : (rs.map (TS.code 3)).Pairwise (· < ·) := by
    rw [List.pairwise_map]
    refine h.imp_of_mem fun {x y} hx hy hlt => ?_
    exact (code_lex64 ((hr x hx).1.trans (hr y hy).1.symm) (bd x hx) (bd y hy)).mpr hlt
  have := int_up (lo := 0) (hi := 27) p (fun z hz => by
    obtain ⟨r, hm, rfl⟩ := List.mem_map.mp hz
    obtain ⟨b0, b1⟩ := TS.code_bd r (bd r hm)
    refine ⟨b0, ?_⟩
    have hl := (hr r hm).1
    rw [hl] at b1
    have : a = 0 ∨ a = 1 ∨ a = 2 ∨ a = 3 := by omega
    rcases this with rfl | rfl | rfl | rfl <;> simp at b1 <;> omega) (by decide)
  rw [List.length_map] at this
  omega
theorem gt_of {w : Int} {a : Nat} {rs : List (List Int)} (h : StrI rs) (hr : ∀ r ∈ rs, GRow w a r) (hw : w ≤ 3) (h1 : 1 ≤ a) (ha : a ≤ 3) : GT w a rs :=
  ⟨h1, ha, hr, h, by have := str_few h hr hw ha; omega⟩
theorem take_at {ls : List (List Str)} {p : Nat} (h : p < ls.length) : ls.take (p + 1) = ls.take p ++ [ls.getD p []] := by
  rw [take_succ' h, List.getD_eq_getElem?_getD, List.getElem?_eq_getElem h]; rfl
theorem in_of_row {ls : List (List Str)} {p : Nat} {w : Int} {a : Nat} (h1 : 1 ≤ a) (h : okRow w a (ls.getD p []) = true) : p < ls.length := by
  by_cases hp : p < ls.length
  · exact hp
  · rw [getD_out hp, okRow_nil w a h1] at h; cases h
theorem rowsP_spec {ls : List (List Str)} {w : Int} {a : Nat} (h1 : 1 ≤ a) : ∀ (n p : Nat) (rs rs' : List (List Int)), rowsP ls w a n p rs = .inr rs' → p ≤ ls.length → StrI rs → (∀ r ∈ rs, GRow w a r) →
    StrI rs' ∧ (∀ r ∈ rs', GRow w a r) ∧ rs'.length = rs.length + n ∧ p + n ≤ ls.length ∧ ∀ A, ls.take p = A ++ rs.map rowW → ls.take (p + n) = A ++ rs'.map rowW
  | 0, p, rs, rs', e, hp, hs, hr => by
    simp only [rowsP, Sum.inr.injEq] at e
    subst e
    exact ⟨hs, hr, rfl, hp, fun A h => h⟩
  | n + 1, p, rs, rs', e, hp, hs, hr => by
    simp only [rowsP] at e
    split at e
    · rename_i hc
      simp only [Bool.and_eq_true] at hc
      have hin := in_of_row h1 hc.1
      have hrow := okRow_row hc.1
      obtain ⟨a1, a2, a3, a4, a5⟩ := rowsP_spec h1 n (p + 1) _ _ e (by omega) (str_snoc hs hc.2) (fun r hm => by
        rcases List.mem_append.mp hm with hm | hm
        · exact hr r hm
        · rw [List.mem_singleton.mp hm]; exact hrow)
      refine ⟨a1, a2, by rw [a3]; simp; omega, by omega, fun A h => ?_⟩
      have := a5 A (by
        rw [take_at hin, h, List.append_assoc, List.map_append]
        congr 2
        show [_] = [rowW (rowV _)]
        rw [rowW, okRow_back hc.1])
      rw [← this]
      congr 1; omega
    · cases e
theorem rowsP_cap {ls : List (List Str)} {w : Int} {a : Nat} (h1 : 1 ≤ a) : ∀ (n p : Nat) (rs : List (List Int)), p ≤ ls.length → rowsP ls w a n p rs = rowsP ls w a (min n (ls.length + 1 - p)) p rs
  | 0, p, rs, hp => by rw [Nat.zero_min]
  | n + 1, p, rs, hp => by
    have e : min (n + 1) (ls.length + 1 - p) = min n (ls.length - p) + 1 := by omega
    rw [e]
    simp only [rowsP]
    split
    · rename_i hc
      simp only [Bool.and_eq_true] at hc
      have hin := in_of_row h1 hc.1
      rw [rowsP_cap h1 n (p + 1) _ (by omega)]
      congr 1; omega
    · rfl
theorem in_of_hd {ls : List (List Str)} {p : Nat} {A B C : Str} {q : Int × Int} (h : hd (ls.getD p []) A B C = some q) : p < ls.length := by
  by_cases hp : p < ls.length
  · exact hp
  · rw [getD_out hp, hd_nil] at h; cases h
theorem tabsP_spec {ls : List (List Str)} {w : Int} (hw : w ≤ 3) : ∀ (n p : Nat) (ts : List Tbl) (p' : Nat) (ts' : List Tbl), tabsP ls w n p ts = .inr (p', ts') → p ≤ ls.length → (∀ t ∈ ts, GT w t.1 t.2) →
    (∀ t ∈ ts', GT w t.1 t.2) ∧ ts'.length = ts.length + n ∧ p' ≤ ls.length ∧ ∀ A, ls.take p = A ++ (ts.map tabWs).flatten → ls.take p' = A ++ (ts'.map tabWs).flatten
  | 0, p, ts, p', ts', e, hp, hg => by
    simp only [tabsP, Sum.inr.injEq, Prod.mk.injEq] at e
    obtain ⟨rfl, rfl⟩ := e
    exact ⟨hg, rfl, hp, fun A h => h⟩
  | n + 1, p, ts, p', ts', e, hp, hg => by
    simp only [tabsP] at e
    split at e
    · cases e
    · rename_i a m eh
      have hin := in_of_hd eh
      obtain ⟨el, a0, a1, m0, m1⟩ := hd_ok eh
      split at e
      · rename_i ha
        split at e
        · cases e
        · rename_i rs er
          obtain ⟨b1, b2, b3, b4, b5⟩ := rowsP_spec (by omega) m.toNat (p + 1) [] rs er (by omega) .nil (by simp)
          have g := gt_of b1 b2 hw (by omega) (by omega)
          obtain ⟨c1, c2, c3, c4⟩ := tabsP_spec hw n _ _ _ _ e b4 (fun t ht => by
            rcases List.mem_append.mp ht with ht | ht
            · exact hg t ht
            · rw [List.mem_singleton.mp ht]; exact g)
          refine ⟨c1, by rw [c2]; simp; omega, c3, fun A h => c4 A ?_⟩
          have e1 : ls.take (p + 1) = (ls.take p ++ [ls.getD p []]) ++ ([] : List (List Int)).map rowW := by rw [take_at hin]; simp
          rw [b5 _ e1, h, List.map_append, List.flatten_append, el]
          simp only [List.length_nil, Nat.zero_add] at b3
          have e2 : ((a.toNat : Nat) : Int) = a := by omega
          have e3 : ((rs.length : Nat) : Int) = m := by rw [b3]; omega
          simp only [List.map_cons, List.map_nil, List.flatten_cons, List.flatten_nil, List.append_nil, tabWs, hdT, e2, e3, List.append_assoc, List.cons_append, List.nil_append]
      · cases e
theorem bookP_spec {ls : List (List Str)} {w : Int} {ts : List Tbl} (h : bookP ls = .inr (w, ts)) : 1 ≤ w ∧ w ≤ 3 ∧ (∀ t ∈ ts, GT w t.1 t.2) ∧ ls = bookWs w ts := by
  unfold bookP at h
  split at h
  · cases h
  · rename_i w' n eh
    have hin := in_of_hd eh
    obtain ⟨el, w0, w1, n0, n1⟩ := hd_ok eh
    split at h
    · rename_i hw
      split at h
      · cases h
      · rename_i p ts' et
        split at h
        · rename_i ep
          simp only [Sum.inr.injEq, Prod.mk.injEq] at h
          obtain ⟨rfl, rfl⟩ := h
          obtain ⟨b1, b2, b3, b4⟩ := tabsP_spec hw.2 _ _ _ _ _ et (by omega) (by simp)
          refine ⟨hw.1, hw.2, b1, ?_⟩
          have e1 : ls.take 1 = [ls.getD 0 []] ++ (([] : List Tbl).map tabWs).flatten := by
            have := take_at hin
            simpa using this
          have := b4 _ e1
          rw [ep, List.take_length, el] at this
          rw [this]
          simp only [List.length_nil, Nat.zero_add] at b2
          have e2 : ((ts'.length : Nat) : Int) = n := by rw [b2]; omega
          simp only [bookWs, preB, hdB, e2, List.cons_append, List.nil_append]
        · cases h
    · cases h
theorem useAt_ok {ts : List Tbl} {P : Int} {l : List Str} {u : Use} (h : useAt ts P l = some u) : GU ts P u ∧ useW u = l ∧ (u.1 : Int) < 1000000000 := by
  unfold useAt at h
  split at h
  · rename_i r x y rest
    split at h
    · rename_i e
      split at h
      · rename_i i ei
        split at h
        · rename_i t et
          split at h
          · rename_i ho
            cases h
            obtain ⟨i0, i1, i2⟩ := wnum_ok ei
            have e2 : ((i.toNat : Nat) : Int) = i := by omega
            refine ⟨⟨t, et, okRow_row ho⟩, ?_, by show ((i.toNat : Nat) : Int) < _; omega⟩
            show ("row" : Str) :: numS ((i.toNat : Nat) : Int) :: ("at" : Str) :: (rowV rest).map numS = _
            rw [e2, i2, okRow_back ho, e.1, e.2]
          · cases h
        · cases h
      · cases h
    · cases h
  · cases h
theorem useAt_nil (ts : List Tbl) (P : Int) : useAt ts P [] = none := rfl
theorem in_of_use {ls : List (List Str)} {ts : List Tbl} {P : Int} {p : Nat} {u : Use} (h : useAt ts P (ls.getD p []) = some u) : p < ls.length := by
  by_cases hp : p < ls.length
  · exact hp
  · rw [getD_out hp, useAt_nil] at h; cases h
theorem usesP_spec {ls : List (List Str)} {ts : List Tbl} {P : Int} : ∀ (n p : Nat) (us us' : List Use), usesP ls ts P n p us = .inr us' → p ≤ ls.length → (∀ u ∈ us, GU ts P u ∧ (u.1 : Int) < 1000000000) →
    (∀ u ∈ us', GU ts P u ∧ (u.1 : Int) < 1000000000) ∧ us'.length = us.length + n ∧ p + n ≤ ls.length ∧ ∀ A, ls.take p = A ++ us.map useW → ls.take (p + n) = A ++ us'.map useW
  | 0, p, us, us', e, hp, hg => by
    simp only [usesP, Sum.inr.injEq] at e
    subst e
    exact ⟨hg, rfl, hp, fun A h => h⟩
  | n + 1, p, us, us', e, hp, hg => by
    simp only [usesP] at e
    split at e
    · rename_i u eu
      have hin := in_of_use eu
      obtain ⟨g, ew, gu⟩ := useAt_ok eu
      obtain ⟨a1, a2, a3, a4⟩ := usesP_spec n (p + 1) _ _ e (by omega) (fun v hv => by
        rcases List.mem_append.mp hv with hv | hv
        · exact hg v hv
        · rw [List.mem_singleton.mp hv]; exact ⟨g, gu⟩)
      refine ⟨a1, by rw [a2]; simp; omega, by omega, fun A h => ?_⟩
      have := a4 A (by
        rw [take_at hin, h, List.append_assoc, List.map_append, ← ew]; rfl)
      rw [← this]
      congr 1; omega
    · cases e
theorem usesP_cap {ls : List (List Str)} {ts : List Tbl} {P : Int} : ∀ (n p : Nat) (us : List Use), p ≤ ls.length → usesP ls ts P n p us = usesP ls ts P (min n (ls.length + 1 - p)) p us
  | 0, p, us, hp => by rw [Nat.zero_min]
  | n + 1, p, us, hp => by
    have e : min (n + 1) (ls.length + 1 - p) = min n (ls.length - p) + 1 := by omega
    rw [e]
    simp only [usesP]
    split
    · rename_i u eu
      have hin := in_of_use eu
      rw [usesP_cap n (p + 1) _ (by omega)]
      congr 1; omega
    · rfl
theorem puzzleP_spec {ls : List (List Str)} {ts : List Tbl} {P : Int} {us : List Use} (h : puzzleP ls ts = .inr (P, us)) : 0 ≤ P ∧ P ≤ 60 ∧ (∀ u ∈ us, GU ts P u ∧ (u.1 : Int) < 1000000000) ∧ ls = puzWs P us.length us := by
  unfold puzzleP at h
  split at h
  · cases h
  · rename_i P' n eh
    have hin := in_of_hd eh
    obtain ⟨el, w0, w1, n0, n1⟩ := hd_ok eh
    split at h
    · rename_i hP
      split at h
      · cases h
      · rename_i us' et
        split at h
        · rename_i ep
          simp only [Sum.inr.injEq, Prod.mk.injEq] at h
          obtain ⟨rfl, rfl⟩ := h
          obtain ⟨b1, b2, b3, b4⟩ := usesP_spec _ _ _ _ et (by omega) (by simp)
          refine ⟨w0, hP, b1, ?_⟩
          have e1 : ls.take 1 = [ls.getD 0 []] ++ ([] : List Use).map useW := by
            have := take_at hin
            simpa using this
          have := b4 _ e1
          rw [Nat.add_comm, ep, List.take_length, el] at this
          rw [this]
          simp only [List.length_nil, Nat.zero_add] at b2
          have e2 : ((us'.length : Nat) : Int) = n := by rw [b2]; omega
          simp only [puzWs, hdP, e2, List.cons_append, List.nil_append]
        · cases h
    · cases h
end M58
set_option Elab.async false
set_option linter.all false
set_option maxRecDepth 100000
set_option maxHeartbeats 0
namespace M58
open PySem PySem.Spec PyProof.Rows L2 Pd L58 Ma TL
theorem s_written (r : List Int) (h : ∀ x ∈ r, 0 ≤ x ∧ x < 1000000000) (hl : r.length ≤ 10) (c : Cs) : m_written [tupI r] c = some (.str (lineOf (r.map numS)), c) := by
  have hcomp : ∀ a b : Option Sl, compD (gSet 1) fYes (fCall bStr (aCons (fVarQ 1) aNil)) (r.map D.int) [a, b] c = some (r.map fun i => D.str (numS i), c) := by
    intro a b
    refine compD_map fun x hx => ⟨_, rfl, rfl, ?_⟩
    simp only [fCall, aCons, aNil, fVarQ, gSet, List.set_cons_succ, List.set_cons_zero, List.getElem?_cons_succ, List.getElem?_cons_zero, bStr_num (h x hx).1 (h x hx).2]
  have hlen2 : (r.map fun i => D.str (numS i)).length ≤ lim := by rw [List.length_map]; exact lim_le (by omega)
  have em : (r.map numS).map D.str = r.map fun i => D.str (numS i) := by rw [List.map_map]; rfl
  have hj := join_nums h hl c
  rw [em] at hj
  simp only [m_written, f_written, mOf, startD, N_written, List.map_cons, List.map_nil, List.length_cons, List.length_nil, Nat.zero_add, Nat.reduceAdd, Nat.reduceSub, List.replicate, List.cons_append, List.nil_append, List.getElem?_cons_zero, List.getElem?_cons_succ, List.set_cons_zero, List.set_cons_succ, if_true, Bool.true_or, Bool.or_true, Bool.not_true, Bool.not_false, Bool.true_and, Bool.and_true, Bool.false_or, Bool.or_false, Bool.and_self, Bool.or_self, beq_self_eq_true, decide_true, decide_false, Bool.false_eq_true, if_false, fRet, fMd, fC, isTyM, deref, beq_self_eq_true, fCall, aCons, aNil, fComp, fIt, fVar, wipeD, tupI, hcomp, hlen2, hj]
theorem s_Book (w : Int) (ts : List (Nat × List (List Int))) (h1 : 1 ≤ w) (h2 : w ≤ 3) (c : Cs) : m_Book_init [.int w, .lst (ts.map fun t => tobj w t.1 t.2)] c = some (.obj 1 [.int w, .lst (ts.map fun t => tobj w t.1 t.2)], c) := by
  have loop : ∃ x y, forD (gSeq 2 (gsCons (gSet 3) (gsCons (gSet 4) gsNil))) (fIte (fOr (fNot (asB (fIsi (fun _ => false) (tc_cls 3 0) (fVarQ 4)))) (asB (fOp oNe (fFld [(0, 0), (1, 0)] (fVarQ 4)) (fVarQ 1)))) fNo fNx)
      (enumD 0 (ts.map fun t => tobj w t.1 t.2)) [some (.o (.obj 1 [])), some (.f (.int w)), some (.f (.lst (ts.map fun t => tobj w t.1 t.2))), none, none] c =
      some (.nx, [some (.o (.obj 1 [])), some (.f (.int w)), some (.f (.lst (ts.map fun t => tobj w t.1 t.2))), x, y], c) := by
    rw [enumD_map]
    have key := forD_st (g := gSeq 2 (gsCons (gSet 3) (gsCons (gSet 4) gsNil))) (fb := fIte (fOr (fNot (asB (fIsi (fun _ => false) (tc_cls 3 0) (fVarQ 4)))) (asB (fOp oNe (fFld [(0, 0), (1, 0)] (fVarQ 4)) (fVarQ 1)))) fNo fNx)
      (h := fun p : (Nat × List (List Int)) × Nat => .tup [.int (p.2 : Nat), tobj w p.1.1 p.1.2])
      (fun pre env c1 => ∃ x y, env = [some (.o (.obj 1 [])), some (.f (.int w)), some (.f (.lst (ts.map fun t => tobj w t.1 t.2))), x, y] ∧ c1 = c)
      (xs := ts.zipIdx 0) (env := [some (.o (.obj 1 [])), some (.f (.int w)), some (.f (.lst (ts.map fun t => tobj w t.1 t.2))), none, none]) (c := c) ⟨_, _, rfl, rfl⟩
    have fin := key (by
      intro pre x post e env c1 ⟨u, v, he, hc⟩
      subst he hc
      refine ⟨_, _, c1, rfl, ?_, ⟨some (.f (.int x.2)), some (.f (tobj w x.1.1 x.1.2)), rfl, rfl⟩⟩
      have e5 : oNe (.int w) (.int w) c1 = some (.bl false, c1) := by rw [oNe_int]; simp
      simp [mOf, startD, fSeq, fSet, fSetO, fIte, fOr, fAnd, fNot, asB, fOp, fVar, fVarQ, fC, fCall, aCons, aNil, fIf, fRet, fNx, fDrop, fIsi, isiD, kindD, deref, isaB, tc_none, tc_cls, fLenQ, lenD, fComp, fIt, fMd, isTyM, wipeD, tobj, fFld, List.lookup, e5])
    obtain ⟨env', c', e, x, y, h1, h2⟩ := fin
    rw [e]
    subst h1 h2
    exact ⟨x, y, rfl⟩
  obtain ⟨x, y, e⟩ := loop
  simp [m_Book_init, f_Book_init, mInit, startI, N_Book_init, mOf, startD, fSeq, fSet, fSetO, fIte, fOr, fAnd, fNot, asB, fOp, fVar, fVarQ, fC, fCall, aCons, aNil, fIf, fRet, fNx, fDrop, fIsi, isiD, kindD, deref, isaB, tc_none, tc_cls, fLenQ, lenD, fComp, fIt, fMd, isTyM, wipeD, s_check_width w h1 h2, fFor, fEnum, e, fFldO, List.lookup, fldPut, bList, seqOf]
theorem gt_small {w : Int} {a : Nat} {rs : List (List Int)} (hw : w ≤ 3) (h : GT w a rs) {r : List Int} (hr : r ∈ rs) : ∀ x ∈ r, 0 ≤ x ∧ x < 1000000000 := fun x hx => by
  have := (h.row r hr).2 x hx; omega
theorem asc3 : Asc "table" ∧ Asc "arity" ∧ Asc "rows" := ⟨asc_lit (by decide +kernel), asc_lit (by decide +kernel), asc_lit (by decide +kernel)⟩
def bobj (w : Int) (ts : List Tbl) : D := .obj 1 [.int w, .lst (ts.map fun t => tobj w t.1 t.2)]
theorem ascB : Asc "book" ∧ Asc "width" ∧ Asc "tables" := ⟨asc_lit (by decide +kernel), asc_lit (by decide +kernel), asc_lit (by decide +kernel)⟩
theorem oAdd_str {a b : Str} (h : a.length + b.length ≤ lim) (c : Cs) : oAdd (.str a) (.str b) c = some (.str (a ++ b), c) := by simp only [oAdd, h, if_true]
theorem len_app (a b : Str) : (a ++ b).length = a.length + b.length := by rw [len_tl, len_tl, len_tl, tl_append, List.length_append]
theorem empty_app (p : Str) : Str.empty ++ p = p := by
  apply ext_tl
  rw [tl_append]; rfl
theorem cat4 {p x q y : Str} (hp : p.length ≤ 100) (hx : x.length ≤ 100) (hq : q.length ≤ 100) (hy : y.length ≤ 100) : catS Str.empty [.str p, .str x, .str q, .str y] = some (p ++ x ++ q ++ y) := by
  have hL : lim = 1000000 := rfl
  have h1 : p.length ≤ lim := by omega
  have h2 : (p ++ x).length ≤ lim := by rw [len_app]; omega
  have h3 : (p ++ x ++ q).length ≤ lim := by rw [len_app, len_app]; omega
  have h4 : (p ++ x ++ q ++ y).length ≤ lim := by rw [len_app, len_app, len_app]; omega
  simp only [catS, empty_app, h1, h2, h3, h4, if_true]
theorem fmt_int {f : FE} {env : En} {c c1 : Cs} {i : Int} (h : f env c = some (.int i, c1)) (h0 : 0 ≤ i) (h2 : i < 1000000000) : fFmt f env c = some (.str (numS i), c1) := by
  simp only [fFmt, h, smStr_ok h0 h2, if_true]
theorem s_Table_len (w : Int) (a : Nat) (rs : List (List Int)) (c : Cs) : m_Table_len [tobj w a rs] c = some (.int (rs.length : Nat), c) := by
  simp [m_Table_len, f_Table_len, N_Table_len, mOf, startD, fSeq, fSet, fSetO, fIte, fOr, fAnd, fNot, asB, fOp, fVar, fVarQ, fC, fCall, aCons, aNil, fIf, fRet, fNx, fDrop, fIsi, isiD, kindD, deref, isaB, tc_none, tc_cls, fLenQ, lenD, fComp, fIt, fMd, isTyM, wipeD, tobj, fFld, List.lookup]
theorem s_Book_len (w : Int) (ts : List Tbl) (c : Cs) : m_Book_len [bobj w ts] c = some (.int (ts.length : Nat), c) := by
  simp [m_Book_len, f_Book_len, N_Book_len, mOf, startD, fSeq, fSet, fSetO, fIte, fOr, fAnd, fNot, asB, fOp, fVar, fVarQ, fC, fCall, aCons, aNil, fIf, fRet, fNx, fDrop, fIsi, isiD, kindD, deref, isaB, tc_none, tc_cls, fLenQ, lenD, fComp, fIt, fMd, isTyM, wipeD, bobj, fFld, List.lookup]
theorem s_Table_rows (w : Int) (a : Nat) (rs : List (List Int)) (c : Cs) : m_Table_rows [tobj w a rs] c = some (.lst (rs.map tupI), c) := by
  simp [m_Table_rows, f_Table_rows, N_Table_rows, mOf, startD, fSeq, fSet, fSetO, fIte, fOr, fAnd, fNot, asB, fOp, fVar, fVarQ, fC, fCall, aCons, aNil, fIf, fRet, fNx, fDrop, fIsi, isiD, kindD, deref, isaB, tc_none, tc_cls, fLenQ, lenD, fComp, fIt, fMd, isTyM, wipeD, tobj, fFld, List.lookup, bList, seqOf]
theorem s_Book_tables (w : Int) (ts : List Tbl) (c : Cs) : m_Book_tables [bobj w ts] c = some (.lst (ts.map fun t => tobj w t.1 t.2), c) := by
  simp [m_Book_tables, f_Book_tables, N_Book_tables, mOf, startD, fSeq, fSet, fSetO, fIte, fOr, fAnd, fNot, asB, fOp, fVar, fVarQ, fC, fCall, aCons, aNil, fIf, fRet, fNx, fDrop, fIsi, isiD, kindD, deref, isaB, tc_none, tc_cls, fLenQ, lenD, fComp, fIt, fMd, isTyM, wipeD, bobj, fFld, List.lookup, bList, seqOf]
theorem j_book (w : Int) (n : Nat) (h1 : 1 ≤ w) (h2 : w ≤ 3) : ("book width " : Str) ++ numS w ++ (" tables " : Str) ++ numS n = lineOf ["book", "width", numS w, "tables", numS n] :=
  join5 (by decide +kernel) (by decide +kernel)
theorem j_tab (a : Int) (n : Nat) : ("table arity " : Str) ++ numS a ++ (" rows " : Str) ++ numS n = lineOf ["table", "arity", numS a, "rows", numS n] :=
  join5 (by decide +kernel) (by decide +kernel)
theorem len_book (w : Int) (ts : List Tbl) (hl : ts.length ≤ 500000) {f : FE} {env : En} {c : Cs} (h : f env c = some (bobj w ts, c)) : fLen ms_len_Table_Book_Puzzle f env c = some (.int (ts.length : Nat), c) := by
  have e := s_Book_len w ts c
  have s1 : small62 ((ts.length : Nat) : Int) = true := small62_of (by omega) (by omega)
  have s0 : (0 : Int) ≤ ((ts.length : Nat) : Int) := by omega
  generalize ((ts.length : Nat) : Int) = N at e s1 s0 ⊢
  simp only [fLen, h, oLen]
  have : deref c (bobj w ts) = some (.obj 1 [.int w, .lst (ts.map fun t => tobj w t.1 t.2)]) := rfl
  simp only [this, ms_len_Table_Book_Puzzle, e, s1, s0, decide_true, Bool.and_self, if_true]
theorem len_tab (w : Int) (a : Nat) (rs : List (List Int)) (hl : rs.length ≤ 1000) {f : FE} {env : En} {c : Cs} (h : f env c = some (tobj w a rs, c)) : fLen ms_len_Table_Book_Puzzle f env c = some (.int (rs.length : Nat), c) := by
  have e := s_Table_len w a rs c
  have s1 : small62 ((rs.length : Nat) : Int) = true := small62_of (by omega) (by omega)
  have s0 : (0 : Int) ≤ ((rs.length : Nat) : Int) := by omega
  generalize ((rs.length : Nat) : Int) = N at e s1 s0 ⊢
  simp only [fLen, h, oLen]
  have : deref c (tobj w a rs) = some (.obj 0 [.int w, .int a, .lst (rs.map tupI), .dic (rs.map tupI) (rs.map fun _ => .bl true)]) := rfl
  simp only [this, ms_len_Table_Book_Puzzle, e, s1, s0, decide_true, Bool.and_self, if_true]
theorem width_book (w : Int) (ts : List Tbl) {f : FE} {env : En} {c : Cs} (h : f env c = some (bobj w ts, c)) : fFld [(0, 0), (1, 0)] f env c = some (.int w, c) := by
  simp [fFld, h, bobj, deref, List.lookup]
theorem arity_tab (w : Int) (a : Nat) (rs : List (List Int)) {f : FE} {env : En} {c : Cs} (h : f env c = some (tobj w a rs, c)) : fFld [(0, 1)] f env c = some (.int a, c) := by
  simp [fFld, h, tobj, deref, List.lookup]
theorem rows_tab (w : Int) (a : Nat) (rs : List (List Int)) {f : FE} {env : En} {c : Cs} (h : f env c = some (tobj w a rs, c)) : fProp ms_rows_Table_Puzzle f env c = some (.lst (rs.map tupI), c) := by
  have e := s_Table_rows w a rs c
  have : deref c (tobj w a rs) = some (tobj w a rs) := rfl
  simp only [fProp, h, this]
  simp only [tobj, ms_rows_Table_Puzzle] at e ⊢
  exact e
theorem tables_book (w : Int) (ts : List Tbl) {f : FE} {env : En} {c : Cs} (h : f env c = some (bobj w ts, c)) : fProp ms_tables_Book f env c = some (.lst (ts.map fun t => tobj w t.1 t.2), c) := by
  have e := s_Book_tables w ts c
  have : deref c (bobj w ts) = some (bobj w ts) := rfl
  simp only [fProp, h, this]
  simp only [bobj, ms_tables_Book] at e ⊢
  exact e
theorem joined4 {p q : Str} {f g : FE} {env : En} {c : Cs} {x y : Str} (hp : p.length ≤ 100) (hq : q.length ≤ 100) (hx : x.length ≤ 100) (hy : y.length ≤ 100) (hf : f env c = some (.str x, c)) (hg : g env c = some (.str y, c)) :
    fJoined (aCons (fC (.str p)) (aCons f (aCons (fC (.str q)) (aCons g aNil)))) env c = some (.str (p ++ x ++ q ++ y), c) := by
  simp only [fJoined, aCons, aNil, fC, hf, hg, cat4 hp hx hq hy]
def linesD (ls : List (List Str)) : D := .lst ((ls.map lineOf).map D.str)
theorem linesD_app (a b : List (List Str)) : (((a ++ b).map lineOf).map D.str) = ((a.map lineOf).map D.str) ++ ((b.map lineOf).map D.str) := by simp
theorem preB_snoc (w : Int) (n : Nat) (ts : List Tbl) (t : Tbl) : preB w n (ts ++ [t]) = preB w n ts ++ (hdT t :: t.2.map rowW) := by
  simp [preB, tabWs, hdT]
theorem preB_app (w : Int) (n : Nat) (a b : List Tbl) : preB w n (a ++ b) = preB w n a ++ (b.map tabWs).flatten := by
  simp [preB]
theorem preB_le {w : Int} {n : Nat} {ts pre post : List Tbl} {t : Tbl} (e : ts = pre ++ t :: post) (h : (preB w n ts).length ≤ 500000) : (preB w n pre).length ≤ 500000 := by
  rw [e, preB_app, List.length_append] at h
  omega
theorem s_show_loop (w : Int) (ts : List Tbl) (h2 : w ≤ 3) (hg : ∀ t ∈ ts, GT w t.1 t.2) (n : Nat) (hL : (preB w n ts).length ≤ 500000) (b : D) (c : Cs) :
    ∃ x y, forD (gSet 2) (fSeq (fMutO "list" uApp 1 (aCons (fJoined (aCons (fC (.str "table arity ")) (aCons (fFmt (fFld [(0, 1)] (fVarQ 2))) (aCons (fC (.str " rows ")) (aCons (fFmt (fLen ms_len_Table_Book_Puzzle (fVar 2))) aNil))))) aNil))
        (fSetO 1 (fOp oCat (fVarQ 1) (fComp (fIt (fProp ms_rows_Table_Puzzle (fVar 2))) (gSet 3) fYes (fCall m_written (aCons (fVar 3) aNil)) [3]))))
      (ts.map fun t => tobj w t.1 t.2) [some (.f b), some (.o (linesD (preB w n []))), none, none] c = some (.nx, [some (.f b), some (.o (linesD (preB w n ts))), x, y], c) := by
  have key := forD_st (g := gSet 2) (fb := fSeq (fMutO "list" uApp 1 (aCons (fJoined (aCons (fC (.str "table arity ")) (aCons (fFmt (fFld [(0, 1)] (fVarQ 2))) (aCons (fC (.str " rows ")) (aCons (fFmt (fLen ms_len_Table_Book_Puzzle (fVar 2))) aNil))))) aNil))
        (fSetO 1 (fOp oCat (fVarQ 1) (fComp (fIt (fProp ms_rows_Table_Puzzle (fVar 2))) (gSet 3) fYes (fCall m_written (aCons (fVar 3) aNil)) [3]))))
    (h := fun t : Tbl => tobj w t.1 t.2)
    (fun pre env c1 => ∃ x y, env = [some (.f b), some (.o (linesD (preB w n pre))), x, y] ∧ c1 = c)
    (xs := ts) (env := [some (.f b), some (.o (linesD (preB w n []))), none, none]) (c := c) ⟨_, _, rfl, rfl⟩
  have fin := key (by
    intro pre t post e env c1 ⟨u, v, he, hc⟩
    subst he hc
    have hmem : t ∈ ts := by rw [e]; simp
    have g := hg t hmem
    have ga := g.a3
    have gl := g.len
    have hpl : (preB w n pre).length ≤ 500000 := preB_le e hL
    have a1 : fJoined (aCons (fC (.str "table arity ")) (aCons (fFmt (fFld [(0, 1)] (fVarQ 2))) (aCons (fC (.str " rows ")) (aCons (fFmt (fLen ms_len_Table_Book_Puzzle (fVar 2))) aNil)))) [some (.f b), some (.o (linesD (preB w n pre))), some (.f (tobj w t.1 t.2)), v] c1 = some (.str (lineOf (hdT t)), c1) := by
      have a := numS_len (i := (t.1 : Nat)) (by omega) (by omega)
      have b' := numS_len (i := (t.2.length : Nat)) (by omega) (by omega)
      rw [joined4 (x := numS (t.1 : Nat)) (y := numS (t.2.length : Nat)) (by decide +kernel) (by decide +kernel) (by omega) (by omega)
        (fmt_int (arity_tab w t.1 t.2 rfl) (by omega) (by omega)) (fmt_int (len_tab w t.1 t.2 (by omega) rfl) (by omega) (by omega)), j_tab] <;> rfl
    have a2 : uApp (linesD (preB w n pre)) [.str (lineOf (hdT t))] = some (.non, linesD (preB w n pre ++ [hdT t])) := by
      have hlt : (((preB w n pre).map lineOf).map D.str).length < lim := (show _ < 1000000 by simp; omega)
      simp only [uApp, linesD, hlt, if_true, linesD_app, List.map_cons, List.map_nil]
    have a3 : ∀ u v x y : Option Sl, compD (gSet 3) fYes (fCall m_written (aCons (fVar 3) aNil)) (t.2.map tupI) [u, v, x, y] c1 = some (t.2.map fun r => D.str (lineOf (r.map numS)), c1) := by
      intro u v x y
      refine compD_map fun r hr => ⟨_, rfl, rfl, ?_⟩
      have gr := (g.row r hr).1
      simp only [fCall, aCons, aNil, fVar, gSet, List.set_cons_succ, List.set_cons_zero, List.getElem?_cons_succ, List.getElem?_cons_zero, s_written r (gt_small h2 g hr) (by omega)]
    have a4 : (t.2.map fun r => D.str (lineOf (r.map numS))).length ≤ lim := by rw [List.length_map]; exact lim_le (by omega)
    have a5 : oCat (linesD (preB w n pre ++ [hdT t])) (.lst (t.2.map fun r => D.str (lineOf (r.map numS)))) c1 = some (linesD (preB w n (pre ++ [t])), c1) := by
      have hlt : (((preB w n pre ++ [hdT t]).map lineOf).map D.str).length + (t.2.map fun r => D.str (lineOf (r.map numS))).length ≤ lim := lim_le (by simp; omega)
      simp only [oCat, linesD, hlt, if_true, preB_snoc]
      simp [rowW]
    refine ⟨_, [some (.f b), some (.o (linesD (preB w n (pre ++ [t])))), some (.f (tobj w t.1 t.2)), v], c1, rfl, ?_, ⟨_, _, rfl, rfl⟩⟩
    have a6 : isTy "list" (linesD (preB w n pre)) = true := rfl
    refine (fSeq_nx (env1 := [some (.f b), some (.o (linesD (preB w n pre ++ [hdT t]))), some (.f (tobj w t.1 t.2)), v]) (c1 := c1) ?_).trans ?_
    · simp only [List.map_cons, List.map_nil, List.length_cons, List.length_nil, Nat.zero_add, Nat.reduceAdd, Nat.reduceSub, List.replicate, List.cons_append, List.nil_append, List.getElem?_cons_zero, List.getElem?_cons_succ, List.set_cons_zero, List.set_cons_succ, if_true, Bool.true_or, Bool.or_true, Bool.not_true, Bool.not_false, Bool.true_and, Bool.and_true, Bool.false_or, Bool.or_false, Bool.and_self, Bool.or_self, beq_self_eq_true, decide_true, decide_false, Bool.false_eq_true, if_false, gSet, fMutO, a6, aCons, aNil, a1, a2]
    · have a7 : fProp ms_rows_Table_Puzzle (fVar 2) [some (.f b), some (.o (linesD (preB w n pre ++ [hdT t]))), some (.f (tobj w t.1 t.2)), v] c1 = some (.lst (t.2.map tupI), c1) := rows_tab w t.1 t.2 rfl
      simp only [List.map_cons, List.map_nil, List.length_cons, List.length_nil, Nat.zero_add, Nat.reduceAdd, Nat.reduceSub, List.replicate, List.cons_append, List.nil_append, List.getElem?_cons_zero, List.getElem?_cons_succ, List.set_cons_zero, List.set_cons_succ, if_true, Bool.true_or, Bool.or_true, Bool.not_true, Bool.not_false, Bool.true_and, Bool.and_true, Bool.false_or, Bool.or_false, Bool.and_self, Bool.or_self, beq_self_eq_true, decide_true, decide_false, Bool.false_eq_true, if_false, fSetO, fOp, fVarQ, fComp, fIt, a7, wipeD, a3, a4, a5])
  obtain ⟨env', c', e, x, y, h1, h2⟩ := fin
  refine ⟨x, y, e.trans ?_⟩
  subst h1 h2
  rfl
theorem flat_le (ts : List Tbl) : ts.length ≤ (ts.map tabWs).flatten.length := by
  induction ts with
  | nil => simp
  | cons t ts ih => simp only [List.map_cons, List.flatten_cons, List.length_append, List.length_cons, tabWs]; omega
theorem len_le {w : Int} {ts : List Tbl} (h : Lt (bookWs w ts)) : ts.length ≤ 500000 := by
  have := h.cnt
  have := flat_le ts
  simp only [bookWs, preB, List.length_cons] at *
  omega
theorem s_show_book (w : Int) (ts : List Tbl) (h1 : 1 ≤ w) (h2 : w ≤ 3) (hg : ∀ t ∈ ts, GT w t.1 t.2) (hL : Lt (bookWs w ts)) (c : Cs) : m_show_book [bobj w ts] c = some (.str (textOf (bookWs w ts)), c) := by
  have hl : ts.length ≤ 500000 := len_le hL
  obtain ⟨x, y, e⟩ := s_show_loop w ts h2 hg ts.length hL.cnt (bobj w ts) c
  have a := numS_len (i := w) (by omega) (by omega)
  have b := numS_len (i := (ts.length : Nat)) (by omega) (by omega)
  have l1 : 1 ≤ lim := by decide
  have j1 : fJoined (aCons (fC (.str "book width ")) (aCons (fFmt (fFld [(0, 0), (1, 0)] (fVarQ 0))) (aCons (fC (.str " tables ")) (aCons (fFmt (fLen ms_len_Table_Book_Puzzle (fVar 0))) aNil)))) [some (.f (bobj w ts)), none, none, none] c = some (.str (lineOf (hdB w ts.length)), c) := by
    rw [joined4 (x := numS w) (y := numS (ts.length : Nat)) (by decide +kernel) (by decide +kernel) (by omega) (by omega)
      (fmt_int (width_book w ts rfl) (by omega) (by omega)) (fmt_int (len_book w ts (by omega) rfl) (by omega) (by omega)), j_book w _ h1 h2] <;> rfl
  have j2 := hL.join c
  have e2 : bookWs w ts = preB w ts.length ts := rfl
  refine mOf_rt (env1 := [some (.f (bobj w ts)), some (.o (linesD (preB w ts.length ts))), x, y]) rfl ?_
  refine (fSeq_nx (env1 := [some (.f (bobj w ts)), some (.o (linesD (preB w ts.length []))), none, none]) (c1 := c) ?_).trans ?_
  · have e3 : startD N_show_book [bobj w ts] = [some (.f (bobj w ts)), none, none, none] := rfl
    rw [e3]
    simp only [fSetO, fLst, aCons, aNil, j1, List.map_cons, List.map_nil, List.length_cons, List.length_nil, Nat.zero_add, Nat.reduceAdd, Nat.reduceSub, List.replicate, List.cons_append, List.nil_append, List.getElem?_cons_zero, List.getElem?_cons_succ, List.set_cons_zero, List.set_cons_succ, if_true, Bool.true_or, Bool.or_true, Bool.not_true, Bool.not_false, Bool.true_and, Bool.and_true, Bool.false_or, Bool.or_false, Bool.and_self, Bool.or_self, beq_self_eq_true, decide_true, decide_false, Bool.false_eq_true, if_false, l1]
    rfl
  refine (fSeq_nx (env1 := [some (.f (bobj w ts)), some (.o (linesD (preB w ts.length ts))), x, y]) (c1 := c) ?_).trans ?_
  · refine (fFor_of (c1 := c) (ds := ts.map fun t => tobj w t.1 t.2) ?_).trans e
    have := tables_book w ts (f := fVar 0) (env := [some (.f (bobj w ts)), some (.o (linesD (preB w ts.length []))), none, none]) (c := c) rfl
    simp only [fIt, this]
  · rw [e2] at j2
    simp only [fRet, fMd, fC, isTyM, deref, List.map_cons, List.map_nil, List.length_cons, List.length_nil, Nat.zero_add, Nat.reduceAdd, Nat.reduceSub, List.replicate, List.cons_append, List.nil_append, List.getElem?_cons_zero, List.getElem?_cons_succ, List.set_cons_zero, List.set_cons_succ, if_true, Bool.true_or, Bool.or_true, Bool.not_true, Bool.not_false, Bool.true_and, Bool.and_true, Bool.false_or, Bool.or_false, Bool.and_self, Bool.or_self, beq_self_eq_true, decide_true, decide_false, Bool.false_eq_true, if_false, aCons, aNil, fVarQ, linesD, j2, e2]
end M58
set_option Elab.async false
set_option linter.all false
set_option maxRecDepth 100000
set_option maxHeartbeats 0
namespace M58
open PySem PySem.Spec PyProof.Rows L2 Pd L58 Ma TL
def tabD (t : Tbl) : D := gD t.1 t.2
theorem add4 {p q x y : Str} {f g : FE} {env : En} {c : Cs} (hp : p.length ≤ 100) (hq : q.length ≤ 100) (hx : x.length ≤ 100) (hy : y.length ≤ 100) (hf : f env c = some (.str x, c)) (hg : g env c = some (.str y, c)) :
    fOp oAdd (fOp oAdd (fOp oAdd (fC (.str p)) f) (fC (.str q))) g env c = some (.str (p ++ x ++ q ++ y), c) := by
  have hL : lim = 1000000 := rfl
  have h1 : p.length + x.length ≤ lim := by omega
  have h2 : (p ++ x).length + q.length ≤ lim := by rw [len_app]; omega
  have h3 : (p ++ x ++ q).length + y.length ≤ lim := by rw [len_app, len_app]; omega
  simp only [fOp, fC, hf, hg, oAdd_str h1, oAdd_str h2, oAdd_str h3]
theorem str_of {f : FE} {env : En} {c : Cs} {i : Int} (h : f env c = some (.int i, c)) (h0 : 0 ≤ i) (h2 : i < 1000000000) : fCall bStr (aCons f aNil) env c = some (.str (numS i), c) := by
  simp only [fCall, aCons, aNil, h, bStr_num h0 h2]
theorem s_lof_loop (w : Int) (ts : List Tbl) (h2 : w ≤ 3) (hg : ∀ t ∈ ts, GT w t.1 t.2) (n : Nat) (hL : (preB w n ts).length ≤ 500000) (a b : D) (c : Cs) :
    ∃ x y z u, forD (gSeq 2 (gsCons (gSet 3) (gsCons (gSet 4) gsNil))) (fSeq (fMutO "list" uApp 2 (aCons (fOp oAdd (fOp oAdd (fOp oAdd (fC (.str "table arity ")) (fCall bStr (aCons (fVarQ 3) aNil))) (fC (.str " rows "))) (fCall bStr (aCons (fLenQ (fVarQ 4)) aNil))) aNil))
        (fSetO 2 (fOp oCat (fVarQ 2) (fComp (fIt (fVar 4)) (gSet 5) fYes (fMd "str" mJoin (fC (.str " ")) (aCons (fComp (fIt (fVar 5)) (gSet 6) fYes (fCall bStr (aCons (fVarQ 6) aNil)) [6]) aNil)) [5]))))
      (ts.map tabD) [some (.f a), some (.f b), some (.o (linesD (preB w n []))), none, none, none, none] c = some (.nx, [some (.f a), some (.f b), some (.o (linesD (preB w n ts))), x, y, z, u], c) := by
  have key := forD_st (g := gSeq 2 (gsCons (gSet 3) (gsCons (gSet 4) gsNil))) (fb := fSeq (fMutO "list" uApp 2 (aCons (fOp oAdd (fOp oAdd (fOp oAdd (fC (.str "table arity ")) (fCall bStr (aCons (fVarQ 3) aNil))) (fC (.str " rows "))) (fCall bStr (aCons (fLenQ (fVarQ 4)) aNil))) aNil))
        (fSetO 2 (fOp oCat (fVarQ 2) (fComp (fIt (fVar 4)) (gSet 5) fYes (fMd "str" mJoin (fC (.str " ")) (aCons (fComp (fIt (fVar 5)) (gSet 6) fYes (fCall bStr (aCons (fVarQ 6) aNil)) [6]) aNil)) [5]))))
    (h := tabD)
    (fun pre env c1 => ∃ x y z u, env = [some (.f a), some (.f b), some (.o (linesD (preB w n pre))), x, y, z, u] ∧ c1 = c)
    (xs := ts) (env := [some (.f a), some (.f b), some (.o (linesD (preB w n []))), none, none, none, none]) (c := c) ⟨_, _, _, _, rfl, rfl⟩
  have fin := key (by
    intro pre t post e env c1 ⟨u1, u2, u3, u4, he, hc⟩
    subst he hc
    have hmem : t ∈ ts := by rw [e]; simp
    have g := hg t hmem
    have ga := g.a3
    have gl := g.len
    have hpl : (preB w n pre).length ≤ 500000 := preB_le e hL
    have a1 : fOp oAdd (fOp oAdd (fOp oAdd (fC (.str "table arity ")) (fCall bStr (aCons (fVarQ 3) aNil))) (fC (.str " rows "))) (fCall bStr (aCons (fLenQ (fVarQ 4)) aNil)) [some (.f a), some (.f b), some (.o (linesD (preB w n pre))), some (.f (.int t.1)), some (.f (.lst (t.2.map tupI))), u3, u4] c1 = some (.str (lineOf (hdT t)), c1) := by
      have x1 := numS_len (i := (t.1 : Nat)) (by omega) (by omega)
      have x2 := numS_len (i := (t.2.length : Nat)) (by omega) (by omega)
      rw [add4 (x := numS (t.1 : Nat)) (y := numS (t.2.length : Nat)) (by decide +kernel) (by decide +kernel) (by omega) (by omega)
        (str_of (i := (t.1 : Nat)) rfl (by omega) (by omega)) (str_of (i := (t.2.length : Nat)) (by simp only [fLenQ, fVarQ, List.map_cons, List.map_nil, List.length_cons, List.length_nil, Nat.zero_add, Nat.reduceAdd, Nat.reduceSub, List.replicate, List.cons_append, List.nil_append, List.getElem?_cons_zero, List.getElem?_cons_succ, List.set_cons_zero, List.set_cons_succ, if_true, Bool.true_or, Bool.or_true, Bool.not_true, Bool.not_false, Bool.true_and, Bool.and_true, Bool.false_or, Bool.or_false, Bool.and_self, Bool.or_self, beq_self_eq_true, decide_true, decide_false, Bool.false_eq_true, if_false, lenD, deref, List.length_map]) (by omega) (by omega)), j_tab] <;> rfl
    have a2 : uApp (linesD (preB w n pre)) [.str (lineOf (hdT t))] = some (.non, linesD (preB w n pre ++ [hdT t])) := by
      have hlt : (((preB w n pre).map lineOf).map D.str).length < lim := (show _ < 1000000 by simp; omega)
      simp only [uApp, linesD, hlt, if_true, linesD_app, List.map_cons, List.map_nil]
    have a3 : ∀ q1 q2 q3 q4 q5 q6 q7 : Option Sl, compD (gSet 5) fYes (fMd "str" mJoin (fC (.str " ")) (aCons (fComp (fIt (fVar 5)) (gSet 6) fYes (fCall bStr (aCons (fVarQ 6) aNil)) [6]) aNil)) (t.2.map tupI) [q1, q2, q3, q4, q5, q6, q7] c1 = some (t.2.map fun r => D.str (lineOf (r.map numS)), c1) := by
      intro q1 q2 q3 q4 q5 q6 q7
      refine compD_map fun r hr => ⟨_, rfl, rfl, ?_⟩
      have gr := (g.row r hr).1
      have hs := gt_small h2 g hr
      have b1 : ∀ q1 q2 q3 q4 q5 q6 q7 : Option Sl, compD (gSet 6) fYes (fCall bStr (aCons (fVarQ 6) aNil)) (r.map D.int) [q1, q2, q3, q4, q5, q6, q7] c1 = some (r.map fun i => D.str (numS i), c1) := by
        intro q1 q2 q3 q4 q5 q6 q7
        refine compD_map fun x hx => ⟨_, rfl, rfl, ?_⟩
        simp only [fCall, aCons, aNil, fVarQ, gSet, List.map_cons, List.map_nil, List.length_cons, List.length_nil, Nat.zero_add, Nat.reduceAdd, Nat.reduceSub, List.replicate, List.cons_append, List.nil_append, List.getElem?_cons_zero, List.getElem?_cons_succ, List.set_cons_zero, List.set_cons_succ, if_true, Bool.true_or, Bool.or_true, Bool.not_true, Bool.not_false, Bool.true_and, Bool.and_true, Bool.false_or, Bool.or_false, Bool.and_self, Bool.or_self, beq_self_eq_true, decide_true, decide_false, Bool.false_eq_true, if_false, bStr_num (hs x hx).1 (hs x hx).2]
      have em : (r.map numS).map D.str = r.map fun i => D.str (numS i) := by rw [List.map_map]; rfl
      have hj := join_nums hs (by omega) c1
      rw [em] at hj
      have b2 : (r.map fun i => D.str (numS i)).length ≤ lim := by rw [List.length_map]; exact lim_le (by omega)
      simp only [fMd, fC, isTyM, deref, List.map_cons, List.map_nil, List.length_cons, List.length_nil, Nat.zero_add, Nat.reduceAdd, Nat.reduceSub, List.replicate, List.cons_append, List.nil_append, List.getElem?_cons_zero, List.getElem?_cons_succ, List.set_cons_zero, List.set_cons_succ, if_true, Bool.true_or, Bool.or_true, Bool.not_true, Bool.not_false, Bool.true_and, Bool.and_true, Bool.false_or, Bool.or_false, Bool.and_self, Bool.or_self, beq_self_eq_true, decide_true, decide_false, Bool.false_eq_true, if_false, aCons, aNil, fComp, fIt, fVar, gSet, tupI, wipeD, b1, b2, hj]
    have a4 : (t.2.map fun r => D.str (lineOf (r.map numS))).length ≤ lim := by rw [List.length_map]; exact lim_le (by omega)
    have a5 : oCat (linesD (preB w n pre ++ [hdT t])) (.lst (t.2.map fun r => D.str (lineOf (r.map numS)))) c1 = some (linesD (preB w n (pre ++ [t])), c1) := by
      have hlt : (((preB w n pre ++ [hdT t]).map lineOf).map D.str).length + (t.2.map fun r => D.str (lineOf (r.map numS))).length ≤ lim := lim_le (by simp; omega)
      simp only [oCat, linesD, hlt, if_true, preB_snoc]
      simp [rowW]
    refine ⟨_, [some (.f a), some (.f b), some (.o (linesD (preB w n (pre ++ [t])))), some (.f (.int t.1)), some (.f (.lst (t.2.map tupI))), u3, u4], c1, rfl, ?_, ⟨_, _, _, _, rfl, rfl⟩⟩
    have a6 : isTy "list" (linesD (preB w n pre)) = true := rfl
    refine (fSeq_nx (env1 := [some (.f a), some (.f b), some (.o (linesD (preB w n pre ++ [hdT t]))), some (.f (.int t.1)), some (.f (.lst (t.2.map tupI))), u3, u4]) (c1 := c1) ?_).trans ?_
    · have a8 : (aCons (fOp oAdd (fOp oAdd (fOp oAdd (fC (.str "table arity ")) (fCall bStr (aCons (fVarQ 3) aNil))) (fC (.str " rows "))) (fCall bStr (aCons (fLenQ (fVarQ 4)) aNil))) aNil) [some (.f a), some (.f b), some (.o (linesD (preB w n pre))), some (.f (.int t.1)), some (.f (.lst (t.2.map tupI))), u3, u4] c1 = some ([.str (lineOf (hdT t))], c1) := by
        rw [aCons, a1]; rfl
      simp only [List.map_cons, List.map_nil, List.length_cons, List.length_nil, Nat.zero_add, Nat.reduceAdd, Nat.reduceSub, List.replicate, List.cons_append, List.nil_append, List.getElem?_cons_zero, List.getElem?_cons_succ, List.set_cons_zero, List.set_cons_succ, if_true, Bool.true_or, Bool.or_true, Bool.not_true, Bool.not_false, Bool.true_and, Bool.and_true, Bool.false_or, Bool.or_false, Bool.and_self, Bool.or_self, beq_self_eq_true, decide_true, decide_false, Bool.false_eq_true, if_false, gSet, fMutO, a6]
      rw [a8]
      simp only [a2, List.map_cons, List.map_nil, List.length_cons, List.length_nil, Nat.zero_add, Nat.reduceAdd, Nat.reduceSub, List.replicate, List.cons_append, List.nil_append, List.getElem?_cons_zero, List.getElem?_cons_succ, List.set_cons_zero, List.set_cons_succ, if_true, Bool.true_or, Bool.or_true, Bool.not_true, Bool.not_false, Bool.true_and, Bool.and_true, Bool.false_or, Bool.or_false, Bool.and_self, Bool.or_self, beq_self_eq_true, decide_true, decide_false, Bool.false_eq_true, if_false]
    · have a9 : fComp (fIt (fVar 4)) (gSet 5) fYes (fMd "str" mJoin (fC (.str " ")) (aCons (fComp (fIt (fVar 5)) (gSet 6) fYes (fCall bStr (aCons (fVarQ 6) aNil)) [6]) aNil)) [5] [some (.f a), some (.f b), some (.o (linesD (preB w n pre ++ [hdT t]))), some (.f (.int t.1)), some (.f (.lst (t.2.map tupI))), u3, u4] c1 = some (.lst (t.2.map fun r => D.str (lineOf (r.map numS))), c1) := by
        have d1 : fIt (fVar 4) [some (.f a), some (.f b), some (.o (linesD (preB w n pre ++ [hdT t]))), some (.f (.int t.1)), some (.f (.lst (t.2.map tupI))), u3, u4] c1 = some (t.2.map tupI, c1) := rfl
        rw [fComp, d1]
        simp only [wipeD, List.map_cons, List.map_nil, List.length_cons, List.length_nil, Nat.zero_add, Nat.reduceAdd, Nat.reduceSub, List.replicate, List.cons_append, List.nil_append, List.getElem?_cons_zero, List.getElem?_cons_succ, List.set_cons_zero, List.set_cons_succ, if_true, Bool.true_or, Bool.or_true, Bool.not_true, Bool.not_false, Bool.true_and, Bool.and_true, Bool.false_or, Bool.or_false, Bool.and_self, Bool.or_self, beq_self_eq_true, decide_true, decide_false, Bool.false_eq_true, if_false, a3, a4]
      have d2 : fVarQ 2 [some (.f a), some (.f b), some (.o (linesD (preB w n pre ++ [hdT t]))), some (.f (.int t.1)), some (.f (.lst (t.2.map tupI))), u3, u4] c1 = some (linesD (preB w n pre ++ [hdT t]), c1) := rfl
      simp only [fSetO, fOp, d2, a9, a5, List.map_cons, List.map_nil, List.length_cons, List.length_nil, Nat.zero_add, Nat.reduceAdd, Nat.reduceSub, List.replicate, List.cons_append, List.nil_append, List.getElem?_cons_zero, List.getElem?_cons_succ, List.set_cons_zero, List.set_cons_succ, if_true, Bool.true_or, Bool.or_true, Bool.not_true, Bool.not_false, Bool.true_and, Bool.and_true, Bool.false_or, Bool.or_false, Bool.and_self, Bool.or_self, beq_self_eq_true, decide_true, decide_false, Bool.false_eq_true, if_false])
  obtain ⟨env', c', e, x, y, z, u, h1, h2⟩ := fin
  refine ⟨x, y, z, u, e.trans ?_⟩
  subst h1 h2
  rfl
theorem s_lines_book (w : Int) (ts : List Tbl) (h1 : 1 ≤ w) (h2 : w ≤ 3) (hg : ∀ t ∈ ts, GT w t.1 t.2) (hL : Lt (bookWs w ts)) (c : Cs) : m__law_lines_of [.int w, .lst (ts.map tabD)] c = some (linesD (bookWs w ts), c) := by
  have hl : ts.length ≤ 500000 := len_le hL
  obtain ⟨x, y, z, u, e⟩ := s_lof_loop w ts h2 hg ts.length hL.cnt (.int w) (.lst (ts.map tabD)) c
  have a := numS_len (i := w) (by omega) (by omega)
  have b := numS_len (i := (ts.length : Nat)) (by omega) (by omega)
  have l1 : 1 ≤ lim := by decide
  have a1 : fOp oAdd (fOp oAdd (fOp oAdd (fC (.str "book width ")) (fCall bStr (aCons (fVarQ 0) aNil))) (fC (.str " tables "))) (fCall bStr (aCons (fLenQ (fVarQ 1)) aNil)) [some (.f (.int w)), some (.f (.lst (ts.map tabD))), none, none, none, none, none] c = some (.str (lineOf (hdB w ts.length)), c) := by
    rw [add4 (x := numS w) (y := numS (ts.length : Nat)) (by decide +kernel) (by decide +kernel) (by omega) (by omega)
      (str_of (i := w) rfl (by omega) (by omega)) (str_of (i := (ts.length : Nat)) (by simp only [fLenQ, fVarQ, List.map_cons, List.map_nil, List.length_cons, List.length_nil, Nat.zero_add, Nat.reduceAdd, Nat.reduceSub, List.replicate, List.cons_append, List.nil_append, List.getElem?_cons_zero, List.getElem?_cons_succ, List.set_cons_zero, List.set_cons_succ, if_true, Bool.true_or, Bool.or_true, Bool.not_true, Bool.not_false, Bool.true_and, Bool.and_true, Bool.false_or, Bool.or_false, Bool.and_self, Bool.or_self, beq_self_eq_true, decide_true, decide_false, Bool.false_eq_true, if_false, lenD, deref, List.length_map]) (by omega) (by omega)), j_book w _ h1 h2] <;> rfl
  refine mOf_rt (env1 := [some (.f (.int w)), some (.f (.lst (ts.map tabD))), some (.f (linesD (preB w ts.length ts))), x, y, z, u]) rfl ?_
  refine (fSeq_nx (env1 := [some (.f (.int w)), some (.f (.lst (ts.map tabD))), some (.o (linesD (preB w ts.length []))), none, none, none, none]) (c1 := c) ?_).trans ?_
  · have e3 : startD N__law_lines_of [.int w, .lst (ts.map tabD)] = [some (.f (.int w)), some (.f (.lst (ts.map tabD))), none, none, none, none, none] := rfl
    have a8 : (aCons (fOp oAdd (fOp oAdd (fOp oAdd (fC (.str "book width ")) (fCall bStr (aCons (fVarQ 0) aNil))) (fC (.str " tables "))) (fCall bStr (aCons (fLenQ (fVarQ 1)) aNil))) aNil) [some (.f (.int w)), some (.f (.lst (ts.map tabD))), none, none, none, none, none] c = some ([.str (lineOf (hdB w ts.length))], c) := by
      rw [aCons, a1]; rfl
    rw [e3]
    simp only [fSetO, fLst, a8, List.map_cons, List.map_nil, List.length_cons, List.length_nil, Nat.zero_add, Nat.reduceAdd, Nat.reduceSub, List.replicate, List.cons_append, List.nil_append, List.getElem?_cons_zero, List.getElem?_cons_succ, List.set_cons_zero, List.set_cons_succ, if_true, Bool.true_or, Bool.or_true, Bool.not_true, Bool.not_false, Bool.true_and, Bool.and_true, Bool.false_or, Bool.or_false, Bool.and_self, Bool.or_self, beq_self_eq_true, decide_true, decide_false, Bool.false_eq_true, if_false, l1]
    rfl
  refine (fSeq_nx (env1 := [some (.f (.int w)), some (.f (.lst (ts.map tabD))), some (.o (linesD (preB w ts.length ts))), x, y, z, u]) (c1 := c) ?_).trans ?_
  · exact (fFor_of (c1 := c) (ds := ts.map tabD) rfl).trans e
  · rfl
theorem s_program_table (w : Int) (t : Tbl) (h1 : 1 ≤ w) (h2 : w ≤ 3) (g : GT w t.1 t.2) (c : Cs) : m__law_program_table [.int w, tabD t] c = some (tobj w t.1 t.2, c) := by
  have e := s_Table w t.1 t.2 h1 h2 g c
  have i0 : oIx (tabD t) (.int 0) c = some (.int t.1, c) := by simp only [tabD, gD, oIx, ixD, deref, atI0]
  have i1 : oIx (tabD t) (.int 1) c = some (.lst (t.2.map tupI), c) := by simp only [tabD, gD, oIx, ixD, deref, atI1]
  simp only [m__law_program_table, f__law_program_table, N__law_program_table, List.map_cons, List.map_nil, List.length_cons, List.length_nil, Nat.zero_add, Nat.reduceAdd, Nat.reduceSub, List.replicate, List.cons_append, List.nil_append, List.getElem?_cons_zero, List.getElem?_cons_succ, List.set_cons_zero, List.set_cons_succ, if_true, Bool.true_or, Bool.or_true, Bool.not_true, Bool.not_false, Bool.true_and, Bool.and_true, Bool.false_or, Bool.or_false, Bool.and_self, Bool.or_self, beq_self_eq_true, decide_true, decide_false, Bool.false_eq_true, if_false, mOf, startD, fSeq, fSet, fSetO, fIte, fOr, fAnd, fNot, asB, fOp, fVar, fVarQ, fC, fCall, aCons, aNil, fIf, fRet, fNx, fDrop, fIsi, isiD, kindD, deref, isaB, tc_none, tc_cls, fLenQ, lenD, fComp, fIt, fMd, isTyM, wipeD, i0, i1, bList, seqOf, e]
theorem s_program_book (w : Int) (ts : List Tbl) (h1 : 1 ≤ w) (h2 : w ≤ 3) (hg : ∀ t ∈ ts, GT w t.1 t.2) (hl : ts.length ≤ 12) (c : Cs) : m__law_program_book [.int w, .lst (ts.map tabD)] c = some (bobj w ts, c) := by
  have a3 : ∀ q x y : Option Sl, compD (gSet 2) fYes (fCall m__law_program_table (aCons (fVar 0) (aCons (fVar 2) aNil))) (ts.map tabD) [some (.f (.int w)), q, y] c = some (ts.map fun t => tobj w t.1 t.2, c) := by
    intro q x y
    refine compD_map fun t ht => ⟨_, rfl, rfl, ?_⟩
    simp only [mOf, startD, fSeq, fSet, fSetO, fIte, fOr, fAnd, fNot, asB, fOp, fVar, fVarQ, fC, fCall, aCons, aNil, fIf, fRet, fNx, fDrop, fIsi, isiD, kindD, deref, isaB, tc_none, tc_cls, fLenQ, lenD, fComp, fIt, fMd, isTyM, wipeD, gSet, List.map_cons, List.map_nil, List.length_cons, List.length_nil, Nat.zero_add, Nat.reduceAdd, Nat.reduceSub, List.replicate, List.cons_append, List.nil_append, List.getElem?_cons_zero, List.getElem?_cons_succ, List.set_cons_zero, List.set_cons_succ, if_true, Bool.true_or, Bool.or_true, Bool.not_true, Bool.not_false, Bool.true_and, Bool.and_true, Bool.false_or, Bool.or_false, Bool.and_self, Bool.or_self, beq_self_eq_true, decide_true, decide_false, Bool.false_eq_true, if_false, s_program_table w t h1 h2 (hg t ht)]
  have a4 : (ts.map fun t => tobj w t.1 t.2).length ≤ lim := by rw [List.length_map]; exact lim_le (by omega)
  simp only [m__law_program_book, f__law_program_book, N__law_program_book, List.map_cons, List.map_nil, List.length_cons, List.length_nil, Nat.zero_add, Nat.reduceAdd, Nat.reduceSub, List.replicate, List.cons_append, List.nil_append, List.getElem?_cons_zero, List.getElem?_cons_succ, List.set_cons_zero, List.set_cons_succ, if_true, Bool.true_or, Bool.or_true, Bool.not_true, Bool.not_false, Bool.true_and, Bool.and_true, Bool.false_or, Bool.or_false, Bool.and_self, Bool.or_self, beq_self_eq_true, decide_true, decide_false, Bool.false_eq_true, if_false, mOf, startD, fSeq, fSet, fSetO, fIte, fOr, fAnd, fNot, asB, fOp, fVar, fVarQ, fC, fCall, aCons, aNil, fIf, fRet, fNx, fDrop, fIsi, isiD, kindD, deref, isaB, tc_none, tc_cls, fLenQ, lenD, fComp, fIt, fMd, isTyM, wipeD, a3 _ none, a4, s_Book w ts h1 h2, bobj]
end M58
set_option Elab.async false
set_option linter.all false
set_option maxRecDepth 100000
set_option maxHeartbeats 0
namespace M58
open PySem PySem.Spec PyProof.Rows L2 Pd L58 Ma TL
theorem all_map {α : Type} {h : α → D} {P : α → Prop} : ∀ {ys : List D}, (∀ y ∈ ys, ∃ v, y = h v ∧ P v) → ∃ r : List α, ys = r.map h ∧ ∀ x ∈ r, P x
  | [], _ => ⟨[], rfl, fun _ hx => (by cases hx)⟩
  | y :: ys, H => by
    obtain ⟨v, rfl, hv⟩ := H y (List.mem_cons_self ..)
    obtain ⟨r, rfl, hr⟩ := all_map fun z hz => H z (List.mem_cons_of_mem _ hz)
    exact ⟨v :: r, rfl, fun x hx => by
      rcases List.mem_cons.mp hx with rfl | hx
      · exact hv
      · exact hr x hx⟩
theorem Fd.to {k : Nat} {c c' : Cs} (h : FdTo k c c') : Fd k c' := h.fd
theorem s_drawn_row (c : Cs) (k : Nat) (w : Int) (a : Nat) (hc : Fd k c) (h1 : 1 ≤ w) (h2 : w ≤ 60) (ha : a ≤ 3) : ∃ (r : List Int) (c' : Cs), m__law_drawn_row [.cell k, .int w, .int a] c = some (tupI r, c') ∧ GRow w a r ∧ FdTo k c c' := by
  have s1 : small62 ((a : Nat) : Int) = true := small62_of (by omega) (by omega)
  have s2 : ((a : Nat) : Int).toNat = a := by omega
  obtain ⟨ys, c', e, hp, hl, hy⟩ := compD_st (g := gSet 3) (ft := fYes) (fe := fCall m__law_take (aCons (fVar 0) (aCons (fVar 1) aNil))) (h := fun i : Nat => D.int (0 + (i : Nat))) (env := [some (.f (.cell k)), some (.f (.int w)), some (.f (.int a)), none]) (P := fun c' => FdTo k c c') (R := fun _ y => ∃ v : Int, y = .int v ∧ 0 ≤ v ∧ v < w) (xs := List.range a) (c := c) (FdTo.refl hc)
    (fun x hx c1 hp => by
      obtain ⟨r, c2, r0, r1, e, f⟩ := s_take c1 k w hp.fd (by omega) (by omega)
      exact ⟨_, .int r, c2, rfl, rfl, (call_of (aC rfl (aC rfl aN))).trans e, hp.trans f, r, rfl, r0, r1⟩)
  obtain ⟨r, rfl, hr⟩ := all_map (h := D.int) (P := fun v => 0 ≤ v ∧ v < w) fun y hy' => let ⟨_, _, v, e, z⟩ := hy y hy'; ⟨v, e, z⟩
  refine ⟨r, c', ?_, ⟨by simpa using hl, hr⟩, hp⟩
  have l1 : (r.map D.int).length ≤ lim := lim_le (by rw [hl, List.length_range]; omega)
  refine mOf_rt (env1 := [some (.f (.cell k)), some (.f (.int w)), some (.f (.int a)), none]) rfl ?_
  have e1 : fRg1 (aCons (fVarQ 2) aNil) [some (.f (.cell k)), some (.f (.int w)), some (.f (.int a)), none] c = some (rangeD 0 a, c) := fRg1_of (aC rfl aN) s1 s2
  exact fRet_of ((call_of (aC (comp_of e1 e l1) aN)).trans rfl)
theorem s_drawn_rows (c : Cs) (k : Nat) (w : Int) (a m : Nat) (hc : Fd k c) (h1 : 1 ≤ w) (h2 : w ≤ 60) (ha : a ≤ 3) (hm : m ≤ 20) : ∃ (rs : List (List Int)) (c' : Cs), m__law_drawn_rows [.cell k, .int w, .int a, .int m] c = some (.lst (rs.map tupI), c') ∧ rs.length ≤ m ∧ (∀ r ∈ rs, GRow w a r) ∧ FdTo k c c' := by
  obtain ⟨n0, c0, n1, n2, e0, f0⟩ := s_take c k ((m : Int) + 1) hc (by omega) (by omega)
  obtain ⟨n, rfl⟩ := Int.eq_ofNat_of_zero_le n1
  have s1 : small62 ((n : Nat) : Int) = true := small62_of (by omega) (by omega)
  have s2 : ((n : Nat) : Int).toNat = n := by omega
  obtain ⟨ys, c', e, hp, hl, hy⟩ := compD_st (g := gSet 4) (ft := fYes) (fe := fCall m__law_drawn_row (aCons (fVar 0) (aCons (fVar 1) (aCons (fVar 2) aNil)))) (h := fun i : Nat => D.int (0 + (i : Nat))) (env := [some (.f (.cell k)), some (.f (.int w)), some (.f (.int a)), some (.f (.int m)), none]) (P := fun c' => FdTo k c0 c') (R := fun _ y => ∃ v, y = tupI v ∧ GRow w a v) (xs := List.range n) (c := c0) (FdTo.refl f0.fd)
    (fun x hx c1 hp => by
      obtain ⟨r, c2, e, g, f⟩ := s_drawn_row c1 k w a hp.fd h1 h2 ha
      exact ⟨_, tupI r, c2, rfl, rfl, (call_of (aC rfl (aC rfl (aC rfl aN)))).trans e, hp.trans f, r, rfl, g⟩)
  obtain ⟨r, rfl, hr⟩ := all_map (h := tupI) (P := fun v => GRow w a v) fun y hy' => let ⟨_, _, v, e, z⟩ := hy y hy'; ⟨v, e, z⟩
  rw [List.length_map, List.length_range] at hl
  refine ⟨r, c', ?_, by omega, hr, f0.trans hp⟩
  have l1 : (r.map tupI).length ≤ lim := lim_le (by rw [List.length_map]; omega)
  refine mOf_rt (env1 := [some (.f (.cell k)), some (.f (.int w)), some (.f (.int a)), some (.f (.int m)), none]) rfl ?_
  exact fRet_of (comp_of (fRg1_of (aC ((call_of (aC rfl (aC ((op_of rfl rfl).trans rfl) aN))).trans e0) aN) s1 s2) e l1)
theorem sortL_len : ∀ l : List (List Int), (sortL l).length ≤ l.length
  | [] => Nat.le_refl _
  | x :: r => by
    have ins : ∀ (x : List Int) (l : List (List Int)), (insL x l).length ≤ l.length + 1 := by
      intro x l
      induction l with
      | nil => simp [insL]
      | cons y s ih =>
        unfold insL
        split
        · simp
        · split
          · simp
          · simp only [List.length_cons]; omega
    have := ins x (sortL r)
    have := sortL_len r
    rw [sortL, List.length_cons]; omega
theorem rowsOk_of {w : Int} {a : Nat} {rs : List (List Int)} (hw : w ≤ 60) (ha : 1 ≤ a) (hl : rs.length ≤ 20) (h : ∀ r ∈ rs, GRow w a r) : rowsOk rs = true := by
  unfold rowsOk
  simp only [Bool.and_eq_true, decide_eq_true_eq, List.all_eq_true]
  refine ⟨by omega, fun r hr => ⟨⟨by rw [(h r hr).1]; exact ha, fun s hs => by rw [(h r hr).1, (h s hs).1]⟩, fun x hx => ?_⟩⟩
  have := (h r hr).2 x hx
  omega
theorem s_drawn_table (c : Cs) (k : Nat) (w : Int) (hc : Fd k c) (h1 : 1 ≤ w) (h2 : w ≤ 3) : ∃ (t : Tbl) (c' : Cs), m__law_drawn_table [.cell k, .int w, .int 6] c = some (tabD t, c') ∧ GT w t.1 t.2 ∧ FdTo k c c' := by
  obtain ⟨n0, c0, n1, n2, e0, f0⟩ := s_take c k 8 hc (by omega) (by omega)
  have t1 : fSet 3 (fCall m__law_take (aCons (fVar 0) (aCons (fC (.int 8)) aNil))) (startD N__law_drawn_table [.cell k, .int w, .int 6]) c = some (.nx, [some (.f (.cell k)), some (.f (.int w)), some (.f (.int 6)), some (.f (.int n0)), none], c0) := by
    exact set_of ((call_of (aC rfl (aC rfl aN))).trans e0)
  by_cases hn : n0 < 5
  · obtain ⟨xs, ek, k1, k2, k3⟩ := s_known w h1 h2 c0
    obtain ⟨x, c1, hx, ep, f1⟩ := s_pick c0 k xs f0.fd k1 k2
    obtain ⟨a, rs, rfl, g⟩ := gtB_ok (k3 x hx)
    refine ⟨(a, rs), c1, ?_, g, f0.trans f1⟩
    refine mOf_rt (env1 := [some (.f (.cell k)), some (.f (.int w)), some (.f (.int 6)), some (.f (.int n0)), none]) rfl ?_
    refine (fSeq_nx t1).trans ?_
    have e5 : oLt (.int n0) (.int 5) c0 = some (.bl true, c0) := by simp only [oLt, hn, decide_true]
    exact fSeq_rt ((fIte_t (asB_of ((op_of rfl rfl).trans e5))).trans (fRet_of ((call_of (aC rfl (aC ((call_of (aC rfl aN)).trans ek) aN))).trans ep)))
  · obtain ⟨m0, c1, m1, m2, e1, f1⟩ := s_take c0 k 3 f0.fd (by omega) (by omega)
    obtain ⟨b, hb⟩ : ∃ b : Nat, 1 + m0 = (b : Int) := ⟨(1 + m0).toNat, by omega⟩
    obtain ⟨rs, c2, e2, hl, hr, f2⟩ := s_drawn_rows c1 k w b 6 f1.fd h1 (by omega) (by omega) (by omega)
    have ok := rowsOk_of (by omega) (by omega) (by omega) hr
    have hlen := sortL_len rs
    refine ⟨(b, sortL rs), c2, ?_, ⟨by show 1 ≤ b; omega, by show b ≤ 3; omega, fun r hr' => hr r (mem_sortL.mp hr'), str_sortL rs, by show (sortL rs).length ≤ 64; omega⟩, (f0.trans f1).trans f2⟩
    have e2' : m__law_drawn_rows [.cell k, .int w, .int (1 + m0), .int 6] c1 = some (.lst (rs.map tupI), c2) := by rw [hb]; exact e2
    have ed : tabD (b, sortL rs) = .lst [.int (1 + m0), .lst ((sortL rs).map tupI)] := by rw [hb]; rfl
    rw [ed]
    clear e2 ed hb
    have l2 : 2 ≤ lim := by decide
    refine mOf_rt (env1 := [some (.f (.cell k)), some (.f (.int w)), some (.f (.int 6)), some (.f (.int n0)), some (.f (.int (1 + m0)))]) rfl ?_
    refine (fSeq_nx t1).trans ?_
    have e5 : oLt (.int n0) (.int 5) c0 = some (.bl false, c0) := by simp only [oLt, hn, decide_false]
    refine (fSeq_nx ((fIte_f (asB_of ((op_of rfl rfl).trans e5))).trans rfl)).trans ?_
    refine (fSeq_nx (set_of ((op_of rfl ((call_of (aC rfl (aC rfl aN))).trans e1)).trans rfl))).trans ?_
    have e6 : fSortSet (fCall m__law_drawn_rows (aCons (fVar 0) (aCons (fVar 1) (aCons (fVar 4) (aCons (fVar 2) aNil))))) [some (.f (.cell k)), some (.f (.int w)), some (.f (.int 6)), some (.f (.int n0)), some (.f (.int (1 + m0)))] c1 = some (.lst ((sortL rs).map tupI), c2) := by
      have : fCall m__law_drawn_rows (aCons (fVar 0) (aCons (fVar 1) (aCons (fVar 4) (aCons (fVar 2) aNil)))) [some (.f (.cell k)), some (.f (.int w)), some (.f (.int 6)), some (.f (.int n0)), some (.f (.int (1 + m0)))] c1 = some (.lst (rs.map tupI), c2) := (call_of (aC rfl (aC rfl (aC rfl (aC rfl aN))))).trans e2'
      rw [fSortSet, this]
      simp only [tupsI?_of, ok, if_true]
    exact fRet_of (lst_of (aC rfl (aC e6 aN)) l2)
theorem s_drawn_tables (c : Cs) (k : Nat) (w : Int) (m : Nat) (hc : Fd k c) (h1 : 1 ≤ w) (h2 : w ≤ 3) (hm : m ≤ 20) : ∃ (ts : List Tbl) (c' : Cs), m__law_drawn_tables [.cell k, .int w, .int m] c = some (.lst (ts.map tabD), c') ∧ ts.length ≤ m ∧ (∀ t ∈ ts, GT w t.1 t.2) ∧ FdTo k c c' := by
  obtain ⟨n0, c0, n1, n2, e0, f0⟩ := s_take c k ((m : Int) + 1) hc (by omega) (by omega)
  obtain ⟨n, rfl⟩ := Int.eq_ofNat_of_zero_le n1
  have s1 : small62 ((n : Nat) : Int) = true := small62_of (by omega) (by omega)
  have s2 : ((n : Nat) : Int).toNat = n := by omega
  obtain ⟨ys, c', e, hp, hl, hy⟩ := compD_st (g := gSet 3) (ft := fYes) (fe := fCall m__law_drawn_table (aCons (fVar 0) (aCons (fVar 1) (aCons (fC (.int 6)) aNil)))) (h := fun i : Nat => D.int (0 + (i : Nat))) (env := [some (.f (.cell k)), some (.f (.int w)), some (.f (.int m)), none]) (P := fun c' => FdTo k c0 c') (R := fun _ y => ∃ v, y = tabD v ∧ GT w v.1 v.2) (xs := List.range n) (c := c0) (FdTo.refl f0.fd)
    (fun x hx c1 hp => by
      obtain ⟨r, c2, e, g, f⟩ := s_drawn_table c1 k w hp.fd h1 h2
      exact ⟨_, tabD r, c2, rfl, rfl, (call_of (aC rfl (aC rfl (aC rfl aN)))).trans e, hp.trans f, r, rfl, g⟩)
  obtain ⟨r, rfl, hr⟩ := all_map (h := tabD) (P := fun v => GT w v.1 v.2) fun y hy' => let ⟨_, _, v, e, z⟩ := hy y hy'; ⟨v, e, z⟩
  rw [List.length_map, List.length_range] at hl
  refine ⟨r, c', ?_, by omega, hr, f0.trans hp⟩
  have l1 : (r.map tabD).length ≤ lim := lim_le (by rw [List.length_map]; omega)
  refine mOf_rt (env1 := [some (.f (.cell k)), some (.f (.int w)), some (.f (.int m)), none]) rfl ?_
  exact fRet_of (comp_of (fRg1_of (aC ((call_of (aC rfl (aC ((op_of rfl rfl).trans rfl) aN))).trans e0) aN) s1 s2) e l1)
end M58
set_option Elab.async false
set_option linter.all false
set_option maxRecDepth 100000
set_option maxHeartbeats 0
namespace M58
open PySem PySem.Spec PyProof.Rows L2 Pd L58 Ma TL
def useD (u : Use) : D := .tup [.int u.1, tupI u.2]
theorem pdn_tabD (k : Nat) (t : Tbl) : pdn (k + 4) (tabD t) = some (.list [.int t.1, .list (t.2.map fun r => .tuple (r.map .int))]) := by
  have := pdns_tupI (k + 1) t.2
  simp only [tabD, gD, pdn, pdns, this]
theorem pdns_tabD (k : Nat) : ∀ ts : List Tbl, pdns (k + 4) (ts.map tabD) = some (ts.map fun t => .list [.int t.1, .list (t.2.map fun r => .tuple (r.map .int))])
  | [] => by simp [pdns]
  | t :: ts => by simp only [List.map_cons, pdns, pdn_tabD k t, pdns_tabD k ts]
theorem oNe_tabs (ts : List Tbl) (c : Cs) : oNe (.lst (ts.map tabD)) (.lst []) c = some (.bl (!ts.isEmpty), c) := by
  have e1 : pdn deep (.lst (ts.map tabD)) = some (.list (ts.map fun t => .list [.int t.1, .list (t.2.map fun r => .tuple (r.map .int))])) := by
    have := pdns_tabD 55 ts
    show pdn (59 + 1) _ = _
    simp only [pdn, this]
  have e2 : pdn deep (.lst []) = some (.list []) := rfl
  simp only [oNe, e1, e2]
  cases ts with
  | nil => simp [PyData.eqv, PyData.eqvAll]
  | cons x xs => simp [PyData.eqv, PyData.eqvAll]
/-- drawn spots -/
theorem s_spots (c : Cs) (k : Nat) (P : Int) (a : Nat) (hc : Fd k c) (h1 : 1 ≤ P) (h2 : P ≤ 60) (ha : a ≤ 3) (ta q3 q4 q5 q6 q7 : Option Sl) : ∃ (r : List Int) (c' : Cs), compD (gSet 8) fYes (fCall m__law_take (aCons (fVar 0) (aCons (fVar 2) aNil))) (rangeD 0 a) [some (.f (.cell k)), ta, some (.f (.int P)), q3, q4, q5, q6, q7, none] c = some (r.map D.int, c') ∧ GRow P a r ∧ FdTo k c c' := by
  obtain ⟨ys, c', e, hp, hl, hy⟩ := compD_st (g := gSet 8) (ft := fYes) (fe := fCall m__law_take (aCons (fVar 0) (aCons (fVar 2) aNil))) (h := fun i : Nat => D.int (0 + (i : Nat))) (env := [some (.f (.cell k)), ta, some (.f (.int P)), q3, q4, q5, q6, q7, none]) (P := fun c' => FdTo k c c') (R := fun _ y => ∃ v : Int, y = .int v ∧ 0 ≤ v ∧ v < P) (xs := List.range a) (c := c) (FdTo.refl hc)
    (fun x hx c1 hp => by
      obtain ⟨r, c2, r0, r1, e, f⟩ := s_take c1 k P hp.fd (by omega) (by omega)
      exact ⟨_, .int r, c2, rfl, rfl, (call_of (aC rfl (aC rfl aN))).trans e, hp.trans f, r, rfl, r0, r1⟩)
  obtain ⟨r, rfl, hr⟩ := all_map (h := D.int) (P := fun v => 0 ≤ v ∧ v < P) fun y hy' => let ⟨_, _, v, e, z⟩ := hy y hy'; ⟨v, e, z⟩
  exact ⟨r, c', e, ⟨by simpa using hl, hr⟩, hp⟩
def usE (k : Nat) (ts : List Tbl) (P m : Int) (us : List Use) (x y z u : Option Sl) : En := [some (.f (.cell k)), some (.f (.lst (ts.map tabD))), some (.f (.int P)), some (.f (.int m)), some (.o (.lst (us.map useD))), x, y, z, u]
theorem s_uses_turn (c : Cs) (k : Nat) (w : Int) (ts : List Tbl) (P m : Int) (us : List Use) (hc : Fd k c) (h1 : 0 ≤ P) (h2 : P ≤ 60) (hg : ∀ t ∈ ts, GT w t.1 t.2) (hl : ts.length ≤ 100) (hu : us.length ≤ 100) (hus : ∀ u ∈ us, GU ts P u) (x y z u : Option Sl) :
    ∃ us' c' y' z', fIte (fAnd (asB (fOp oNe (fVarQ 1) (fLst aNil))) (asB (fOp oGt (fVarQ 2) (fC (.int 0)))))
  (fSeq (fSet 6 (fCall m__law_take (aCons (fVar 0) (aCons (fLenQ (fVarQ 1)) aNil))))
  (fSeq (fSet 7 (fCall bTuple (aCons (fComp (fRg1 (aCons (fOp oIx (fOp oIx (fVarQ 1) (fVarQ 6)) (fC (.int 0))) aNil)) (gSet 8) fYes (fCall m__law_take (aCons (fVar 0) (aCons (fVar 2) aNil))) [8]) aNil)))
  (fMutO "list" uApp 4 (aCons (fTup (aCons (fVar 6) (aCons (fVar 7) aNil))) aNil))))
  fNx (usE k ts P m us x y z u) c = some (.nx, usE k ts P m us' x y' z' u, c') ∧ us'.length ≤ us.length + 1 ∧ (∀ u ∈ us', GU ts P u) ∧ FdTo k c c' := by
  have en : fOp oNe (fVarQ 1) (fLst aNil) (usE k ts P m us x y z u) c = some (.bl (!ts.isEmpty), c) := by
    exact (op_of rfl (lst_of aN (Nat.zero_le _))).trans (oNe_tabs ts c)
  by_cases ht : ts = []
  · subst ht
    refine ⟨us, c, y, z, ?_, by omega, hus, .refl hc⟩
    exact (fIte_f (c1 := c) (and_f (asB_of en))).trans rfl
  · have hne : (!ts.isEmpty) = true := by cases ts with | nil => exact absurd rfl ht | cons => rfl
    rw [hne] at en
    by_cases hP : 0 < P
    · obtain ⟨n0, c0, n1, n2, e0, f0⟩ := s_take c k (ts.length : Nat) hc (by have := List.length_pos_iff.mpr ht; omega) (by omega)
      obtain ⟨n, hn⟩ := Int.eq_ofNat_of_zero_le n1
      have hnl : n < ts.length := by omega
      have htm : ts[n] ∈ ts := List.getElem_mem hnl
      have g := hg _ htm
      have ga := g.a3
      obtain ⟨r, c1, er, hr, f1⟩ := s_spots c0 k P ts[n].1 f0.fd (by omega) h2 ga (some (.f (.lst (ts.map tabD)))) (some (.f (.int m))) (some (.o (.lst (us.map useD)))) x (some (.f (.int n0))) z
      refine ⟨us ++ [(n, r)], c1, some (.f (.int n0)), some (.f (tupI r)), ?_, by simp, ?_, f0.trans f1⟩
      · have gP : oGt (.int P) (.int 0) c = some (.bl true, c) := by simp only [oGt, hP, decide_true]
        refine (fIte_t (c1 := c) ((and_t (asB_of en)).trans (asB_of ((op_of rfl rfl).trans gP)))).trans ?_
        refine (fSeq_nx (env1 := usE k ts P m us x (some (.f (.int n0))) z u) (c1 := c0) ?_).trans ?_
        · have e0' : m__law_take [.cell k, .int ((ts.map tabD).length : Nat)] c = some (.int n0, c0) := by rw [List.length_map]; exact e0
          exact set_of ((call_of (aC rfl (aC (lenQ_of rfl rfl) aN))).trans e0')
        refine (fSeq_nx (env1 := usE k ts P m us x (some (.f (.int n0))) (some (.f (tupI r))) u) (c1 := c1) ?_).trans ?_
        · have s1 : small62 ((ts[n].1 : Nat) : Int) = true := small62_of (by omega) (by omega)
          have s2 : ((ts[n].1 : Nat) : Int).toNat = ts[n].1 := by omega
          have i0 : oIx (.lst (ts.map tabD)) (.int n0) c0 = some (tabD ts[n], c0) := by
            rw [hn]
            simp only [oIx, ixD, deref, atIn, List.getElem?_map, List.getElem?_eq_getElem hnl, Option.map_some]
          have i1 : oIx (tabD ts[n]) (.int 0) c0 = some (.int (ts[n].1 : Nat), c0) := by simp only [tabD, gD, oIx, ixD, deref, atI0]
          have e1 : fRg1 (aCons (fOp oIx (fOp oIx (fVarQ 1) (fVarQ 6)) (fC (.int 0))) aNil) (usE k ts P m us x (some (.f (.int n0))) z u) c0 = some (rangeD 0 ts[n].1, c0) := by
            exact fRg1_of (aC ((op_of ((op_of rfl rfl).trans i0) rfl).trans i1) aN) s1 s2
          have l1 : (r.map D.int).length ≤ lim := lim_le (by rw [List.length_map, hr.1]; omega)
          exact set_of ((call_of (aC (comp_of e1 er l1) aN)).trans rfl)
        · have l2 : 2 ≤ lim := by decide
          have lu : (us.map useD).length < lim := Nat.lt_of_lt_of_le (show _ < 1000 by rw [List.length_map]; omega) (by decide)
          have eu : (us ++ [(n, r)]).map useD = us.map useD ++ [.tup [.int n0, tupI r]] := by rw [hn, List.map_append]; rfl
          have ea := app_of (x := .tup [.int n0, tupI r]) lu
          rw [← eu] at ea
          exact mutO_of rfl rfl (aC (tup_of (aC rfl (aC rfl aN)) l2) aN) ea
      · intro v hv
        rcases List.mem_append.mp hv with hv | hv
        · exact hus v hv
        · have : v = (n, r) := by simpa using hv
          subst this
          exact ⟨ts[n], List.getElem?_eq_getElem hnl, hr⟩
    · refine ⟨us, c, y, z, ?_, by omega, hus, .refl hc⟩
      have gP : oGt (.int P) (.int 0) c = some (.bl false, c) := by simp only [oGt, hP, decide_false]
      exact (fIte_f (c1 := c) ((and_t (asB_of en)).trans (asB_of ((op_of rfl rfl).trans gP)))).trans rfl
theorem s_uses (c : Cs) (k : Nat) (w : Int) (ts : List Tbl) (P : Int) (m : Nat) (hc : Fd k c) (h1 : 0 ≤ P) (h2 : P ≤ 60) (hg : ∀ t ∈ ts, GT w t.1 t.2) (hl : ts.length ≤ 100) (hm : m ≤ 50) :
    ∃ (us : List Use) (c' : Cs), m__law_uses [.cell k, .lst (ts.map tabD), .int P, .int m] c = some (.lst (us.map useD), c') ∧ us.length ≤ m ∧ (∀ u ∈ us, GU ts P u) ∧ FdTo k c c' := by
  have s1 : small62 ((m : Nat) : Int) = true := small62_of (by omega) (by omega)
  have s2 : ((m : Nat) : Int).toNat = m := by omega
  have l0 : 0 ≤ lim := Nat.zero_le _
  have key := forD_st (g := gSet 5) (fb := fIte (fAnd (asB (fOp oNe (fVarQ 1) (fLst aNil))) (asB (fOp oGt (fVarQ 2) (fC (.int 0)))))
  (fSeq (fSet 6 (fCall m__law_take (aCons (fVar 0) (aCons (fLenQ (fVarQ 1)) aNil))))
  (fSeq (fSet 7 (fCall bTuple (aCons (fComp (fRg1 (aCons (fOp oIx (fOp oIx (fVarQ 1) (fVarQ 6)) (fC (.int 0))) aNil)) (gSet 8) fYes (fCall m__law_take (aCons (fVar 0) (aCons (fVar 2) aNil))) [8]) aNil)))
  (fMutO "list" uApp 4 (aCons (fTup (aCons (fVar 6) (aCons (fVar 7) aNil))) aNil))))
  fNx) (h := fun i : Nat => D.int (0 + (i : Nat)))
    (fun pre env c1 => ∃ (us : List Use) (x y z u : Option Sl), env = usE k ts P m us x y z u ∧ us.length ≤ pre.length ∧ (∀ u ∈ us, GU ts P u) ∧ FdTo k c c1)
    (xs := List.range m) (env := usE k ts P m [] none none none none) (c := c) ⟨[], _, _, _, _, rfl, by simp, by simp, .refl hc⟩
  have fin := key (by
    intro pre i post e env c1 ⟨us, x, y, z, u, he, hl1, hu1, hf⟩
    subst he
    obtain ⟨hi, hi2⟩ := range_split e
    obtain ⟨us', c2, y', z', e2, hl2, hu2, f2⟩ := s_uses_turn c1 k w ts P m us hf.fd h1 h2 hg hl (by omega) hu1 (some (.f (.int (0 + (i : Nat))))) y z u
    exact ⟨_, _, c2, rfl, e2, us', _, _, _, _, rfl, by simp only [List.length_append, List.length_cons, List.length_nil]; omega, hu2, hf.trans f2⟩)
  obtain ⟨env', c', e, us, x, y, z, u, he, hl1, hu1, hf⟩ := fin
  subst he
  rw [List.length_range] at hl1
  refine ⟨us, c', ?_, hl1, hu1, hf⟩
  refine mOf_rt (env1 := [some (.f (.cell k)), some (.f (.lst (ts.map tabD))), some (.f (.int P)), some (.f (.int m)), some (.f (.lst (us.map useD))), x, y, z, u]) rfl ?_
  refine (fSeq_nx (setO_of (lst_of aN l0))).trans ?_
  refine (fSeq_nx ((fFor_of (fRg1_of (j := (m : Int)) (k := m) (c1 := c) (aC rfl aN) s1 s2)).trans e)).trans ?_
  rfl
end M58
set_option Elab.async false
set_option linter.all false
set_option maxRecDepth 100000
set_option maxHeartbeats 0
namespace M58
open PySem PySem.Spec PyProof.Rows L2 Pd L58 Ma TL
theorem f_kept (w : Int) (ts : List Tbl) {f : FE} {env : En} {c : Cs} (h : f env c = some (bobj w ts, c)) : fFld [(1, 1)] f env c = some (.lst (ts.map fun t => tobj w t.1 t.2), c) := fld_of h rfl rfl rfl
theorem s_getitem (w : Int) (ts : List Tbl) (i : Nat) (t : Tbl) (h : ts[i]? = some t) (c : Cs) : m_Book_getitem [bobj w ts, .int i] c = some (tobj w t.1 t.2, c) := by
  have hi : i < ts.length := (List.getElem?_eq_some_iff.mp h).1
  have e1 := s_within (i : Int) 0 (((ts.map fun t => tobj w t.1 t.2).length : Nat) - 1 : Int) c
  rw [decide_eq_true (show (0 : Int) ≤ i by omega), decide_eq_true (show (i : Int) ≤ (((ts.map fun t => tobj w t.1 t.2).length : Nat) - 1 : Int) by rw [List.length_map]; omega), Bool.and_self] at e1
  have e2 : oIx (.lst (ts.map fun t => tobj w t.1 t.2)) (.int i) c = some (tobj w t.1 t.2, c) := by
    simp only [oIx, ixD, deref, atIn, List.getElem?_map, h, Option.map_some]
  generalize ((i : Nat) : Int) = I at e1 e2 ⊢
  have f2 := f_kept w ts (f := fVarQ 0) (env := [some (.f (bobj w ts)), some (.f (.int I))]) (c := c) rfl
  refine mOf_rt (env1 := [some (.f (bobj w ts)), some (.f (.int I))]) rfl ?_
  refine (fSeq_nx (fIte_f (not_of (asB_of ((call_of (aC rfl (aC rfl (aC ((op_of (lenQ_of f2 rfl) rfl).trans rfl) aN)))).trans e1))))).trans ?_
  exact fRet_of ((op_of f2 rfl).trans e2)
theorem ixA_book (w : Int) (ts : List Tbl) (i : Nat) (t : Tbl) (h : ts[i]? = some t) (c : Cs) : oIxA ms_getitem_Book (bobj w ts) (.int i) c = some (tobj w t.1 t.2, c) := s_getitem w ts i t h c
theorem s_is_use (w : Int) (ts : List Tbl) (P : Int) (u : Use) (h2 : P ≤ 60) (hl : ts.length ≤ 1000) (hg : ∀ t ∈ ts, GT w t.1 t.2) (hu : GU ts P u) (c : Cs) : m_is_use [useD u, bobj w ts, .int P] c = some (.bl true, c) := by
  obtain ⟨t, ht, hr⟩ := hu.ex
  have hi : u.1 < ts.length := (List.getElem?_eq_some_iff.mp ht).1
  have htm : t ∈ ts := List.mem_of_getElem? ht
  have ga := (hg t htm).a3
  have e1 := s_within (u.1 : Int) 0 ((ts.length : Nat) - 1 : Int) c
  rw [decide_eq_true (show (0 : Int) ≤ u.1 by omega), decide_eq_true (show (u.1 : Int) ≤ ((ts.length : Nat) - 1 : Int) by omega), Bool.and_self] at e1
  have e2 : oIx (useD u) (.int 0) c = some (.int u.1, c) := by simp only [useD, oIx, ixD, deref, atI0]
  have e3 : oIx (useD u) (.int 1) c = some (tupI u.2, c) := by simp only [useD, oIx, ixD, deref, atI1]
  have e4 := s_is_row u.2 P t.1 (by omega) hr c
  have e5 := ixA_book w ts u.1 t ht c
  have e8 : oNe (.int ((2 : Nat) : Int)) (.int 2) c = some (.bl false, c) := by rw [oNe_int]; rfl
  have f6 := len_book w ts (by omega) (f := fVar 1) (env := [some (.f (useD u)), some (.f (bobj w ts)), some (.f (.int P))]) (c := c) rfl
  have f5 : fOp (oIxA ms_getitem_Book) (fVar 1) (fOp oIx (fVarQ 0) (fC (.int 0))) [some (.f (useD u)), some (.f (bobj w ts)), some (.f (.int P))] c = some (tobj w t.1 t.2, c) :=
    (op_of (x := bobj w ts) (c1 := c) rfl ((op_of (x := useD u) (c1 := c) rfl rfl).trans e2)).trans e5
  have f7 := arity_tab w t.1 t.2 f5
  refine mOf_rt (env1 := [some (.f (useD u)), some (.f (bobj w ts)), some (.f (.int P))]) rfl ?_
  refine (fSeq_nx (env1 := [some (.f (useD u)), some (.f (bobj w ts)), some (.f (.int P))]) (c1 := c) (fIte_f (c1 := c) ((or_f (c1 := c) (not_of (b := true) (asB_of (isi_of (x := useD u) (c1 := c) rfl rfl)))).trans ((or_f (c1 := c) (asB_of ((op_of (lenQ_of (x := useD u) (n := ((2 : Nat) : Int)) (c1 := c) rfl rfl) rfl).trans e8))).trans ?_)))).trans ?_
  · exact not_of (b := true) (asB_of ((call_of (aC ((op_of (x := useD u) (c1 := c) rfl rfl).trans e2) (aC rfl (aC ((op_of f6 rfl).trans rfl) aN)))).trans e1))
  · exact fRet_of ((call_of (aC ((op_of (x := useD u) (c1 := c) rfl rfl).trans e3) (aC rfl (aC f7 aN)))).trans e4)
def pobj (w : Int) (ts : List Tbl) (P : Int) (us : List Use) : D := .obj 2 [bobj w ts, .int P, .lst (us.map useD)]
theorem s_Puzzle (w : Int) (ts : List Tbl) (P : Int) (us : List Use) (h1 : 0 ≤ P) (h2 : P ≤ 60) (hl : ts.length ≤ 1000) (hg : ∀ t ∈ ts, GT w t.1 t.2) (hu : ∀ u ∈ us, GU ts P u) (c : Cs) : m_Puzzle_init [bobj w ts, .int P, .lst (us.map useD)] c = some (pobj w ts P us, c) := by
  have e1 := s_within P 0 60 c
  rw [decide_eq_true h1, decide_eq_true h2, Bool.and_self] at e1
  have loop : ∃ x y, forD (gSeq 2 (gsCons (gSet 4) (gsCons (gSet 5) gsNil))) (fIte (fNot (asB (fCall m_is_use (aCons (fVar 5) (aCons (fVar 1) (aCons (fVar 2) aNil)))))) fNo fNx)
      (enumD 0 (us.map useD)) [some (.o (.obj 2 [])), some (.f (bobj w ts)), some (.f (.int P)), some (.f (.lst (us.map useD))), none, none] c =
      some (.nx, [some (.o (.obj 2 [])), some (.f (bobj w ts)), some (.f (.int P)), some (.f (.lst (us.map useD))), x, y], c) := by
    rw [enumD_map]
    have key := forD_st (g := gSeq 2 (gsCons (gSet 4) (gsCons (gSet 5) gsNil))) (fb := fIte (fNot (asB (fCall m_is_use (aCons (fVar 5) (aCons (fVar 1) (aCons (fVar 2) aNil)))))) fNo fNx)
      (h := fun p : Use × Nat => .tup [.int (p.2 : Nat), useD p.1])
      (fun pre env c1 => ∃ x y, env = [some (.o (.obj 2 [])), some (.f (bobj w ts)), some (.f (.int P)), some (.f (.lst (us.map useD))), x, y] ∧ c1 = c)
      (xs := us.zipIdx 0) (env := [some (.o (.obj 2 [])), some (.f (bobj w ts)), some (.f (.int P)), some (.f (.lst (us.map useD))), none, none]) (c := c) ⟨_, _, rfl, rfl⟩
    have fin := key (by
      intro pre x post e env c1 ⟨u, v, he, hc⟩
      subst he hc
      have hm : x.1 ∈ us := by
        have := zip_split e
        rw [this]; simp
      have e2 := s_is_use w ts P x.1 h2 hl hg (hu _ hm) c1
      exact ⟨_, _, c1, rfl, fIte_f (not_of (b := true) (asB_of ((call_of (aC rfl (aC rfl (aC rfl aN)))).trans e2))), some (.f (.int (x.2 : Nat))), some (.f (useD x.1)), rfl, rfl⟩)
    obtain ⟨env', c', e, x, y, h1, h2⟩ := fin
    rw [e]
    subst h1 h2
    exact ⟨x, y, rfl⟩
  obtain ⟨x, y, e⟩ := loop
  refine mInit_of (env1 := [some (.o (pobj w ts P us)), some (.f (bobj w ts)), some (.f (.int P)), some (.f (.lst (us.map useD))), x, y]) rfl ?_ rfl
  refine (fSeq_nx (fIte_f (not_of (b := true) (asB_of ((call_of (aC rfl (aC rfl (aC rfl aN)))).trans e1))))).trans ?_
  refine (fSeq_nx (env1 := [some (.o (.obj 2 [])), some (.f (bobj w ts)), some (.f (.int P)), some (.f (.lst (us.map useD))), none, none]) (c1 := c) (fIte_f (not_of (b := true) (asB_of (isi_of (x := .lst (us.map useD)) (c1 := c) rfl rfl))))).trans ?_
  refine (fSeq_nx ((fFor_of (enum_of (ds := us.map useD) (c1 := c) rfl)).trans e)).trans ?_
  rfl
theorem s_Puzzle_len (w : Int) (ts : List Tbl) (P : Int) (us : List Use) (c : Cs) : m_Puzzle_len [pobj w ts P us] c = some (.int (us.length : Nat), c) := by
  have : m_Puzzle_len [pobj w ts P us] c = some (.int ((us.map useD).length : Nat), c) := rfl
  rw [List.length_map] at this
  exact this
theorem s_Puzzle_rows (w : Int) (ts : List Tbl) (P : Int) (us : List Use) (c : Cs) : m_Puzzle_rows [pobj w ts P us] c = some (.lst (us.map useD), c) := rfl
theorem len_puz (w : Int) (ts : List Tbl) (P : Int) (us : List Use) (hl : us.length ≤ 500000) {f : FE} {env : En} {c : Cs} (h : f env c = some (pobj w ts P us, c)) : fLen ms_len_Table_Book_Puzzle f env c = some (.int (us.length : Nat), c) :=
  len_of h rfl rfl (s_Puzzle_len w ts P us c) (by omega) (small62_of (by omega) (by omega))
theorem rows_puz (w : Int) (ts : List Tbl) (P : Int) (us : List Use) {f : FE} {env : En} {c : Cs} (h : f env c = some (pobj w ts P us, c)) : fProp ms_rows_Table_Puzzle f env c = some (.lst (us.map useD), c) :=
  (prop_of h rfl rfl).trans (s_Puzzle_rows w ts P us c)
theorem places_puz (w : Int) (ts : List Tbl) (P : Int) (us : List Use) {f : FE} {env : En} {c : Cs} (h : f env c = some (pobj w ts P us, c)) : fFld [(2, 1)] f env c = some (.int P, c) := fld_of h rfl rfl rfl
theorem book_puz (w : Int) (ts : List Tbl) (P : Int) (us : List Use) {f : FE} {env : En} {c : Cs} (h : f env c = some (pobj w ts P us, c)) : fFld [(2, 0)] f env c = some (bobj w ts, c) := fld_of h rfl rfl rfl
theorem krows_puz (w : Int) (ts : List Tbl) (P : Int) (us : List Use) {f : FE} {env : En} {c : Cs} (h : f env c = some (pobj w ts P us, c)) : fFld [(2, 2)] f env c = some (.lst (us.map useD), c) := fld_of h rfl rfl rfl
end M58
set_option Elab.async false
set_option linter.all false
set_option maxRecDepth 100000
set_option maxHeartbeats 0
namespace M58
open PySem PySem.Spec PyProof.Rows L2 Pd L58 Ma TL
structure US (u : Use) : Prop where
  ne : u.2 ≠ []
  len : u.2.length ≤ 10
  sm : ∀ x ∈ u.2, 0 ≤ x ∧ x < 1000000000
  nr : (u.1 : Int) < 1000000000
theorem GU.us {w : Int} {ts : List Tbl} {P : Int} {u : Use} (h : GU ts P u) (hP : P ≤ 60) (hg : ∀ t ∈ ts, GT w t.1 t.2) (hl : ts.length ≤ 1000) : US u := by
  obtain ⟨t, ht, hr⟩ := h.ex
  have hi : u.1 < ts.length := (List.getElem?_eq_some_iff.mp ht).1
  have g := hg t (List.mem_of_getElem? ht)
  have a1 := g.a1
  have a3 := g.a3
  have h1 := hr.1
  exact ⟨by intro z; rw [z] at h1; simp at h1; omega, by omega, fun x hx => by have := hr.2 x hx; omega, by omega⟩
theorem j_use {a : Int} {r : List Int} (hr : r ≠ []) : ("row " : Str) ++ numS a ++ (" at " : Str) ++ lineOf (r.map numS) = lineOf ("row" :: numS a :: "at" :: r.map numS) := by
  have h1 : tl ("row " : Str) = tl ("row" : Str) ++ [32] := by decide +kernel
  have h2 : tl (" at " : Str) = [32] ++ tl ("at" : Str) ++ [32] := by decide +kernel
  cases r with
  | nil => exact absurd rfl hr
  | cons x r =>
    apply ext_tl
    show tl (("row " : Str) ++ numS a ++ (" at " : Str) ++ Txt.join blank ((x :: r).map numS)) = tl (Txt.join blank (("row" : Str) :: numS a :: ("at" : Str) :: (x :: r).map numS))
    simp only [tl_append, tl_joinT, h1, h2, tl_blank, List.map_cons, joinL, List.append_assoc, List.cons_append, List.nil_append]
theorem wd_use {u : Use} (h : US u) : ∀ w ∈ useW u, Wd w := by
  intro w hw
  simp only [useW, List.mem_cons, List.mem_map] at hw
  rcases hw with rfl | rfl | rfl | ⟨i, hi, rfl⟩
  · exact wd_lit (by decide +kernel)
  · exact wd_num (by omega)
  · exact wd_lit (by decide +kernel)
  · exact wd_num (h.sm i hi).1
theorem j_puz (P : Int) (n : Nat) : ("puzzle places " : Str) ++ numS P ++ (" rows " : Str) ++ numS n = lineOf (hdP P n) :=
  join5 (by decide +kernel) (by decide +kernel)
theorem puz_snoc (P : Int) (n : Nat) (us : List Use) (u : Use) : puzWs P n (us ++ [u]) = puzWs P n us ++ [useW u] := by simp [puzWs]
theorem lines_snoc (P : Int) (n : Nat) (us : List Use) (u : Use) (hl : us.length ≤ 500000) : uApp (linesD (puzWs P n us)) [.str (lineOf (useW u))] = some (.non, linesD (puzWs P n (us ++ [u]))) := by
  have hlt : (((puzWs P n us).map lineOf).map D.str).length < lim := (show _ < 1000000 by simp [puzWs]; omega)
  simp only [uApp, linesD, hlt, if_true, puz_snoc, linesD_app, List.map_cons, List.map_nil]
theorem s_use_lines (P : Int) (us : List Use) (h1 : 0 ≤ P) (h2 : P ≤ 60) (hl : us.length ≤ 500000) (hu : ∀ u ∈ us, US u) (c : Cs) : m__law_use_lines [.int P, .lst (us.map useD)] c = some (linesD (puzWs P us.length us), c) := by
  have a := numS_len (i := P) (by omega) (by omega)
  have b := numS_len (i := (us.length : Nat)) (by omega) (by omega)
  have l1 : 1 ≤ lim := by decide
  have a1 : fOp oAdd (fOp oAdd (fOp oAdd (fC (.str "puzzle places ")) (fCall bStr (aCons (fVarQ 0) aNil))) (fC (.str " rows "))) (fCall bStr (aCons (fLenQ (fVarQ 1)) aNil)) [some (.f (.int P)), some (.f (.lst (us.map useD))), none, none, none, none] c = some (.str (lineOf (hdP P us.length)), c) := by
    have el : fLenQ (fVarQ 1) [some (.f (.int P)), some (.f (.lst (us.map useD))), none, none, none, none] c = some (.int (us.length : Nat), c) := lenQ_of (x := .lst (us.map useD)) rfl (by simp only [lenD, deref, List.length_map])
    rw [add4 (x := numS P) (y := numS (us.length : Nat)) (by decide +kernel) (by decide +kernel) (by omega) (by omega) (str_of (i := P) rfl (by omega) (by omega)) (str_of el (by omega) (by omega)), j_puz]
  have loop : ∃ x y z, forD (gSeq 2 (gsCons (gSet 3) (gsCons (gSet 4) gsNil))) (fMutO "list" uApp 2 (aCons (fOp oAdd (fOp oAdd (fOp oAdd (fC (.str "row ")) (fCall bStr (aCons (fVarQ 3) aNil))) (fC (.str " at "))) (fMd "str" mJoin (fC (.str " ")) (aCons (fComp (fIt (fVar 4)) (gSet 5) fYes (fCall bStr (aCons (fVarQ 5) aNil)) [5]) aNil))) aNil))
      (us.map useD) [some (.f (.int P)), some (.f (.lst (us.map useD))), some (.o (linesD (puzWs P us.length []))), none, none, none] c =
      some (.nx, [some (.f (.int P)), some (.f (.lst (us.map useD))), some (.o (linesD (puzWs P us.length us))), x, y, z], c) := by
    have key := forD_st (g := gSeq 2 (gsCons (gSet 3) (gsCons (gSet 4) gsNil))) (fb := fMutO "list" uApp 2 (aCons (fOp oAdd (fOp oAdd (fOp oAdd (fC (.str "row ")) (fCall bStr (aCons (fVarQ 3) aNil))) (fC (.str " at "))) (fMd "str" mJoin (fC (.str " ")) (aCons (fComp (fIt (fVar 4)) (gSet 5) fYes (fCall bStr (aCons (fVarQ 5) aNil)) [5]) aNil))) aNil))
      (h := useD)
      (fun pre env c1 => ∃ x y z, env = [some (.f (.int P)), some (.f (.lst (us.map useD))), some (.o (linesD (puzWs P us.length pre))), x, y, z] ∧ c1 = c)
      (xs := us) (env := [some (.f (.int P)), some (.f (.lst (us.map useD))), some (.o (linesD (puzWs P us.length []))), none, none, none]) (c := c) ⟨_, _, _, rfl, rfl⟩
    have fin := key (by
      intro pre u post e env c1 ⟨u1, u2, u3, he, hc⟩
      subst he hc
      have hm : u ∈ us := by rw [e]; simp
      have g := hu u hm
      have hp : pre.length ≤ 500000 := by have := congrArg List.length e; simp at this; omega
      have x1 := numS_len (i := (u.1 : Nat)) (by omega) g.nr
      have b1 : ∀ q1 q2 q3 q4 q5 q6 : Option Sl, compD (gSet 5) fYes (fCall bStr (aCons (fVarQ 5) aNil)) (u.2.map D.int) [q1, q2, q3, q4, q5, q6] c1 = some (u.2.map fun i => D.str (numS i), c1) := by
        intro q1 q2 q3 q4 q5 q6
        refine compD_map fun x hx => ⟨_, rfl, rfl, ?_⟩
        exact (call_of (aC rfl aN)).trans (bStr_num (g.sm x hx).1 (g.sm x hx).2 c1)
      have em : (u.2.map numS).map D.str = u.2.map fun i => D.str (numS i) := by rw [List.map_map]; rfl
      have hj := join_nums g.sm g.len c1
      rw [em] at hj
      have b2 : (u.2.map fun i => D.str (numS i)).length ≤ lim := by rw [List.length_map]; exact lim_le (by have := g.len; omega)
      have a2 : fOp oAdd (fOp oAdd (fOp oAdd (fC (.str "row ")) (fCall bStr (aCons (fVarQ 3) aNil))) (fC (.str " at "))) (fMd "str" mJoin (fC (.str " ")) (aCons (fComp (fIt (fVar 4)) (gSet 5) fYes (fCall bStr (aCons (fVarQ 5) aNil)) [5]) aNil)) [some (.f (.int P)), some (.f (.lst (us.map useD))), some (.o (linesD (puzWs P us.length pre))), some (.f (.int (u.1 : Nat))), some (.f (tupI u.2)), u3] c1 = some (.str (lineOf (useW u)), c1) := by
        refine (add4 (x := numS (u.1 : Nat)) (y := lineOf (u.2.map numS)) (by decide +kernel) (by decide +kernel) (by omega) (line_nums g.sm g.len) (str_of (i := (u.1 : Nat)) rfl (by omega) g.nr) ?_).trans ?_
        · exact (md_of rfl rfl (aC (comp_of (it_tup rfl) (b1 _ _ _ _ _ _) b2) aN)).trans hj
        · rw [j_use g.ne]; rfl
      exact ⟨_, _, c1, rfl, mutO_of rfl rfl (aC a2 aN) (lines_snoc P us.length pre u hp), _, _, _, rfl, rfl⟩)
    obtain ⟨env', c', e, x, y, z, h1, h2⟩ := fin
    refine ⟨x, y, z, e.trans ?_⟩
    subst h1 h2
    rfl
  obtain ⟨x, y, z, e⟩ := loop
  refine mOf_rt (env1 := [some (.f (.int P)), some (.f (.lst (us.map useD))), some (.f (linesD (puzWs P us.length us))), x, y, z]) rfl ?_
  refine (fSeq_nx (setO_of (lst_of (aC a1 aN) l1))).trans ?_
  refine (fSeq_nx ((fFor_of (it_lst (ds := us.map useD) (c1 := c) rfl)).trans e)).trans ?_
  rfl
theorem s_show_puzzle (w : Int) (ts : List Tbl) (P : Int) (us : List Use) (h1 : 0 ≤ P) (h2 : P ≤ 60) (hl : us.length ≤ 500000) (hL : Lt (puzWs P us.length us)) (hu : ∀ u ∈ us, US u) (c : Cs) : m_show_puzzle [pobj w ts P us] c = some (.str (textOf (puzWs P us.length us)), c) := by
  have a := numS_len (i := P) (by omega) (by omega)
  have b := numS_len (i := (us.length : Nat)) (by omega) (by omega)
  have l1 : 1 ≤ lim := by decide
  have j1 : fJoined (aCons (fC (.str "puzzle places ")) (aCons (fFmt (fFld [(2, 1)] (fVarQ 0))) (aCons (fC (.str " rows ")) (aCons (fFmt (fLen ms_len_Table_Book_Puzzle (fVar 0))) aNil)))) [some (.f (pobj w ts P us)), none, none, none] c = some (.str (lineOf (hdP P us.length)), c) := by
    rw [joined4 (x := numS P) (y := numS (us.length : Nat)) (by decide +kernel) (by decide +kernel) (by omega) (by omega)
      (fmt_int (places_puz w ts P us rfl) (by omega) (by omega)) (fmt_int (len_puz w ts P us (by omega) rfl) (by omega) (by omega)), j_puz]
  have loop : ∃ x y, forD (gSeq 2 (gsCons (gSet 2) (gsCons (gSet 3) gsNil))) (fMutO "list" uApp 1 (aCons (fJoined (aCons (fC (.str "row ")) (aCons (fFmt (fVar 2)) (aCons (fC (.str " at ")) (aCons (fFmt (fCall m_written (aCons (fVar 3) aNil))) aNil))))) aNil))
      (us.map useD) [some (.f (pobj w ts P us)), some (.o (linesD (puzWs P us.length []))), none, none] c =
      some (.nx, [some (.f (pobj w ts P us)), some (.o (linesD (puzWs P us.length us))), x, y], c) := by
    have key := forD_st (g := gSeq 2 (gsCons (gSet 2) (gsCons (gSet 3) gsNil))) (fb := fMutO "list" uApp 1 (aCons (fJoined (aCons (fC (.str "row ")) (aCons (fFmt (fVar 2)) (aCons (fC (.str " at ")) (aCons (fFmt (fCall m_written (aCons (fVar 3) aNil))) aNil))))) aNil))
      (h := useD)
      (fun pre env c1 => ∃ x y, env = [some (.f (pobj w ts P us)), some (.o (linesD (puzWs P us.length pre))), x, y] ∧ c1 = c)
      (xs := us) (env := [some (.f (pobj w ts P us)), some (.o (linesD (puzWs P us.length []))), none, none]) (c := c) ⟨_, _, rfl, rfl⟩
    have fin := key (by
      intro pre u post e env c1 ⟨u1, u2, he, hc⟩
      subst he hc
      have hm : u ∈ us := by rw [e]; simp
      have g := hu u hm
      have hp : pre.length ≤ 500000 := by have := congrArg List.length e; simp at this; omega
      have x1 := numS_len (i := (u.1 : Nat)) (by omega) g.nr
      have a2 : fJoined (aCons (fC (.str "row ")) (aCons (fFmt (fVar 2)) (aCons (fC (.str " at ")) (aCons (fFmt (fCall m_written (aCons (fVar 3) aNil))) aNil)))) [some (.f (pobj w ts P us)), some (.o (linesD (puzWs P us.length pre))), some (.f (.int (u.1 : Nat))), some (.f (tupI u.2))] c1 = some (.str (lineOf (useW u)), c1) := by
        have b0 := line_nums g.sm g.len
        have b3 : fFmt (fCall m_written (aCons (fVar 3) aNil)) [some (.f (pobj w ts P us)), some (.o (linesD (puzWs P us.length pre))), some (.f (.int (u.1 : Nat))), some (.f (tupI u.2))] c1 = some (.str (lineOf (u.2.map numS)), c1) := by
          have b4 : fCall m_written (aCons (fVar 3) aNil) [some (.f (pobj w ts P us)), some (.o (linesD (puzWs P us.length pre))), some (.f (.int (u.1 : Nat))), some (.f (tupI u.2))] c1 = some (.str (lineOf (u.2.map numS)), c1) :=
            (call_of (aC rfl aN)).trans (s_written u.2 g.sm g.len c1)
          have b5 : (lineOf (u.2.map numS)).length ≤ lim := lim_le (by omega)
          rw [fFmt, b4]
          simp only [b5, if_true]
        rw [joined4 (x := numS (u.1 : Nat)) (y := lineOf (u.2.map numS)) (by decide +kernel) (by decide +kernel) (by omega) (by omega)
          (fmt_int (i := (u.1 : Nat)) rfl (by omega) g.nr) b3, j_use g.ne]
        rfl
      exact ⟨_, _, c1, rfl, mutO_of rfl rfl (aC a2 aN) (lines_snoc P us.length pre u hp), _, _, rfl, rfl⟩)
    obtain ⟨env', c', e, x, y, h1, h2⟩ := fin
    refine ⟨x, y, e.trans ?_⟩
    subst h1 h2
    rfl
  obtain ⟨x, y, e⟩ := loop
  have hr := rows_puz w ts P us (f := fVar 0) (env := [some (.f (pobj w ts P us)), some (.o (linesD (puzWs P us.length []))), none, none]) (c := c) rfl
  refine mOf_rt (env1 := [some (.f (pobj w ts P us)), some (.o (linesD (puzWs P us.length us))), x, y]) rfl ?_
  refine (fSeq_nx (setO_of (lst_of (aC j1 aN) l1))).trans ?_
  refine (fSeq_nx ((fFor_of (it_lst hr)).trans e)).trans ?_
  exact fRet_of ((md_of rfl rfl (aC rfl aN)).trans (hL.join c))
end M58
set_option Elab.async false
set_option linter.all false
set_option maxRecDepth 100000
set_option maxHeartbeats 0
namespace M58
open PySem PySem.Spec PyProof.Rows L2 Pd L58 Ma TL
theorem sm62 {i : Int} (h : 0 ≤ i) (h2 : i < 4000000000) : small62 i = true := by
  simp only [small62, Bool.and_eq_true, decide_eq_true_eq]; omega
theorem s_lines_of (ls : List (List Str)) (h : Lt ls) (c : Cs) : m_lines_of [.str (textOf ls)] c = some (.ok (.lst (ls.map wordsD)), c) := by
  have hs := mSplit_of (x := textOf ls) (y := eol) (by decide +kernel) (lim_le (by have := h.tlen; omega)) c
  rw [h.split, List.map_map] at hs
  have q : compD (gSet 1) fYes (fMd "str" mSplit (fVarQ 1) (aCons (fC (.str (Str.ofString " "))) aNil)) (ls.map (D.str ∘ lineOf)) (wipeD [some (.f (.str (textOf ls))), none] [1]) c = some (ls.map wordsD, c) := by
    refine compD_map fun l hl => ⟨_, rfl, rfl, (md_of rfl rfl (aC rfl aN)).trans ?_⟩
    have := mSplit_of (x := lineOf l) (y := blank) (by decide +kernel) (lim_le (by have := h.line hl; omega)) c
    rw [split_words (h.w l hl).1 (h.w l hl).2] at this
    exact this
  have l1 : (ls.map wordsD).length ≤ lim := by rw [List.length_map]; exact lim_le (by have := h.cnt; omega)
  refine mOfX_rt (env1 := [some (.f (.str (textOf ls))), none]) rfl ?_
  refine (sqX_nx ((iteX_f (c1 := c) (not_of (b := true) (asB_of (isi_of (x := .str (textOf ls)) (c1 := c) rfl rfl)))).trans rfl)).trans ?_
  exact sV_of (fRet_of (comp_of (it_lst ((md_of rfl rfl (aC rfl aN)).trans hs)) q l1))
theorem s_lines_bad (d : D) (c : Cs) (h : isiD (fun s => isaB s "str") (tc_none 3) c d = some false) : m_lines_of [d] c = some (.er 3 [.int 1], c) := by
  refine mOfX_er (env1 := [some (.f d), none]) rfl ?_
  exact sqX_er ((iteX_t (c1 := c) (not_of (b := false) (asB_of (isi_of (x := d) (c1 := c) rfl h)))).trans (raise_of rfl))
/-! ### rows -/
theorem lexLeZ_dec : ∀ {r s : List Int}, r.length = s.length → lexLeZ r s = !decide (s < r)
  | [], [], _ => by
    rw [decide_eq_false (ltI_irrefl _)]; rfl
  | x :: r, y :: s, hl => by
    have hl' : r.length = s.length := by simpa using hl
    rw [lexLeZ_cons]
    by_cases h : x = y
    · subst h
      rw [if_pos rfl, lexLeZ_dec hl']
      congr 1
      by_cases hs : s < r
      · rw [decide_eq_true hs, decide_eq_true (List.cons_lt_cons_iff.mpr (.inr ⟨rfl, hs⟩))]
      · rw [decide_eq_false hs, decide_eq_false (fun q => by
          rcases List.cons_lt_cons_iff.mp q with q | q
          · exact absurd q (Int.lt_irrefl _)
          · exact hs q.2)]
    · rw [if_neg h]
      by_cases hy : y < x
      · rw [decide_eq_true (List.cons_lt_cons_iff.mpr (.inl hy)), decide_eq_false (by omega)]; rfl
      · rw [decide_eq_true (by omega), decide_eq_false (fun q => by
          rcases List.cons_lt_cons_iff.mp q with q | q
          · exact hy q
          · exact h q.1.symm)]; rfl
theorem cond_row {w : Int} {a : Nat} {l : List Str} {rs : List (List Int)} (hrs : ∀ r ∈ rs, GRow w a r) {ft : FT} {fr fw : FE} {env : En} {c : Cs} {X : D} (h1 : ft env c = some (okRow w a l, c)) (h2 : fr env c = some (.lst (rs.map tupI), c)) (h3 : fw env c = some (X, c)) (h4 : okRow w a l = true → X = tupI (rowV l)) :
    fOr (fNot ft) (fAnd (asB (fOp oNe fr (fLst aNil))) (asB (fOp oLe fw (fOp oIx fr (fNeg (fC (.int 1))))))) env c = some (!(okRow w a l && okNext rs (rowV l)), c) := by
  cases ho : okRow w a l with
  | false =>
    rw [ho] at h1
    exact or_t (not_of h1)
  | true =>
    rw [ho] at h1
    have eX := h4 ho
    have q1 : fOp oNe fr (fLst aNil) env c = some (.bl (!rs.isEmpty), c) := (op_of h2 (lst_of aN (Nat.zero_le _))).trans (oNe_nil rs c)
    refine (or_f (not_of h1)).trans ?_
    rw [Bool.true_and]
    by_cases hz : rs = []
    · subst hz
      exact and_f (asB_of q1)
    · have e : rs = rs.dropLast ++ [rs.getLast hz] := (List.dropLast_concat_getLast hz).symm
      have e1 : okNext rs (rowV l) = decide (rs.getLast hz < rowV l) := by
        unfold okNext
        rw [List.getLast?_eq_some_getLast hz]
      have e2 : (!rs.isEmpty) = true := by cases rs with | nil => exact absurd rfl hz | cons => rfl
      rw [e2] at q1
      have q2 : oIx (.lst (rs.map tupI)) (.int (-1)) c = some (tupI (rs.getLast hz), c) := by
        have : atI (rs.map tupI) (-1) = some (tupI (rs.getLast hz)) := by
          conv => lhs; rw [e, List.map_append]
          exact Ma.atI_last _ _
        simp only [oIx, ixD, deref, this]
      have q3 : oLe (tupI (rowV l)) (tupI (rs.getLast hz)) c = some (.bl (!decide (rs.getLast hz < rowV l)), c) := by
        simp only [oLe, tupI, Ma.ints?_of, lexLeZ_dec ((okRow_row ho).1.trans (hrs _ (List.getLast_mem hz)).1.symm)]
      rw [e1]
      refine (and_t (asB_of q1)).trans (asB_of ((op_of h3 ((op_of h2 rfl).trans q2)).trans ?_))
      rw [eX]; exact q3
def taE (ls : List (List Str)) (p : Nat) (w : Int) (a : Nat) (m : Int) (rs : List (List Int)) (x y : Option Sl) : En := [some (.f (.lst (ls.map wordsD))), some (.f (.int p)), some (.f (.int w)), some (.f (.int a)), some (.f (.int m)), some (.o (.lst (rs.map tupI))), x, y]
abbrev taB : FSX := (fSeqX (fSV (fSet 7 (fIf (asB (fOp oLt (fVarQ 6) (fLenQ (fVarQ 0)))) (fCall m_numbers_in (aCons (fOp oIx (fVarQ 0) (fVarQ 6)) aNil)) (fTup aNil))))
  (fSeqX (fIteX (fOr (fNot (asB (fCall m_is_row (aCons (fVar 7) (aCons (fVar 2) (aCons (fVar 3) aNil)))))) (fAnd (asB (fOp oNe (fVarQ 5) (fLst aNil))) (asB (fOp oLe (fVarQ 7) (fOp oIx (fVarQ 5) (fNeg (fC (.int 1))))))))
  (fRaise 3 (fOp oAdd (fVarQ 6) (fC (.int 1))))
  fNxX)
  (fSV (fMutO "list" uApp 5 (aCons (fVar 7) aNil)))))
theorem ta_row (ls : List (List Str)) (hL : Lt ls) (p0 : Nat) (w : Int) (a : Nat) (m : Int) (rs : List (List Int)) (p : Nat) (y : Option Sl) (hw : w ≤ 3) (ha : a ≤ 3) (hs : StrI rs) (hrs : ∀ r ∈ rs, GRow w a r) (c : Cs) :
    taB (taE ls p0 w a m rs (some (.f (.int p))) y) c = if (okRow w a (ls.getD p []) && okNext rs (rowV (ls.getD p []))) = true then some (.fl .nx, taE ls p0 w a m (rs ++ [rowV (ls.getD p [])]) (some (.f (.int p))) (some (.f (rowD (ls.getD p [])))), c)
      else some (.er 3 [.int ((p : Int) + 1)], taE ls p0 w a m rs (some (.f (.int p))) (some (.f (rowD (ls.getD p [])))), c) := by
  have wl := hL.wlD p
  have q1 : fIf (asB (fOp oLt (fVarQ 6) (fLenQ (fVarQ 0)))) (fCall m_numbers_in (aCons (fOp oIx (fVarQ 0) (fVarQ 6)) aNil)) (fTup aNil) (taE ls p0 w a m rs (some (.f (.int p))) y) c = some (rowD (ls.getD p []), c) := by
    refine (line_at ls p rfl rfl (d := rowD (ls.getD p [])) (z := rowD (ls.getD p [])) (fun h => (call_of (aC ((op_of rfl rfl).trans (ix_line ls p h c)) aN)).trans (s_numbers_in _ wl c)) (fun h => ?_)).trans (by split <;> rfl)
    rw [getD_out h]
    exact tup_of aN (Nat.zero_le _)
  refine (sqX_nx (sV_of (set_of q1))).trans ?_
  generalize ls.getD p [] = l at wl q1 ⊢
  have q2 := s_is_rowP l w a wl.n c
  have q3 := cond_row (w := w) (a := a) (l := l) hrs (ft := asB (fCall m_is_row (aCons (fVar 7) (aCons (fVar 2) (aCons (fVar 3) aNil))))) (fr := fVarQ 5) (fw := fVarQ 7) (env := taE ls p0 w a m rs (some (.f (.int p))) (some (.f (rowD l)))) (c := c) (X := rowD l)
    (asB_of ((call_of (aC rfl (aC rfl (aC rfl aN)))).trans q2)) rfl rfl okRow_D
  show fSeqX _ _ (taE ls p0 w a m rs (some (.f (.int p))) (some (.f (rowD l)))) c = _
  cases hc : (okRow w a l && okNext rs (rowV l)) with
  | false =>
    rw [hc] at q3
    rw [if_neg (by simp)]
    exact sqX_er ((iteX_t q3).trans (raise_of ((op_of rfl rfl).trans rfl)))
  | true =>
    rw [hc] at q3
    rw [if_pos rfl]
    refine (sqX_nx ((iteX_f (c1 := c) q3).trans rfl)).trans ?_
    simp only [Bool.and_eq_true] at hc
    have hl : (rs.map tupI).length < lim := by rw [List.length_map]; have := str_few hs hrs hw ha; exact (show _ < 1000000 by omega)
    have e := app_of (x := rowD l) hl
    rw [okRow_D hc.1] at e
    refine (sV_of (c1 := c) (mutO_of (env := taE ls p0 w a m rs (some (.f (.int p))) (some (.f (rowD l)))) (c1 := c) (d := .lst (rs.map tupI)) (ds := [tupI (rowV l)]) rfl rfl ?_ e)).trans ?_
    · have := okRow_D hc.1
      rw [this]; exact aC rfl aN
    · have e3 : (rs ++ [rowV l]).map tupI = rs.map tupI ++ [tupI (rowV l)] := by rw [List.map_append]; rfl
      unfold taE
      rw [e3]; rfl
theorem ta_loop (ls : List (List Str)) (hL : Lt ls) (p0 : Nat) (w : Int) (a : Nat) (m : Int) (hw : w ≤ 3) (h1 : 1 ≤ a) (ha : a ≤ 3) (c : Cs) : ∀ (n p : Nat) (rs : List (List Int)) (x y : Option Sl), StrI rs → (∀ r ∈ rs, GRow w a r) →
    (∀ e, rowsP ls w a n p rs = .inl e → ∃ env', forX (gSet 6) taB (rangeD (p : Nat) n) (taE ls p0 w a m rs x y) c = some (.er 3 [.int (e : Nat)], env', c)) ∧
    ∀ rs', rowsP ls w a n p rs = .inr rs' → ∃ x' y', forX (gSet 6) taB (rangeD (p : Nat) n) (taE ls p0 w a m rs x y) c = some (.fl .nx, taE ls p0 w a m rs' x' y', c)
  | 0, p, rs, x, y, hs, hrs => by
    rw [rangeD_zero]
    refine ⟨fun e h => (by simp [rowsP] at h), fun rs' h => ?_⟩
    simp only [rowsP, Sum.inr.injEq] at h
    subst h
    exact ⟨x, y, rfl⟩
  | n + 1, p, rs, x, y, hs, hrs => by
    rw [rangeD_succ]
    have st := ta_row ls hL p0 w a m rs p y hw ha hs hrs c
    have g : gSet 6 (.int (p : Nat)) (taE ls p0 w a m rs x y) = some (taE ls p0 w a m rs (some (.f (.int p))) y) := rfl
    have e1 : ((p : Nat) : Int) + 1 = ((p + 1 : Nat) : Int) := by omega
    simp only [rowsP]
    by_cases hc : (okRow w a (ls.getD p []) && okNext rs (rowV (ls.getD p []))) = true
    · rw [if_pos hc] at st ⊢
      simp only [Bool.and_eq_true] at hc
      have hrow := okRow_row hc.1
      have ih := ta_loop ls hL p0 w a m hw h1 ha c n (p + 1) (rs ++ [rowV (ls.getD p [])]) (some (.f (.int p))) (some (.f (rowD (ls.getD p [])))) (str_snoc hs hc.2) (fun r hm => by
        rcases List.mem_append.mp hm with hm | hm
        · exact hrs r hm
        · rw [List.mem_singleton.mp hm]; exact hrow)
      rw [forX_step g st, e1]
      exact ih
    · rw [if_neg hc] at st ⊢
      rw [forX_er g st]
      refine ⟨fun e h => ?_, fun rs' h => by cases h⟩
      cases h
      exact ⟨_, by rw [e1]⟩
def tabR (ls : List (List Str)) (w : Int) (p : Nat) : Rx := match hd (ls.getD p []) "table" "arity" "rows" with
  | none => .er 3 [.int (p + 1 : Nat)]
  | some (a, m) => if 1 ≤ a ∧ a ≤ 3 then match rowsP ls w a.toNat m.toNat (p + 1) [] with
      | .inl e => .er 3 [.int (e : Nat)]
      | .inr rs => .ok (.tup [tobj w a.toNat rs, .int (p + 1 + m.toNat : Nat)])
    else .er 3 [.int (p + 1 : Nat)]
theorem s_table_at (ls : List (List Str)) (hL : Lt ls) (p : Nat) (w : Int) (h1 : 1 ≤ w) (h2 : w ≤ 3) (c : Cs) : m_table_at [.lst (ls.map wordsD), .int p, .int w] c = some (tabR ls w p, c) := by
  have e1 := s_headed ls hL p "table" "arity" "rows" asc3.1 asc3.2.1 asc3.2.2 c
  have l3 : 3 ≤ lim := by decide
  have l2 : 2 ≤ lim := by decide
  have ep : ((p : Nat) : Int) + 1 = ((p + 1 : Nat) : Int) := by omega
  have q1 : ∀ r, hdR p (hd (ls.getD p []) "table" "arity" "rows") = r → fCallX m_headed (aCons (fVar 0) (aCons (fVar 1) (aCons (fLst (aCons (fC (.str "table")) (aCons (fC (.str "arity")) (aCons (fC (.str "rows")) aNil)))) aNil))) [some (.f (.lst (ls.map wordsD))), some (.f (.int p)), some (.f (.int w)), none, none, none, none, none] c = some (r, c) := fun r hr => by
    rw [← hr]
    exact (callX_of (aC rfl (aC rfl (aC (lst_of (aC rfl (aC rfl (aC rfl aN))) l3) aN)))).trans e1
  unfold tabR
  cases eh : hd (ls.getD p []) "table" "arity" "rows" with
  | none =>
    rw [eh] at q1
    refine mOfX_er (env1 := [some (.f (.lst (ls.map wordsD))), some (.f (.int p)), some (.f (.int w)), none, none, none, none, none]) rfl ?_
    refine (sqX_er (asgX_er (q1 _ rfl))).trans ?_
    rw [ep]
  | some q =>
    obtain ⟨a, m⟩ := q
    have hin := in_of_hd eh
    obtain ⟨el, a0, a1, m0, m1⟩ := hd_ok eh
    rw [eh] at q1
    have q2 := s_within a 1 3 c
    have f1 : fAsgX (fCallX m_headed (aCons (fVar 0) (aCons (fVar 1) (aCons (fLst (aCons (fC (.str "table")) (aCons (fC (.str "arity")) (aCons (fC (.str "rows")) aNil)))) aNil)))) (gSeq 2 (gsCons (gSet 3) (gsCons (gSet 4) gsNil))) [some (.f (.lst (ls.map wordsD))), some (.f (.int p)), some (.f (.int w)), none, none, none, none, none] c = some (.fl .nx, [some (.f (.lst (ls.map wordsD))), some (.f (.int p)), some (.f (.int w)), some (.f (.int a)), some (.f (.int m)), none, none, none], c) := asgX_ok (q1 _ rfl) rfl
    have f2 : fNot (asB (fCall m_within (aCons (fVar 3) (aCons (fC (.int 1)) (aCons (fC (.int 3)) aNil))))) [some (.f (.lst (ls.map wordsD))), some (.f (.int p)), some (.f (.int w)), some (.f (.int a)), some (.f (.int m)), none, none, none] c = some (!(decide (1 ≤ a) && decide (a ≤ 3)), c) := not_of (asB_of ((call_of (aC rfl (aC rfl (aC rfl aN)))).trans q2))
    by_cases ha : 1 ≤ a ∧ a ≤ 3
    · rw [decide_eq_true ha.1, decide_eq_true ha.2] at f2
      simp only [ha, and_self, if_true]
      obtain ⟨an, rfl⟩ := Int.eq_ofNat_of_zero_le a0
      obtain ⟨mn, rfl⟩ := Int.eq_ofNat_of_zero_le m0
      simp only [Int.toNat_natCast]
      have hcnt := hL.cnt
      have s1 : small62 ((p : Int) + 1) = true := sm62 (by omega) (by omega)
      have s2 : small62 ((p : Int) + 1 + (mn : Nat)) = true := sm62 (by omega) (by omega)
      have s3 : ((p : Int) + 1 + ((mn : Nat) : Int) - ((p : Int) + 1)).toNat = mn := by omega
      obtain ⟨k1, k2⟩ := ta_loop ls hL p w an (mn : Nat) h2 (by omega) (by omega) c mn (p + 1) [] none none .nil (by simp)
      have fr : fRg2 (aCons (fOp oAdd (fVarQ 1) (fC (.int 1))) (aCons (fOp oAdd (fOp oAdd (fVarQ 1) (fC (.int 1))) (fVarQ 4)) aNil)) (taE ls p w an (mn : Nat) [] none none) c = some (rangeD ((p + 1 : Nat) : Int) mn, c) := by
        rw [← ep]
        exact fRg2_of (aC ((op_of rfl rfl).trans rfl) (aC ((op_of ((op_of rfl rfl).trans rfl) rfl).trans rfl) aN)) s1 s2 s3
      cases er : rowsP ls w an mn (p + 1) [] with
      | inl e =>
        obtain ⟨env', k⟩ := k1 e er
        refine mOfX_er (env1 := env') rfl ?_
        refine (sqX_nx f1).trans ?_
        refine (sqX_nx ((iteX_f (c1 := c) f2).trans rfl)).trans ?_
        refine (sqX_nx (sV_of (setO_of (lst_of aN (Nat.zero_le _))))).trans ?_
        exact sqX_er ((forX_of fr).trans k)
      | inr rs =>
        obtain ⟨x', y', k⟩ := k2 rs er
        obtain ⟨b1, b2, b3, b4, _⟩ := rowsP_spec (by omega) mn (p + 1) [] rs er (by omega) .nil (by simp)
        have g := gt_of b1 b2 h2 (by omega) (by omega)
        have e3 := s_Table w an rs h1 h2 g c
        refine mOfX_rt (env1 := [some (.f (.lst (ls.map wordsD))), some (.f (.int p)), some (.f (.int w)), some (.f (.int an)), some (.f (.int mn)), some (.f (.lst (rs.map tupI))), x', y']) rfl ?_
        refine (sqX_nx f1).trans ?_
        refine (sqX_nx ((iteX_f (c1 := c) f2).trans rfl)).trans ?_
        refine (sqX_nx (sV_of (setO_of (lst_of aN (Nat.zero_le _))))).trans ?_
        refine (sqX_nx ((forX_of fr).trans k)).trans ?_
        have e4 : ((p : Int) + 1 + (mn : Nat)) = ((p + 1 + mn : Nat) : Int) := by omega
        rw [← e4]
        refine sV_of ?_
        show fRet _ [some (.f (.lst (ls.map wordsD))), some (.f (.int p)), some (.f (.int w)), some (.f (.int an)), some (.f (.int mn)), some (.f (.lst (rs.map tupI))), x', y'] c = _
        exact fRet_of (tup_of (aC ((call_of (aC rfl (aC rfl (aC rfl aN)))).trans e3) (aC ((op_of ((op_of rfl rfl).trans rfl) rfl).trans rfl) aN)) l2)
    · have hb : (decide (1 ≤ a) && decide (a ≤ 3)) = false := by
        rw [Bool.and_eq_false_iff]
        by_cases h : 1 ≤ a
        · right; exact decide_eq_false fun h' => ha ⟨h, h'⟩
        · left; exact decide_eq_false h
      rw [hb] at f2
      simp only [ha, if_false]
      refine mOfX_er (env1 := [some (.f (.lst (ls.map wordsD))), some (.f (.int p)), some (.f (.int w)), some (.f (.int a)), some (.f (.int m)), none, none, none]) rfl ?_
      refine (sqX_nx f1).trans ?_
      refine (sqX_er ((iteX_t (c1 := c) f2).trans (raise_of ((op_of rfl rfl).trans rfl)))).trans ?_
      rw [ep]
end M58
set_option Elab.async false
set_option linter.all false
set_option maxRecDepth 100000
set_option maxHeartbeats 0
namespace M58
open PySem PySem.Spec PyProof.Rows L2 Pd L58 Ma TL
def tobjs (w : Int) (ts : List Tbl) : List D := ts.map fun t => tobj w t.1 t.2
def rbE (tx : D) (ls : List (List Str)) (w n : Int) (ts : List Tbl) (p : Nat) (x y : Option Sl) : En := [some (.f tx), some (.f (.lst (ls.map wordsD))), some (.f (.int w)), some (.f (.int n)), some (.o (.lst (tobjs w ts))), some (.f (.int p)), x, y]
abbrev rbB : FSX := (fSeqX (fAsgX (fCallX m_table_at (aCons (fVar 1) (aCons (fVar 5) (aCons (fVar 2) aNil)))) (gSeq 2 (gsCons (gSet 7) (gsCons (gSet 5) gsNil))))
  (fSV (fMutO "list" uApp 4 (aCons (fVar 7) aNil))))
theorem rb_loop (tx : D) (ls : List (List Str)) (hL : Lt ls) (w n0 : Int) (h1 : 1 ≤ w) (h2 : w ≤ 3) (c : Cs) : ∀ (n : Nat) (i : Int) (p : Nat) (ts : List Tbl) (x y : Option Sl), p ≤ ls.length → ts.length < p + 1 →
    (∀ e, tabsP ls w n p ts = .inl e → ∃ env', forX (gSet 6) rbB (rangeD i n) (rbE tx ls w n0 ts p x y) c = some (.er 3 [.int (e : Nat)], env', c)) ∧
    ∀ p' ts', tabsP ls w n p ts = .inr (p', ts') → ∃ x' y', forX (gSet 6) rbB (rangeD i n) (rbE tx ls w n0 ts p x y) c = some (.fl .nx, rbE tx ls w n0 ts' p' x' y', c)
  | 0, i, p, ts, x, y, hp, ht => by
    rw [rangeD_zero]
    refine ⟨fun e h => (by simp [tabsP] at h), fun p' ts' h => ?_⟩
    simp only [tabsP, Sum.inr.injEq, Prod.mk.injEq] at h
    obtain ⟨rfl, rfl⟩ := h
    exact ⟨x, y, rfl⟩
  | n + 1, i, p, ts, x, y, hp, ht => by
    rw [rangeD_succ]
    have g : gSet 6 (.int i) (rbE tx ls w n0 ts p x y) = some (rbE tx ls w n0 ts p (some (.f (.int i))) y) := rfl
    have e1 := s_table_at ls hL p w h1 h2 c
    have q1 : ∀ r, tabR ls w p = r → fCallX m_table_at (aCons (fVar 1) (aCons (fVar 5) (aCons (fVar 2) aNil))) (rbE tx ls w n0 ts p (some (.f (.int i))) y) c = some (r, c) := fun r hr => by
      rw [← hr]; exact (callX_of (aC rfl (aC rfl (aC rfl aN)))).trans e1
    unfold tabR at q1
    simp only [tabsP]
    cases eh : hd (ls.getD p []) "table" "arity" "rows" with
    | none =>
      rw [eh] at q1
      refine ⟨fun e h => ?_, fun p' ts' h => by cases h⟩
      cases h
      exact ⟨_, forX_er g (sqX_er (asgX_er (q1 _ rfl)))⟩
    | some q =>
      obtain ⟨a, m⟩ := q
      have hin := in_of_hd eh
      rw [eh] at q1
      by_cases ha : 1 ≤ a ∧ a ≤ 3
      · simp only [ha, and_self, if_true] at q1 ⊢
        cases er : rowsP ls w a.toNat m.toNat (p + 1) [] with
        | inl e =>
          rw [er] at q1
          refine ⟨fun e' h => ?_, fun p' ts' h => by cases h⟩
          cases h
          exact ⟨_, forX_er g (sqX_er (asgX_er (q1 _ rfl)))⟩
        | inr rs =>
          rw [er] at q1
          obtain ⟨b1, b2, b3, b4, _⟩ := rowsP_spec (by omega) m.toNat (p + 1) [] rs er (by omega) .nil (by simp)
          have ih := rb_loop tx ls hL w n0 h1 h2 c n (i + 1) (p + 1 + m.toNat) (ts ++ [(a.toNat, rs)]) (some (.f (.int i))) (some (.f (tobj w a.toNat rs))) b4 (by simp; omega)
          have hcnt := hL.cnt
          have hl : (tobjs w ts).length < lim := by rw [tobjs, List.length_map]; exact (show _ < 1000000 by omega)
          have st : rbB (rbE tx ls w n0 ts p (some (.f (.int i))) y) c = some (.fl .nx, rbE tx ls w n0 (ts ++ [(a.toNat, rs)]) (p + 1 + m.toNat) (some (.f (.int i))) (some (.f (tobj w a.toNat rs))), c) := by
            refine (sqX_nx (env1 := [some (.f tx), some (.f (.lst (ls.map wordsD))), some (.f (.int w)), some (.f (.int n0)), some (.o (.lst (tobjs w ts))), some (.f (.int (p + 1 + m.toNat : Nat))), some (.f (.int i)), some (.f (tobj w a.toNat rs))]) (c1 := c) (asgX_ok (q1 _ rfl) rfl)).trans ?_
            refine (sV_of (c1 := c) (mutO_of (c1 := c) (d := .lst (tobjs w ts)) (ds := [tobj w a.toNat rs]) rfl rfl (aC rfl aN) (app_of hl))).trans ?_
            have e3 : tobjs w (ts ++ [(a.toNat, rs)]) = tobjs w ts ++ [tobj w a.toNat rs] := by rw [tobjs, List.map_append]; rfl
            unfold rbE
            rw [e3]; rfl
          rw [forX_step g st]
          exact ih
      · simp only [ha, if_false] at q1 ⊢
        refine ⟨fun e h => ?_, fun p' ts' h => by cases h⟩
        cases h
        exact ⟨_, forX_er g (sqX_er (asgX_er (q1 _ rfl)))⟩
def bookR (ls : List (List Str)) : Rx := match bookP ls with
  | .inl e => .er 3 [.int (e : Nat)]
  | .inr (w, ts) => .ok (bobj w ts)
theorem s_read_book (ls : List (List Str)) (hL : Lt ls) (c : Cs) : m_read_book [.str (textOf ls)] c = some (bookR ls, c) := by
  have e0 := s_lines_of ls hL c
  have e1 := s_headed ls hL 0 "book" "width" "tables" ascB.1 ascB.2.1 ascB.2.2 c
  have l3 : 3 ≤ lim := by decide
  have f0 : fSetX 1 (fCallX m_lines_of (aCons (fVar 0) aNil)) (startD N_read_book [.str (textOf ls)]) c = some (.fl .nx, [some (.f (.str (textOf ls))), some (.f (.lst (ls.map wordsD))), none, none, none, none, none, none], c) := setX_ok ((callX_of (aC rfl aN)).trans e0)
  have q1 : ∀ r, hdR 0 (hd (ls.getD 0 []) "book" "width" "tables") = r → fCallX m_headed (aCons (fVar 1) (aCons (fC (.int 0)) (aCons (fLst (aCons (fC (.str "book")) (aCons (fC (.str "width")) (aCons (fC (.str "tables")) aNil)))) aNil))) [some (.f (.str (textOf ls))), some (.f (.lst (ls.map wordsD))), none, none, none, none, none, none] c = some (r, c) := fun r hr => by
    rw [← hr]
    exact (callX_of (aC rfl (aC rfl (aC (lst_of (aC rfl (aC rfl (aC rfl aN))) l3) aN)))).trans e1
  generalize D.str (textOf ls) = tx at f0 q1 ⊢
  unfold bookR
  unfold bookP
  cases eh : hd (ls.getD 0 []) "book" "width" "tables" with
  | none =>
    rw [eh] at q1
    refine mOfX_er (env1 := [some (.f tx), some (.f (.lst (ls.map wordsD))), none, none, none, none, none, none]) rfl ?_
    refine (sqX_nx f0).trans ?_
    exact sqX_er (asgX_er (q1 _ rfl))
  | some q =>
    obtain ⟨w, n⟩ := q
    have hin := in_of_hd eh
    obtain ⟨el, w0, w1, n0, n1⟩ := hd_ok eh
    rw [eh] at q1
    have q2 := s_within w 1 3 c
    have f1 : fAsgX (fCallX m_headed (aCons (fVar 1) (aCons (fC (.int 0)) (aCons (fLst (aCons (fC (.str "book")) (aCons (fC (.str "width")) (aCons (fC (.str "tables")) aNil)))) aNil)))) (gSeq 2 (gsCons (gSet 2) (gsCons (gSet 3) gsNil))) [some (.f tx), some (.f (.lst (ls.map wordsD))), none, none, none, none, none, none] c = some (.fl .nx, [some (.f tx), some (.f (.lst (ls.map wordsD))), some (.f (.int w)), some (.f (.int n)), none, none, none, none], c) := asgX_ok (q1 _ rfl) rfl
    have f2 : fNot (asB (fCall m_within (aCons (fVar 2) (aCons (fC (.int 1)) (aCons (fC (.int 3)) aNil))))) [some (.f tx), some (.f (.lst (ls.map wordsD))), some (.f (.int w)), some (.f (.int n)), none, none, none, none] c = some (!(decide (1 ≤ w) && decide (w ≤ 3)), c) := not_of (asB_of ((call_of (aC rfl (aC rfl (aC rfl aN)))).trans q2))
    by_cases hw : 1 ≤ w ∧ w ≤ 3
    · rw [decide_eq_true hw.1, decide_eq_true hw.2] at f2
      simp only [hw, and_self, if_true]
      obtain ⟨nn, rfl⟩ := Int.eq_ofNat_of_zero_le n0
      simp only [Int.toNat_natCast]
      have s1 : small62 ((nn : Nat) : Int) = true := sm62 (by omega) (by omega)
      have s2 : ((nn : Nat) : Int).toNat = nn := by omega
      obtain ⟨k1, k2⟩ := rb_loop tx ls hL w (nn : Nat) hw.1 hw.2 c nn 0 1 [] none none (by omega) (by simp)
      have f3 : fSV (fPar 4 5 (xO (fLst aNil)) (xF (fC (.int 1)))) [some (.f tx), some (.f (.lst (ls.map wordsD))), some (.f (.int w)), some (.f (.int (nn : Nat))), none, none, none, none] c = some (.fl .nx, rbE tx ls w (nn : Nat) [] 1 none none, c) := sV_of (par_of (xO_of (lst_of aN (Nat.zero_le _))) (xF_of rfl))
      have fr : fRg1 (aCons (fVarQ 3) aNil) (rbE tx ls w (nn : Nat) [] 1 none none) c = some (rangeD 0 nn, c) := fRg1_of (aC rfl aN) s1 s2
      cases et : tabsP ls w nn 1 [] with
      | inl e =>
        obtain ⟨env', k⟩ := k1 e et
        refine mOfX_er (env1 := env') rfl ?_
        refine (sqX_nx f0).trans ?_
        refine (sqX_nx f1).trans ?_
        refine (sqX_nx ((iteX_f (c1 := c) f2).trans rfl)).trans ?_
        refine (sqX_nx f3).trans ?_
        exact sqX_er ((forX_of fr).trans k)
      | inr pt =>
        obtain ⟨p, ts⟩ := pt
        obtain ⟨x', y', k⟩ := k2 p ts et
        obtain ⟨t1, t2, t3, t4⟩ := tabsP_spec hw.2 _ _ _ _ _ et (by omega) (by simp)
        have q5 : fOp oNe (fVarQ 5) (fLenQ (fVarQ 1)) (rbE tx ls w (nn : Nat) ts p x' y') c = some (.bl (!decide (p = ls.length)), c) := by
          have e : fLenQ (fVarQ 1) (rbE tx ls w (nn : Nat) ts p x' y') c = some (.int (ls.length : Nat), c) := lenQ_of (x := .lst (ls.map wordsD)) rfl (by simp only [lenD, deref, List.length_map])
          exact (op_of rfl e).trans (ne_len _ _ c)
        by_cases hp : p = ls.length
        · rw [decide_eq_true hp] at q5
          have e6 := s_Book w ts hw.1 hw.2 c
          simp only [hp, if_true]
          refine mOfX_rt (env1 := [some (.f tx), some (.f (.lst (ls.map wordsD))), some (.f (.int w)), some (.f (.int (nn : Nat))), some (.f (.lst (tobjs w ts))), some (.f (.int p)), x', y']) rfl ?_
          refine (sqX_nx f0).trans ?_
          refine (sqX_nx f1).trans ?_
          refine (sqX_nx ((iteX_f (c1 := c) f2).trans rfl)).trans ?_
          refine (sqX_nx f3).trans ?_
          refine (sqX_nx ((forX_of fr).trans k)).trans ?_
          refine (sqX_nx ((iteX_f (c1 := c) (asB_of q5)).trans rfl)).trans ?_
          refine sV_of ?_
          show fRet _ [some (.f tx), some (.f (.lst (ls.map wordsD))), some (.f (.int w)), some (.f (.int (nn : Nat))), some (.f (.lst (tobjs w ts))), some (.f (.int p)), x', y'] c = _
          exact fRet_of ((call_of (aC rfl (aC rfl aN))).trans e6)
        · rw [decide_eq_false hp] at q5
          simp only [hp, if_false]
          refine mOfX_er (env1 := rbE tx ls w (nn : Nat) ts p x' y') rfl ?_
          refine (sqX_nx f0).trans ?_
          refine (sqX_nx f1).trans ?_
          refine (sqX_nx ((iteX_f (c1 := c) f2).trans rfl)).trans ?_
          refine (sqX_nx f3).trans ?_
          refine (sqX_nx ((forX_of fr).trans k)).trans ?_
          exact sqX_er ((iteX_t (c1 := c) (asB_of q5)).trans (raise_of ((op_of rfl rfl).trans rfl)))
    · have hb : (decide (1 ≤ w) && decide (w ≤ 3)) = false := by
        rw [Bool.and_eq_false_iff]
        by_cases h : 1 ≤ w
        · right; exact decide_eq_false fun h' => hw ⟨h, h'⟩
        · left; exact decide_eq_false h
      rw [hb] at f2
      simp only [hw, if_false]
      refine mOfX_er (env1 := [some (.f tx), some (.f (.lst (ls.map wordsD))), some (.f (.int w)), some (.f (.int n)), none, none, none, none]) rfl ?_
      refine (sqX_nx f0).trans ?_
      refine (sqX_nx f1).trans ?_
      exact sqX_er ((iteX_t (c1 := c) f2).trans (raise_of rfl))
end M58
set_option Elab.async false
set_option linter.all false
set_option maxRecDepth 100000
set_option maxHeartbeats 0
namespace M58
open PySem PySem.Spec PyProof.Rows L2 Pd L58 Ma TL
/-! ### a puzzle's rows -/
theorem cut_mid {α : Type} (xs : List α) (i j : Nat) : Pd.cutD xs (some (i : Int)) (some (j : Int)) = (xs.drop i).take (j - i) := by
  unfold Pd.cutD
  rw [HT.sIx_nat, HT.sIx_nat]
  rcases Nat.le_total i xs.length with h | h
  · rw [Nat.min_eq_left h]
    rcases Nat.le_total j xs.length with h2 | h2
    · rw [Nat.min_eq_left h2]
    · rw [Nat.min_eq_right h2, ← List.length_drop, List.take_length, List.take_of_length_le (by rw [List.length_drop]; omega)]
  · rw [Nat.min_eq_right h, List.drop_of_length_le (Nat.le_refl _), List.drop_of_length_le h]; simp
def useO (ts : List Tbl) (P : Int) (x : Str) (rest : List Str) : Option Use := match wnum x with
  | some i => match ts[i.toNat]? with
    | some t => if okRow P t.1 rest = true then some (i.toNat, rowV rest) else none
    | none => none
  | none => none
theorem useAt_cons (ts : List Tbl) (P : Int) (r x y : Str) (rest : List Str) : useAt ts P (r :: x :: y :: rest) = if r = "row" ∧ y = "at" then useO ts P x rest else none := rfl
theorem s_is_useG (w : Int) (ts : List Tbl) (P : Int) (x : Str) (rest : List Str) (hl : ts.length ≤ 1000) (hr : rest.length ≤ 500000) (c : Cs) : m_is_use [.tup [numD (wnum x), rowD rest], bobj w ts, .int P] c = some (.bl (useO ts P x rest).isSome, c) := by
  have q0 : fNot (asB (fIsi (fun s => isaB s "tuple") (tc_none 3) (fVarQ 0))) [some (.f (.tup [numD (wnum x), rowD rest])), some (.f (bobj w ts)), some (.f (.int P))] c = some (false, c) := not_of (b := true) (asB_of (isi_of (x := .tup [numD (wnum x), rowD rest]) (c1 := c) rfl rfl))
  have q1 : fOp oNe (fLenQ (fVarQ 0)) (fC (.int 2)) [some (.f (.tup [numD (wnum x), rowD rest])), some (.f (bobj w ts)), some (.f (.int P))] c = some (.bl false, c) := by
    have e8 : oNe (.int ((2 : Nat) : Int)) (.int 2) c = some (.bl false, c) := by rw [oNe_int]; rfl
    exact (op_of (lenQ_of (x := .tup [numD (wnum x), rowD rest]) (n := ((2 : Nat) : Int)) (c1 := c) rfl rfl) rfl).trans e8
  have i0 : oIx (.tup [numD (wnum x), rowD rest]) (.int 0) c = some (numD (wnum x), c) := by simp only [oIx, ixD, deref, atI0]
  have i1 : oIx (.tup [numD (wnum x), rowD rest]) (.int 1) c = some (rowD rest, c) := by simp only [oIx, ixD, deref, atI1]
  have f6 := len_book w ts (by omega) (f := fVar 1) (env := [some (.f (.tup [numD (wnum x), rowD rest])), some (.f (bobj w ts)), some (.f (.int P))]) (c := c) rfl
  have q2 := s_withinN (wnum x) 0 ((ts.length : Nat) - 1 : Int) c
  have q3 : ∀ b, (match wnum x with | some v => decide ((0 : Int) ≤ v) && decide (v ≤ ((ts.length : Nat) - 1 : Int)) | none => false) = b → fOr (fNot (asB (fIsi (fun s => isaB s "tuple") (tc_none 3) (fVarQ 0)))) (fOr (asB (fOp oNe (fLenQ (fVarQ 0)) (fC (.int 2)))) (fNot (asB (fCall m_within (aCons (fOp oIx (fVarQ 0) (fC (.int 0))) (aCons (fC (.int 0)) (aCons (fOp oSub (fLen ms_len_Table_Book_Puzzle (fVar 1)) (fC (.int 1))) aNil))))))) [some (.f (.tup [numD (wnum x), rowD rest])), some (.f (bobj w ts)), some (.f (.int P))] c = some (!b, c) := fun b hb => by
    rw [← hb]
    exact (or_f q0).trans ((or_f (asB_of q1)).trans (not_of (asB_of ((call_of (aC ((op_of rfl rfl).trans i0) (aC rfl (aC ((op_of f6 rfl).trans rfl) aN)))).trans q2))))
  have bad : fOr (fNot (asB (fIsi (fun s => isaB s "tuple") (tc_none 3) (fVarQ 0)))) (fOr (asB (fOp oNe (fLenQ (fVarQ 0)) (fC (.int 2)))) (fNot (asB (fCall m_within (aCons (fOp oIx (fVarQ 0) (fC (.int 0))) (aCons (fC (.int 0)) (aCons (fOp oSub (fLen ms_len_Table_Book_Puzzle (fVar 1)) (fC (.int 1))) aNil))))))) [some (.f (.tup [numD (wnum x), rowD rest])), some (.f (bobj w ts)), some (.f (.int P))] c = some (true, c) → m_is_use [.tup [numD (wnum x), rowD rest], bobj w ts, .int P] c = some (.bl false, c) := fun h =>
    mOf_rt (env1 := [some (.f (.tup [numD (wnum x), rowD rest])), some (.f (bobj w ts)), some (.f (.int P))]) rfl (fSeq_rt ((fIte_t (c1 := c) h).trans rfl))
  unfold useO
  cases ex : wnum x with
  | none =>
    rw [ex] at bad q3
    exact bad (q3 false rfl)
  | some i =>
    obtain ⟨i0', i1', _⟩ := wnum_ok ex
    obtain ⟨n, rfl⟩ := Int.eq_ofNat_of_zero_le i0'
    simp only [Int.toNat_natCast]
    by_cases hn : n < ts.length
    · obtain ⟨t, ht⟩ : ∃ t, ts[n]? = some t := ⟨ts[n], List.getElem?_eq_getElem hn⟩
      have q4 := q3 true (by
        rw [ex]
        show (decide ((0 : Int) ≤ (n : Nat)) && decide (((n : Nat) : Int) ≤ ((ts.length : Nat) - 1 : Int))) = true
        rw [decide_eq_true (by omega), decide_eq_true (by omega)]; rfl)
      have e5 := ixA_book w ts n t ht c
      have e4 := s_is_rowP rest P t.1 hr c
      rw [ex] at i0 i1 q4
      have f5 : fOp (oIxA ms_getitem_Book) (fVar 1) (fOp oIx (fVarQ 0) (fC (.int 0))) [some (.f (.tup [numD (some (n : Int)), rowD rest])), some (.f (bobj w ts)), some (.f (.int P))] c = some (tobj w t.1 t.2, c) :=
        (op_of (x := bobj w ts) (c1 := c) rfl ((op_of (x := .tup [numD (some (n : Int)), rowD rest]) (c1 := c) rfl rfl).trans i0)).trans e5
      have f7 := arity_tab w t.1 t.2 f5
      simp only [ht]
      have e9 : (if okRow P t.1 rest = true then some (n, rowV rest) else none).isSome = okRow P t.1 rest := by
        cases okRow P t.1 rest <;> rfl
      rw [e9]
      refine mOf_rt (env1 := [some (.f (.tup [numD (some (n : Int)), rowD rest])), some (.f (bobj w ts)), some (.f (.int P))]) rfl ?_
      refine (fSeq_nx ((fIte_f (c1 := c) q4).trans rfl)).trans ?_
      exact fRet_of ((call_of (aC ((op_of (x := .tup [numD (some (n : Int)), rowD rest]) (c1 := c) rfl rfl).trans i1) (aC rfl (aC f7 aN)))).trans e4)
    · have q4 := q3 false (by
        rw [ex]
        show (decide ((0 : Int) ≤ (n : Nat)) && decide (((n : Nat) : Int) ≤ ((ts.length : Nat) - 1 : Int))) = false
        rw [decide_eq_false (show ¬ ((n : Nat) : Int) ≤ ((ts.length : Nat) - 1 : Int) by omega), Bool.and_false])
      rw [List.getElem?_eq_none (by omega)]
      rw [ex] at bad q4
      exact bad q4
def rpE (tx b : D) (ls : List (List Str)) (P N : Int) (us : List Use) (x y z : Option Sl) : En := [some (.f tx), some (.f b), some (.f (.lst (ls.map wordsD))), some (.f (.int P)), some (.f (.int N)), some (.o (.lst (us.map useD))), x, y, z]
abbrev rpB : FSX := (fSeqX (fSV (fSet 7 (fIf (asB (fOp oLt (fVarQ 6) (fLenQ (fVarQ 2)))) (fOp oIx (fVarQ 2) (fVarQ 6)) (fLst aNil))))
  (fSeqX (fIteX (fOr (asB (fOp oNe (fSl (fVarQ 7) oNone (oSome (fC (.int 1)))) (fLst (aCons (fC (.str "row")) aNil)))) (asB (fOp oNe (fSl (fVarQ 7) (oSome (fC (.int 2))) (oSome (fC (.int 3)))) (fLst (aCons (fC (.str "at")) aNil)))))
  (fRaise 3 (fOp oAdd (fVarQ 6) (fC (.int 1))))
  fNxX)
  (fSeqX (fSV (fSet 8 (fTup (aCons (fCall m_number_of (aCons (fOp oIx (fVarQ 7) (fC (.int 1))) aNil)) (aCons (fCall m_numbers_in (aCons (fSl (fVarQ 7) (oSome (fC (.int 3))) oNone) aNil)) aNil)))))
  (fSeqX (fIteX (fNot (asB (fCall m_is_use (aCons (fVar 8) (aCons (fVar 1) (aCons (fVar 3) aNil))))))
  (fRaise 3 (fOp oAdd (fVarQ 6) (fC (.int 1))))
  fNxX)
  (fSV (fMutO "list" uApp 5 (aCons (fVar 8) aNil)))))))
theorem ascR : Asc "row" ∧ Asc "at" ∧ Asc "puzzle" ∧ Asc "places" ∧ Asc "rows" := ⟨asc_lit (by decide +kernel), asc_lit (by decide +kernel), asc_lit (by decide +kernel), asc_lit (by decide +kernel), asc_lit (by decide +kernel)⟩
theorem useO_D {ts : List Tbl} {P : Int} {x : Str} {rest : List Str} {u : Use} (h : useO ts P x rest = some u) : D.tup [numD (wnum x), rowD rest] = useD u ∧ u = ((numL (wnum x)).toNat, rowV rest) ∧ numL (wnum x) = (u.1 : Int) := by
  unfold useO at h
  split at h
  · rename_i i ei
    split at h
    · rename_i t et
      split at h
      · rename_i ho
        cases h
        obtain ⟨i0, i1, i2⟩ := wnum_ok ei
        have e2 : ((i.toNat : Nat) : Int) = i := by omega
        rw [ei, okRow_D ho]
        refine ⟨?_, rfl, e2.symm⟩
        show D.tup [.int i, tupI (rowV rest)] = .tup [.int ((i.toNat : Nat) : Int), tupI (rowV rest)]
        rw [e2]
      · cases h
    · cases h
  · cases h
theorem rp_row (tx : D) (w : Int) (ts : List Tbl) (hts : ts.length ≤ 1000) (ls : List (List Str)) (hL : Lt ls) (P N : Int) (us : List Use) (hu : us.length ≤ 500000) (p : Nat) (y z : Option Sl) (c : Cs) :
    ∃ y' z', rpB (rpE tx (bobj w ts) ls P N us (some (.f (.int p))) y z) c = match useAt ts P (ls.getD p []) with
      | some u => some (.fl .nx, rpE tx (bobj w ts) ls P N (us ++ [u]) (some (.f (.int p))) y' z', c)
      | none => some (.er 3 [.int ((p : Int) + 1)], rpE tx (bobj w ts) ls P N us (some (.f (.int p))) y' z', c) := by
  have wl := hL.wlD p
  have q1 : fIf (asB (fOp oLt (fVarQ 6) (fLenQ (fVarQ 2)))) (fOp oIx (fVarQ 2) (fVarQ 6)) (fLst aNil) (rpE tx (bobj w ts) ls P N us (some (.f (.int p))) y z) c = some (wordsD (ls.getD p []), c) := by
    refine (line_at ls p rfl rfl (d := wordsD (ls.getD p [])) (z := wordsD (ls.getD p [])) (fun h => (op_of rfl rfl).trans (ix_line ls p h c)) (fun h => ?_)).trans (by split <;> rfl)
    rw [getD_out h]
    exact lst_of aN (Nat.zero_le _)
  have a1 := sqX_nx (g := (fSeqX (fIteX (fOr (asB (fOp oNe (fSl (fVarQ 7) oNone (oSome (fC (.int 1)))) (fLst (aCons (fC (.str "row")) aNil)))) (asB (fOp oNe (fSl (fVarQ 7) (oSome (fC (.int 2))) (oSome (fC (.int 3)))) (fLst (aCons (fC (.str "at")) aNil)))))
  (fRaise 3 (fOp oAdd (fVarQ 6) (fC (.int 1))))
  fNxX)
  (fSeqX (fSV (fSet 8 (fTup (aCons (fCall m_number_of (aCons (fOp oIx (fVarQ 7) (fC (.int 1))) aNil)) (aCons (fCall m_numbers_in (aCons (fSl (fVarQ 7) (oSome (fC (.int 3))) oNone) aNil)) aNil)))))
  (fSeqX (fIteX (fNot (asB (fCall m_is_use (aCons (fVar 8) (aCons (fVar 1) (aCons (fVar 3) aNil))))))
  (fRaise 3 (fOp oAdd (fVarQ 6) (fC (.int 1))))
  fNxX)
  (fSV (fMutO "list" uApp 5 (aCons (fVar 8) aNil))))))) (sV_of (set_of (i := 7) q1))
  generalize ls.getD p [] = l at wl q1 a1 ⊢
  have l1 : 1 ≤ lim := by decide
  have l2 : 2 ≤ lim := by decide
  have n1 : oNe (.lst ((l.take 1).map D.str)) (.lst [.str "row"]) c = some (.bl (!decide (l.take 1 = ([("row" : Str)] : List Str))), c) :=
    oNe_strs (ys := [("row" : Str)]) (fun s hs => (wl.w s (List.mem_of_mem_take hs)).1) (by simp; exact ascR.1) c
  have n2 : oNe (.lst (((l.drop 2).take 1).map D.str)) (.lst [.str "at"]) c = some (.bl (!decide ((l.drop 2).take 1 = ([("at" : Str)] : List Str))), c) :=
    oNe_strs (ys := [("at" : Str)]) (fun s hs => (wl.w s (List.mem_of_mem_drop (List.mem_of_mem_take hs))).1) (by simp; exact ascR.2.1) c
  have c1 : Pd.cutD (l.map D.str) none (some 1) = (l.take 1).map D.str := by
    have := cut_to (l.map D.str) 1
    rw [← List.map_take] at this; exact this
  have c2 : Pd.cutD (l.map D.str) (some 2) (some 3) = ((l.drop 2).take 1).map D.str := by
    have := cut_mid (l.map D.str) 2 3
    rw [← List.map_drop, ← List.map_take] at this; exact this
  have q2 : asB (fOp oNe (fSl (fVarQ 7) oNone (oSome (fC (.int 1)))) (fLst (aCons (fC (.str "row")) aNil))) (rpE tx (bobj w ts) ls P N us (some (.f (.int p))) (some (.f (wordsD l))) z) c = some (!decide (l.take 1 = ([("row" : Str)] : List Str)), c) := by
    refine asB_of ((op_of (sl_lst (ds := l.map D.str) rfl rfl rfl) (lst_of (aC rfl aN) l1)).trans ?_)
    rw [c1]; exact n1
  have q3 : asB (fOp oNe (fSl (fVarQ 7) (oSome (fC (.int 2))) (oSome (fC (.int 3)))) (fLst (aCons (fC (.str "at")) aNil))) (rpE tx (bobj w ts) ls P N us (some (.f (.int p))) (some (.f (wordsD l))) z) c = some (!decide ((l.drop 2).take 1 = ([("at" : Str)] : List Str)), c) := by
    refine asB_of ((op_of (sl_lst (ds := l.map D.str) rfl rfl rfl) (lst_of (aC rfl aN) l1)).trans ?_)
    rw [c2]; exact n2
  have rs : fRaise 3 (fOp oAdd (fVarQ 6) (fC (.int 1))) (rpE tx (bobj w ts) ls P N us (some (.f (.int p))) (some (.f (wordsD l))) z) c = some (.er 3 [.int ((p : Int) + 1)], rpE tx (bobj w ts) ls P N us (some (.f (.int p))) (some (.f (wordsD l))) z, c) := raise_of ((op_of rfl rfl).trans rfl)
  by_cases hr : l.take 1 = ([("row" : Str)] : List Str)
  · by_cases ha : (l.drop 2).take 1 = ([("at" : Str)] : List Str)
    · obtain ⟨x, rest, rfl⟩ : ∃ (x : Str) (rest : List Str), l = ("row" : Str) :: x :: ("at" : Str) :: rest := by
        match l, hr, ha with
        | [], hr, _ => simp at hr
        | [a], _, ha => simp at ha
        | [a, b], _, ha => simp at ha
        | a :: b :: d :: rest, hr, ha =>
          simp at hr ha
          exact ⟨b, rest, by rw [hr, ha]⟩
      rw [useAt_cons, if_pos ⟨rfl, rfl⟩]
      rw [decide_eq_true hr] at q2
      rw [decide_eq_true ha] at q3
      have wx := wl.w x (by simp)
      have wr : Wl rest := ⟨by have := wl.n; simp at this; omega, fun s hs => wl.w s (by simp [hs])⟩
      have m1 := s_number_of x wx.1 wx.2 c
      have m2 := s_numbers_in rest wr c
      have i1 : oIx (wordsD (("row" : Str) :: x :: ("at" : Str) :: rest)) (.int 1) c = some (.str x, c) := by simp only [wordsD, List.map_cons, oIx, ixD, deref, atI1]
      have c3 : Pd.cutD ((("row" : Str) :: x :: ("at" : Str) :: rest : List Str).map D.str) (some 3) none = rest.map D.str := by
        have := cut_from ((("row" : Str) :: x :: ("at" : Str) :: rest : List Str).map D.str) 3
        rw [← List.map_drop] at this; exact this
      have q4 : fTup (aCons (fCall m_number_of (aCons (fOp oIx (fVarQ 7) (fC (.int 1))) aNil)) (aCons (fCall m_numbers_in (aCons (fSl (fVarQ 7) (oSome (fC (.int 3))) oNone) aNil)) aNil)) (rpE tx (bobj w ts) ls P N us (some (.f (.int p))) (some (.f (wordsD (("row" : Str) :: x :: ("at" : Str) :: rest)))) z) c = some (.tup [numD (wnum x), rowD rest], c) := by
        refine tup_of (aC ((call_of (aC ((op_of rfl rfl).trans i1) aN)).trans m1) (aC ((call_of (aC (sl_lst (ds := (("row" : Str) :: x :: ("at" : Str) :: rest : List Str).map D.str) rfl rfl rfl) aN)).trans ?_) aN)) l2
        rw [c3]; exact m2
      have q5 := s_is_useG w ts P x rest hts wr.n c
      refine ⟨some (.f (wordsD (("row" : Str) :: x :: ("at" : Str) :: rest))), some (.f (.tup [numD (wnum x), rowD rest])), ?_⟩
      refine a1.trans ?_
      refine (sqX_nx (env1 := rpE tx (bobj w ts) ls P N us (some (.f (.int p))) (some (.f (wordsD (("row" : Str) :: x :: ("at" : Str) :: rest)))) z) (c1 := c) ((iteX_f (c1 := c) ((or_f q2).trans q3)).trans rfl)).trans ?_
      refine (sqX_nx (sV_of (set_of q4))).trans ?_
      show fSeqX _ _ (rpE tx (bobj w ts) ls P N us (some (.f (.int p))) (some (.f (wordsD (("row" : Str) :: x :: ("at" : Str) :: rest)))) (some (.f (.tup [numD (wnum x), rowD rest])))) c = _
      cases hU : useO ts P x rest with
      | none =>
        rw [hU] at q5
        exact sqX_er ((iteX_t (c1 := c) (not_of (b := false) (asB_of ((call_of (aC rfl (aC rfl (aC rfl aN)))).trans q5)))).trans (raise_of ((op_of rfl rfl).trans rfl)))
      | some u =>
        rw [hU] at q5
        refine (sqX_nx ((iteX_f (c1 := c) (not_of (b := true) (asB_of ((call_of (aC rfl (aC rfl (aC rfl aN)))).trans q5)))).trans rfl)).trans ?_
        have hl : (us.map useD).length < lim := by rw [List.length_map]; exact (show _ < 1000000 by omega)
        refine (sV_of (c1 := c) (mutO_of (c1 := c) (d := .lst (us.map useD)) (ds := [.tup [numD (wnum x), rowD rest]]) rfl rfl (aC rfl aN) (app_of hl))).trans ?_
        have e3 : (us ++ [u]).map useD = us.map useD ++ [.tup [numD (wnum x), rowD rest]] := by rw [(useO_D hU).1, List.map_append]; rfl
        show _ = some (FlX.fl Fl.nx, rpE tx (bobj w ts) ls P N (us ++ [u]) _ _ _, c)
        unfold rpE
        rw [e3]; rfl
    · have e : useAt ts P l = none := by
        unfold useAt
        split
        · rename_i a b d rest
          split
          · rename_i h
            exact absurd (by rw [h.2]; rfl) ha
          · rfl
        · rfl
      rw [e]
      rw [decide_eq_true hr] at q2
      rw [decide_eq_false ha] at q3
      exact ⟨_, _, a1.trans (sqX_er ((iteX_t (c1 := c) ((or_f q2).trans q3)).trans rs))⟩
  · have e : useAt ts P l = none := by
      unfold useAt
      split
      · rename_i a b d rest
        split
        · rename_i h
          exact absurd (by rw [h.1]; rfl) hr
        · rfl
      · rfl
    rw [e]
    rw [decide_eq_false hr] at q2
    exact ⟨_, _, a1.trans (sqX_er ((iteX_t (c1 := c) (or_t q2)).trans rs))⟩
end M58
set_option Elab.async false
set_option linter.all false
set_option maxRecDepth 100000
set_option maxHeartbeats 0
namespace M58
open PySem PySem.Spec PyProof.Rows L2 Pd L58 Ma TL
theorem rp_loop (tx : D) (w : Int) (ts : List Tbl) (hts : ts.length ≤ 1000) (ls : List (List Str)) (hL : Lt ls) (P N : Int) (c : Cs) : ∀ (n p : Nat) (us : List Use) (x y z : Option Sl), p ≤ ls.length → us.length < p + 1 →
    (∀ e, usesP ls ts P n p us = .inl e → ∃ env', forX (gSet 6) rpB (rangeD (p : Nat) n) (rpE tx (bobj w ts) ls P N us x y z) c = some (.er 3 [.int (e : Nat)], env', c)) ∧
    ∀ us', usesP ls ts P n p us = .inr us' → ∃ x' y' z', forX (gSet 6) rpB (rangeD (p : Nat) n) (rpE tx (bobj w ts) ls P N us x y z) c = some (.fl .nx, rpE tx (bobj w ts) ls P N us' x' y' z', c)
  | 0, p, us, x, y, z, hp, hu => by
    rw [rangeD_zero]
    refine ⟨fun e h => (by simp [usesP] at h), fun us' h => ?_⟩
    simp only [usesP, Sum.inr.injEq] at h
    subst h
    exact ⟨x, y, z, rfl⟩
  | n + 1, p, us, x, y, z, hp, hu => by
    rw [rangeD_succ]
    have hcnt := hL.cnt
    obtain ⟨y', z', st⟩ := rp_row tx w ts hts ls hL P N us (by omega) p y z c
    have g : gSet 6 (.int (p : Nat)) (rpE tx (bobj w ts) ls P N us x y z) = some (rpE tx (bobj w ts) ls P N us (some (.f (.int p))) y z) := rfl
    have e1 : ((p : Nat) : Int) + 1 = ((p + 1 : Nat) : Int) := by omega
    simp only [usesP]
    cases eu : useAt ts P (ls.getD p []) with
    | none =>
      rw [eu] at st
      refine ⟨fun e h => ?_, fun us' h => by cases h⟩
      cases h
      rw [forX_er g st]
      exact ⟨_, by rw [e1]⟩
    | some u =>
      rw [eu] at st
      have hin := in_of_use eu
      rw [forX_step g st, e1]
      exact rp_loop tx w ts hts ls hL P N c n (p + 1) (us ++ [u]) _ _ _ (by omega) (by simp; omega)
def puzR (w : Int) (ls : List (List Str)) (ts : List Tbl) : Rx := match puzzleP ls ts with
  | .inl e => .er 3 [.int (e : Nat)]
  | .inr (P, us) => .ok (pobj w ts P us)
theorem s_read_puzzle (w : Int) (ts : List Tbl) (hts : ts.length ≤ 1000) (hg : ∀ t ∈ ts, GT w t.1 t.2) (hw : w ≤ 3) (ls : List (List Str)) (hL : Lt ls) (c : Cs) : m_read_puzzle [.str (textOf ls), bobj w ts] c = some (puzR w ls ts, c) := by
  have e0 := s_lines_of ls hL c
  have e1 := s_headed ls hL 0 "puzzle" "places" "rows" ascR.2.2.1 ascR.2.2.2.1 ascR.2.2.2.2 c
  have l3 : 3 ≤ lim := by decide
  have f0 : fSetX 2 (fCallX m_lines_of (aCons (fVar 0) aNil)) (startD N_read_puzzle [.str (textOf ls), bobj w ts]) c = some (.fl .nx, [some (.f (.str (textOf ls))), some (.f (bobj w ts)), some (.f (.lst (ls.map wordsD))), none, none, none, none, none, none], c) := setX_ok ((callX_of (aC rfl aN)).trans e0)
  have q1 : ∀ r, hdR 0 (hd (ls.getD 0 []) "puzzle" "places" "rows") = r → fCallX m_headed (aCons (fVar 2) (aCons (fC (.int 0)) (aCons (fLst (aCons (fC (.str "puzzle")) (aCons (fC (.str "places")) (aCons (fC (.str "rows")) aNil)))) aNil))) [some (.f (.str (textOf ls))), some (.f (bobj w ts)), some (.f (.lst (ls.map wordsD))), none, none, none, none, none, none] c = some (r, c) := fun r hr => by
    rw [← hr]
    exact (callX_of (aC rfl (aC rfl (aC (lst_of (aC rfl (aC rfl (aC rfl aN))) l3) aN)))).trans e1
  generalize D.str (textOf ls) = tx at f0 q1 ⊢
  unfold puzR
  unfold puzzleP
  cases eh : hd (ls.getD 0 []) "puzzle" "places" "rows" with
  | none =>
    rw [eh] at q1
    refine mOfX_er (env1 := [some (.f tx), some (.f (bobj w ts)), some (.f (.lst (ls.map wordsD))), none, none, none, none, none, none]) rfl ?_
    refine (sqX_nx f0).trans ?_
    exact sqX_er (asgX_er (q1 _ rfl))
  | some q =>
    obtain ⟨P, n⟩ := q
    have hin := in_of_hd eh
    obtain ⟨el, w0, w1, n0, n1⟩ := hd_ok eh
    rw [eh] at q1
    have f1 : fAsgX (fCallX m_headed (aCons (fVar 2) (aCons (fC (.int 0)) (aCons (fLst (aCons (fC (.str "puzzle")) (aCons (fC (.str "places")) (aCons (fC (.str "rows")) aNil)))) aNil)))) (gSeq 2 (gsCons (gSet 3) (gsCons (gSet 4) gsNil))) [some (.f tx), some (.f (bobj w ts)), some (.f (.lst (ls.map wordsD))), none, none, none, none, none, none] c = some (.fl .nx, [some (.f tx), some (.f (bobj w ts)), some (.f (.lst (ls.map wordsD))), some (.f (.int P)), some (.f (.int n)), none, none, none, none], c) := asgX_ok (q1 _ rfl) rfl
    have f2 : asB (fOp oGt (fVarQ 3) (fC (.int 60))) [some (.f tx), some (.f (bobj w ts)), some (.f (.lst (ls.map wordsD))), some (.f (.int P)), some (.f (.int n)), none, none, none, none] c = some (decide (60 < P), c) := asB_of ((op_of rfl rfl).trans rfl)
    by_cases hP : P ≤ 60
    · rw [decide_eq_false (by omega)] at f2
      simp only [hP, if_true]
      obtain ⟨nn, rfl⟩ := Int.eq_ofNat_of_zero_le n0
      simp only [Int.toNat_natCast]
      have s0 : small62 1 = true := by decide
      have s1 : small62 ((nn : Nat) + 1 : Int) = true := sm62 (by omega) (by omega)
      have s2 : ((nn : Nat) + 1 - 1 : Int).toNat = nn := by omega
      obtain ⟨k1, k2⟩ := rp_loop tx w ts hts ls hL P (nn : Nat) c nn 1 [] none none none (by omega) (by simp)
      have f3 : fSV (fSetO 5 (fLst aNil)) [some (.f tx), some (.f (bobj w ts)), some (.f (.lst (ls.map wordsD))), some (.f (.int P)), some (.f (.int (nn : Nat))), none, none, none, none] c = some (.fl .nx, rpE tx (bobj w ts) ls P (nn : Nat) [] none none none, c) := sV_of (setO_of (lst_of aN (Nat.zero_le _)))
      have fr : fRg2 (aCons (fC (.int 1)) (aCons (fOp oAdd (fVarQ 4) (fC (.int 1))) aNil)) (rpE tx (bobj w ts) ls P (nn : Nat) [] none none none) c = some (rangeD ((1 : Nat) : Int) nn, c) := fRg2_of (i := 1) (aC rfl (aC ((op_of rfl rfl).trans rfl) aN)) s0 s1 s2
      cases et : usesP ls ts P nn 1 [] with
      | inl e =>
        obtain ⟨env', k⟩ := k1 e et
        refine mOfX_er (env1 := env') rfl ?_
        refine (sqX_nx f0).trans ?_
        refine (sqX_nx f1).trans ?_
        refine (sqX_nx ((iteX_f (c1 := c) f2).trans rfl)).trans ?_
        refine (sqX_nx f3).trans ?_
        exact sqX_er ((forX_of fr).trans k)
      | inr us =>
        obtain ⟨x', y', z', k⟩ := k2 us et
        obtain ⟨t1, t2, t3, t4⟩ := usesP_spec _ _ _ _ et (by omega) (by simp)
        have q5 : fOp oNe (fOp oAdd (fVarQ 4) (fC (.int 1))) (fLenQ (fVarQ 2)) (rpE tx (bobj w ts) ls P (nn : Nat) us x' y' z') c = some (.bl (!decide (nn + 1 = ls.length)), c) := by
          have e : fLenQ (fVarQ 2) (rpE tx (bobj w ts) ls P (nn : Nat) us x' y' z') c = some (.int (ls.length : Nat), c) := lenQ_of (x := .lst (ls.map wordsD)) rfl (by simp only [lenD, deref, List.length_map])
          have e' : fOp oAdd (fVarQ 4) (fC (.int 1)) (rpE tx (bobj w ts) ls P (nn : Nat) us x' y' z') c = some (.int ((nn + 1 : Nat) : Int), c) := (op_of rfl rfl).trans rfl
          exact (op_of e' e).trans (ne_len _ _ c)
        by_cases hp : nn + 1 = ls.length
        · rw [decide_eq_true hp] at q5
          have e6 := s_Puzzle w ts P us w0 hP hts hg (fun u hu => (t1 u hu).1) c
          simp only [hp, if_true]
          refine mOfX_rt (env1 := [some (.f tx), some (.f (bobj w ts)), some (.f (.lst (ls.map wordsD))), some (.f (.int P)), some (.f (.int (nn : Nat))), some (.f (.lst (us.map useD))), x', y', z']) rfl ?_
          refine (sqX_nx f0).trans ?_
          refine (sqX_nx f1).trans ?_
          refine (sqX_nx ((iteX_f (c1 := c) f2).trans rfl)).trans ?_
          refine (sqX_nx f3).trans ?_
          refine (sqX_nx ((forX_of fr).trans k)).trans ?_
          refine (sqX_nx ((iteX_f (c1 := c) (asB_of q5)).trans rfl)).trans ?_
          refine sV_of ?_
          show fRet _ [some (.f tx), some (.f (bobj w ts)), some (.f (.lst (ls.map wordsD))), some (.f (.int P)), some (.f (.int (nn : Nat))), some (.f (.lst (us.map useD))), x', y', z'] c = _
          exact fRet_of ((call_of (aC rfl (aC rfl (aC rfl aN)))).trans e6)
        · rw [decide_eq_false hp] at q5
          simp only [hp, if_false]
          have e2 : ((nn + 2 : Nat) : Int) = (nn : Nat) + 2 := by omega
          rw [e2]
          refine mOfX_er (env1 := rpE tx (bobj w ts) ls P (nn : Nat) us x' y' z') rfl ?_
          refine (sqX_nx f0).trans ?_
          refine (sqX_nx f1).trans ?_
          refine (sqX_nx ((iteX_f (c1 := c) f2).trans rfl)).trans ?_
          refine (sqX_nx f3).trans ?_
          refine (sqX_nx ((forX_of fr).trans k)).trans ?_
          exact sqX_er ((iteX_t (c1 := c) (asB_of q5)).trans (raise_of ((op_of rfl rfl).trans rfl)))
    · rw [decide_eq_true (by omega)] at f2
      simp only [hP, if_false]
      refine mOfX_er (env1 := [some (.f tx), some (.f (bobj w ts)), some (.f (.lst (ls.map wordsD))), some (.f (.int P)), some (.f (.int n)), none, none, none, none]) rfl ?_
      refine (sqX_nx f0).trans ?_
      refine (sqX_nx f1).trans ?_
      exact sqX_er ((iteX_t (c1 := c) f2).trans (raise_of rfl))
/-! ### what is told -/
def bookT (ls : List (List Str)) : D := match bookP ls with
  | .inl e => .int (e : Nat)
  | .inr (w, ts) => .str (textOf (bookWs w ts))
def puzT (ls : List (List Str)) (ts : List Tbl) : D := match puzzleP ls ts with
  | .inl e => .int (e : Nat)
  | .inr (P, us) => .str (textOf (puzWs P us.length us))
theorem try_ok {k i : Nat} {fx : FEX} {env : En} {c c1 : Cs} {d : D} (h : fx env c = some (.ok d, c1)) : fTryRet k i fx env c = some (.rt d, env, c1) := by simp only [fTryRet, h]
theorem try_er {k i : Nat} {fx : FEX} {env : En} {c c1 : Cs} {d : D} (h : fx env c = some (.er k [d], c1)) (hi : i < env.length) : fTryRet k i fx env c = some (.rt d, env, c1) := by simp only [fTryRet, h, hi, and_self, if_true]
theorem ifX_t {ft : FT} {f g : FEX} {env : En} {c c1 : Cs} (h : ft env c = some (true, c1)) : fIfX ft f g env c = f env c1 := by simp only [fIfX, h]
theorem ifX_f {ft : FT} {f g : FEX} {env : En} {c c1 : Cs} (h : ft env c = some (false, c1)) : fIfX ft f g env c = g env c1 := by simp only [fIfX, h]
theorem call1_ok {m : FC} {fx : FEX} {env : En} {c c1 c2 : Cs} {d d' : D} (h : fx env c = some (.ok d, c1)) (h2 : m [d] c1 = some (d', c2)) : fCallX1 m fx env c = some (.ok d', c2) := by simp only [fCallX1, h, h2]
theorem call1_er {m : FC} {fx : FEX} {env : En} {c c1 : Cs} {k : Nat} {ds : List D} (h : fx env c = some (.er k ds, c1)) : fCallX1 m fx env c = some (.er k ds, c1) := by simp only [fCallX1, h]
theorem s_told0 (ls : List (List Str)) (hL : Lt ls) (b : D) (c : Cs) : m__law_told [.int 0, .str (textOf ls), b] c = some (bookT ls, c) := by
  have e := s_read_book ls hL c
  have z : oEq (.int 0) (.int 0) c = some (.bl true, c) := by rw [oEq_int]; rfl
  refine mOf_rt (env1 := [some (.f (.int 0)), some (.f (.str (textOf ls))), some (.f b), none]) rfl ?_
  unfold bookR at e
  unfold bookT
  cases eb : bookP ls with
  | inl n =>
    rw [eb] at e
    exact try_er ((ifX_t (c1 := c) (asB_of ((op_of rfl rfl).trans z))).trans (call1_er ((callX_of (aC rfl aN)).trans e))) (by show 3 < 4; decide)
  | inr q =>
    obtain ⟨w, ts⟩ := q
    rw [eb] at e
    obtain ⟨h1, h2, hg, hls⟩ := bookP_spec eb
    have e2 := s_show_book w ts h1 h2 hg (hls ▸ hL) c
    exact try_ok ((ifX_t (c1 := c) (asB_of ((op_of rfl rfl).trans z))).trans (call1_ok ((callX_of (aC rfl aN)).trans e) e2))
theorem s_told1 (w : Int) (ts : List Tbl) (hts : ts.length ≤ 1000) (hg : ∀ t ∈ ts, GT w t.1 t.2) (hw : w ≤ 3) (ls : List (List Str)) (hL : Lt ls) (c : Cs) : m__law_told [.int 1, .str (textOf ls), bobj w ts] c = some (puzT ls ts, c) := by
  have e := s_read_puzzle w ts hts hg hw ls hL c
  have z : oEq (.int 1) (.int 0) c = some (.bl false, c) := by rw [oEq_int]; rfl
  refine mOf_rt (env1 := [some (.f (.int 1)), some (.f (.str (textOf ls))), some (.f (bobj w ts)), none]) rfl ?_
  unfold puzR at e
  unfold puzT
  cases eb : puzzleP ls ts with
  | inl n =>
    rw [eb] at e
    exact try_er ((ifX_f (c1 := c) (asB_of ((op_of rfl rfl).trans z))).trans (call1_er ((callX_of (aC rfl (aC rfl aN))).trans e))) (by show 3 < 4; decide)
  | inr q =>
    obtain ⟨P, us⟩ := q
    rw [eb] at e
    obtain ⟨h1, h2, hu, hls⟩ := puzzleP_spec eb
    have hus : ∀ u ∈ us, US u := fun u h => (hu u h).1.us h2 hg hts
    have hL' : Lt (puzWs P us.length us) := hls ▸ hL
    have hlen : us.length ≤ 500000 := by
      have := hL'.cnt
      simp only [puzWs, List.length_cons, List.length_map] at this
      omega
    have e2 := s_show_puzzle w ts P us h1 h2 hlen hL' hus c
    exact try_ok ((ifX_f (c1 := c) (asB_of ((op_of rfl rfl).trans z))).trans (call1_ok ((callX_of (aC rfl (aC rfl aN))).trans e) e2))
theorem s_told_bad0 (d b : D) (c : Cs) (h : isiD (fun s => isaB s "str") (tc_none 3) c d = some false) : m__law_told [.int 0, d, b] c = some (.int 1, c) := by
  have e := s_lines_bad d c h
  have e2 : m_read_book [d] c = some (.er 3 [.int 1], c) := by
    refine mOfX_er (env1 := [some (.f d), none, none, none, none, none, none, none]) rfl ?_
    exact sqX_er (setX_er ((callX_of (aC rfl aN)).trans e))
  have z : oEq (.int 0) (.int 0) c = some (.bl true, c) := by rw [oEq_int]; rfl
  refine mOf_rt (env1 := [some (.f (.int 0)), some (.f d), some (.f b), none]) rfl ?_
  exact try_er ((ifX_t (c1 := c) (asB_of ((op_of rfl rfl).trans z))).trans (call1_er ((callX_of (aC rfl aN)).trans e2))) (by show 3 < 4; decide)
theorem s_told_bad1 (d b : D) (c : Cs) (h : isiD (fun s => isaB s "str") (tc_none 3) c d = some false) : m__law_told [.int 1, d, b] c = some (.int 1, c) := by
  have e := s_lines_bad d c h
  have e2 : m_read_puzzle [d, b] c = some (.er 3 [.int 1], c) := by
    refine mOfX_er (env1 := [some (.f d), some (.f b), none, none, none, none, none, none, none]) rfl ?_
    exact sqX_er (setX_er ((callX_of (aC rfl aN)).trans e))
  have z : oEq (.int 1) (.int 0) c = some (.bl false, c) := by rw [oEq_int]; rfl
  refine mOf_rt (env1 := [some (.f (.int 1)), some (.f d), some (.f b), none]) rfl ?_
  exact try_er ((ifX_f (c1 := c) (asB_of ((op_of rfl rfl).trans z))).trans (call1_er ((callX_of (aC rfl (aC rfl aN))).trans e2))) (by show 3 < 4; decide)
end M58
set_option Elab.async false
set_option linter.all false
set_option maxRecDepth 100000
set_option maxHeartbeats 0
namespace M58
open PySem PySem.Spec PyProof.Rows L2 Pd L58 Ma TL
theorem len_at (n p : Nat) {f g : FE} {env : En} {c : Cs} (e : fLenQ f env c = some (.int (n : Nat), c)) (hg : g env c = some (.int (p : Nat), c)) : asB (fOp oLt g (fLenQ f)) env c = some (decide (p < n), c) := by
  refine asB_of ((op_of hg e).trans ?_)
  simp only [oLt]
  by_cases h : p < n
  · rw [decide_eq_true h, decide_eq_true (by omega)]
  · rw [decide_eq_false h, decide_eq_false (by omega)]
theorem ifL {n p : Nat} {ft : FT} {fe fz : FE} {env : En} {c : Cs} {d : D} (q : ft env c = some (decide (p < n), c)) (h1 : p < n → fe env c = some (d, c)) (h2 : ¬ p < n → fz env c = some (d, c)) : fIf ft fe fz env c = some (d, c) := by
  by_cases h : p < n
  · rw [decide_eq_true h] at q
    exact (if_t q).trans (h1 h)
  · rw [decide_eq_false h] at q
    exact (if_f q).trans (h2 h)
theorem len_lines (ls : List (List Str)) {f : FE} {env : En} {c : Cs} (h : f env c = some (linesD ls, c)) : fLenQ f env c = some (.int (ls.length : Nat), c) := lenQ_of h (by simp only [lenD, deref, linesD, List.length_map])
theorem ix_lines (ls : List (List Str)) (p : Nat) (h : p < ls.length) (c : Cs) : oIx (linesD ls) (.int p) c = some (.str (lineOf (ls.getD p [])), c) := by
  simp only [linesD, oIx, ixD, deref, atIn, List.getElem?_map, List.getD_eq_getElem?_getD, List.getElem?_eq_getElem h, Option.map_some, Option.getD_some]
theorem Lt.mem {ls : List (List Str)} {p : Nat} (h : p < ls.length) : ls.getD p [] ∈ ls := by
  rw [List.getD_eq_getElem?_getD, List.getElem?_eq_getElem h]
  exact List.getElem_mem h
theorem split_line (ls : List (List Str)) (hL : Lt ls) (p : Nat) (h : p < ls.length) (c : Cs) : mSplit [.str (lineOf (ls.getD p [])), .str blank] c = some (wordsD (ls.getD p []), c) := by
  have hm := Lt.mem h
  have := mSplit_of (x := lineOf (ls.getD p [])) (y := blank) (by decide +kernel) (lim_le (by have := hL.line hm; omega)) c
  rw [split_words (hL.w _ hm).1 (hL.w _ hm).2] at this
  exact this
theorem lhead_at (ls : List (List Str)) (hL : Lt ls) (p : Nat) (A B C : Str) (hA : Asc A) (hB : Asc B) (hC : Asc C) (c : Cs) (h : p < ls.length) : m__law_headed [.str (lineOf (ls.getD p [])), .lst [.str A, .str B, .str C]] c = some (hdL (hd (ls.getD p []) A B C), c) := by
  have hm := Lt.mem h
  exact s_lheaded _ (hL.w _ hm).1 (hL.w _ hm).2 (hL.wl hm) (hL.line hm) A B C hA hB hC c
theorem hdL_nil (q : Option (Int × Int)) (c : Cs) : oEq (hdL q) (.lst []) c = some (.bl q.isNone, c) := by
  cases q with
  | none => exact oEq_ints_nil [] c
  | some q => exact oEq_ints_nil [q.1, q.2] c
theorem chain13 {f : FE} {env : En} {c : Cs} {lo v hi : Int} (h : f env c = some (.int v, c)) : fChain oLe oLe (fC (.int lo)) f (fC (.int hi)) env c = some (.bl (decide (lo ≤ v) && decide (v ≤ hi)), c) := by
  by_cases h1 : lo ≤ v
  · simp only [fChain, fC, h, oLe, decide_eq_true h1, Bool.true_and]
  · simp only [fChain, fC, h, oLe, decide_eq_false h1, Bool.false_and]
def hdBad (q : Option (Int × Int)) : Bool := match q with | some (i, _) => !(decide (1 ≤ i) && decide (i ≤ 3)) | none => true
theorem hd_test {f : FE} {env : En} {c : Cs} (q : Option (Int × Int)) (h : f env c = some (hdL q, c)) : fOr (asB (fOp oEq f (fLst aNil))) (fNot (asB (fChain oLe oLe (fC (.int 1)) (fOp oIx f (fC (.int 0))) (fC (.int 3))))) env c = some (hdBad q, c) := by
  have q1 : asB (fOp oEq f (fLst aNil)) env c = some (q.isNone, c) := asB_of ((op_of h (lst_of aN (Nat.zero_le _))).trans (hdL_nil q c))
  cases q with
  | none => exact or_t q1
  | some q =>
    obtain ⟨i, j⟩ := q
    have i0 : oIx (hdL (some (i, j))) (.int 0) c = some (.int i, c) := by simp only [hdL, oIx, ixD, deref, atI0]
    exact (or_f q1).trans (not_of (asB_of (chain13 ((op_of h rfl).trans i0))))
def bdE (ls : List (List Str)) (w N : Int) (p : Nat) (ts : List Tbl) (x4 x5 x6 x7 x8 x9 : Option Sl) : En := [some (.f (linesD ls)), some (.f (.lst [.int w, .int N])), some (.f (.int p)), some (.o (.lst (ts.map tabD))), x4, x5, x6, x7, x8, x9]
abbrev brB : FS := (fSeq (fSet 8 (fIf (asB (fOp oLt (fVarQ 7) (fLenQ (fVarQ 0)))) (fCall bTuple (aCons (fComp (fIt (fMd "str" mSplit (fOp oIx (fVarQ 0) (fVarQ 7)) (aCons (fC (.str " ")) aNil))) (gSet 9) fYes (fCall m__law_number (aCons (fVar 9) aNil)) [9]) aNil)) (fTup aNil)))
  (fSeq (fIte (fOr (fNot (asB (fCall m__law_is_row (aCons (fVar 8) (aCons (fOp oIx (fVarQ 1) (fC (.int 0))) (aCons (fOp oIx (fVarQ 5) (fC (.int 0))) aNil)))))) (fAnd (asB (fOp oNe (fVarQ 6) (fLst aNil))) (asB (fOp oLe (fVarQ 8) (fOp oIx (fVarQ 6) (fNeg (fC (.int 1))))))))
  (fRet (fOp oAdd (fVarQ 7) (fC (.int 1))))
  fNx)
  (fMutO "list" uApp 6 (aCons (fVar 8) aNil))))
def brE (ls : List (List Str)) (w N : Int) (p : Nat) (ts : List Tbl) (x4 : Option Sl) (a : Nat) (m : Int) (rs : List (List Int)) (x7 x8 x9 : Option Sl) : En := bdE ls w N p ts x4 (some (.f (.lst [.int a, .int m]))) (some (.o (.lst (rs.map tupI)))) x7 x8 x9
theorem numsL (l : List Str) (wl : Wl l) (env : En) (c : Cs) (k : Nat) (hk : ∀ d : D, (env.set k (some (.f d)))[k]? = some (some (.f d))) : compD (gSet k) fYes (fCall m__law_number (aCons (fVar k) aNil)) (l.map D.str) env c = some (l.map fun x => D.int (numL (wnum x)), c) :=
  compD_map fun x hx => ⟨_, rfl, rfl, (call_of (aC (by simp only [fVar, hk]) aN)).trans (s_law_number x (wl.w x hx).1 (wl.w x hx).2 c)⟩
theorem tupV (l : List Str) : D.tup (l.map fun x => D.int (numL (wnum x))) = tupI (rowV l) := by
  unfold tupI rowV
  rw [List.map_map]; rfl
theorem br_row (ls : List (List Str)) (hL : Lt ls) (w N : Int) (p0 : Nat) (ts : List Tbl) (x4 : Option Sl) (a : Nat) (m : Int) (rs : List (List Int)) (p : Nat) (x8 x9 : Option Sl) (hw : w ≤ 3) (ha : a ≤ 3) (hs : StrI rs) (hrs : ∀ r ∈ rs, GRow w a r) (c : Cs) :
    brB (brE ls w N p0 ts x4 a m rs (some (.f (.int p))) x8 x9) c = if (okRow w a (ls.getD p []) && okNext rs (rowV (ls.getD p []))) = true then some (.nx, brE ls w N p0 ts x4 a m (rs ++ [rowV (ls.getD p [])]) (some (.f (.int p))) (some (.f (tupI (rowV (ls.getD p []))))) x9, c)
      else some (.rt (.int ((p : Int) + 1)), brE ls w N p0 ts x4 a m rs (some (.f (.int p))) (some (.f (tupI (rowV (ls.getD p []))))) x9, c) := by
  have wl := hL.wlD p
  have q1 : fIf (asB (fOp oLt (fVarQ 7) (fLenQ (fVarQ 0)))) (fCall bTuple (aCons (fComp (fIt (fMd "str" mSplit (fOp oIx (fVarQ 0) (fVarQ 7)) (aCons (fC (.str (Str.ofString " "))) aNil))) (gSet 9) fYes (fCall m__law_number (aCons (fVar 9) aNil)) [9]) aNil)) (fTup aNil) (brE ls w N p0 ts x4 a m rs (some (.f (.int p))) x8 x9) c = some (tupI (rowV (ls.getD p [])), c) := by
    refine ifL (len_at ls.length p (len_lines ls rfl) rfl) (fun h => ?_) (fun h => ?_)
    · have l1 : ((ls.getD p []).map fun x => D.int (numL (wnum x))).length ≤ lim := by rw [List.length_map]; exact lim_le (by have := wl.n; omega)
      refine (call_of (aC (comp_of (ds := (ls.getD p []).map D.str) (c1 := c) (it_lst ((md_of ((op_of rfl rfl).trans (ix_lines ls p h c)) rfl (aC rfl aN)).trans (split_line ls hL p h c))) (numsL _ wl _ c 9 (fun d => rfl)) l1) aN)).trans ?_
      rw [← tupV]; rfl
    · rw [getD_out h]
      exact tup_of aN (Nat.zero_le _)
  refine (fSeq_nx (set_of q1)).trans ?_
  generalize ls.getD p [] = l at wl q1 ⊢
  have q2 := s_is_rowL l w a wl.n c
  have i0 : oIx (.lst [.int w, .int N]) (.int 0) c = some (.int w, c) := by simp only [oIx, ixD, deref, atI0]
  have i1 : oIx (.lst [.int a, .int m]) (.int 0) c = some (.int a, c) := by simp only [oIx, ixD, deref, atI0]
  have q3 := cond_row (w := w) (a := a) (l := l) hrs (ft := asB (fCall m__law_is_row (aCons (fVar 8) (aCons (fOp oIx (fVarQ 1) (fC (.int 0))) (aCons (fOp oIx (fVarQ 5) (fC (.int 0))) aNil))))) (fr := fVarQ 6) (fw := fVarQ 8) (env := brE ls w N p0 ts x4 a m rs (some (.f (.int p))) (some (.f (tupI (rowV l)))) x9) (c := c) (X := tupI (rowV l))
    (asB_of ((call_of (aC rfl (aC ((op_of rfl rfl).trans i0) (aC ((op_of rfl rfl).trans i1) aN)))).trans q2)) rfl rfl (fun _ => rfl)
  show fSeq _ _ (brE ls w N p0 ts x4 a m rs (some (.f (.int p))) (some (.f (tupI (rowV l)))) x9) c = _
  cases hc : (okRow w a l && okNext rs (rowV l)) with
  | false =>
    rw [hc] at q3
    rw [if_neg (by simp)]
    exact fSeq_rt ((fIte_t q3).trans (fRet_of ((op_of rfl rfl).trans rfl)))
  | true =>
    rw [hc] at q3
    rw [if_pos rfl]
    refine (fSeq_nx ((fIte_f (c1 := c) q3).trans rfl)).trans ?_
    have hl : (rs.map tupI).length < lim := by rw [List.length_map]; have := str_few hs hrs hw ha; exact (show _ < 1000000 by omega)
    refine (mutO_of (c1 := c) (d := .lst (rs.map tupI)) (ds := [tupI (rowV l)]) rfl rfl (aC rfl aN) (app_of hl)).trans ?_
    have e3 : (rs ++ [rowV l]).map tupI = rs.map tupI ++ [tupI (rowV l)] := by rw [List.map_append]; rfl
    show _ = some (Fl.nx, brE ls w N p0 ts x4 a m (rs ++ [rowV l]) _ _ _, c)
    unfold brE
    rw [e3]; rfl
theorem br_loop (ls : List (List Str)) (hL : Lt ls) (w N : Int) (p0 : Nat) (ts : List Tbl) (x4 : Option Sl) (a : Nat) (m : Int) (hw : w ≤ 3) (h1 : 1 ≤ a) (ha : a ≤ 3) (c : Cs) : ∀ (n p : Nat) (rs : List (List Int)) (x7 x8 x9 : Option Sl), StrI rs → (∀ r ∈ rs, GRow w a r) →
    (∀ e, rowsP ls w a n p rs = .inl e → ∃ env', forD (gSet 7) brB (rangeD (p : Nat) n) (brE ls w N p0 ts x4 a m rs x7 x8 x9) c = some (.rt (.int (e : Nat)), env', c)) ∧
    ∀ rs', rowsP ls w a n p rs = .inr rs' → ∃ y7 y8 y9, forD (gSet 7) brB (rangeD (p : Nat) n) (brE ls w N p0 ts x4 a m rs x7 x8 x9) c = some (.nx, brE ls w N p0 ts x4 a m rs' y7 y8 y9, c)
  | 0, p, rs, x7, x8, x9, hs, hrs => by
    rw [rangeD_zero]
    refine ⟨fun e h => (by simp [rowsP] at h), fun rs' h => ?_⟩
    simp only [rowsP, Sum.inr.injEq] at h
    subst h
    exact ⟨x7, x8, x9, rfl⟩
  | n + 1, p, rs, x7, x8, x9, hs, hrs => by
    rw [rangeD_succ]
    have st := br_row ls hL w N p0 ts x4 a m rs p x8 x9 hw ha hs hrs c
    have g : gSet 7 (.int (p : Nat)) (brE ls w N p0 ts x4 a m rs x7 x8 x9) = some (brE ls w N p0 ts x4 a m rs (some (.f (.int p))) x8 x9) := rfl
    have e1 : ((p : Nat) : Int) + 1 = ((p + 1 : Nat) : Int) := by omega
    simp only [rowsP]
    by_cases hc : (okRow w a (ls.getD p []) && okNext rs (rowV (ls.getD p []))) = true
    · rw [if_pos hc] at st ⊢
      simp only [Bool.and_eq_true] at hc
      have hrow := okRow_row hc.1
      have ih := br_loop ls hL w N p0 ts x4 a m hw h1 ha c n (p + 1) (rs ++ [rowV (ls.getD p [])]) (some (.f (.int p))) (some (.f (tupI (rowV (ls.getD p []))))) x9 (str_snoc hs hc.2) (fun r hm => by
        rcases List.mem_append.mp hm with hm | hm
        · exact hrs r hm
        · rw [List.mem_singleton.mp hm]; exact hrow)
      rw [forD_step g st, e1]
      exact ih
    · rw [if_neg hc] at st ⊢
      rw [forD_rt g st]
      refine ⟨fun e h => ?_, fun rs' h => by cases h⟩
      cases h
      exact ⟨_, by rw [e1]⟩
end M58
set_option Elab.async false
set_option linter.all false
set_option maxRecDepth 100000
set_option maxHeartbeats 0
namespace M58
open PySem PySem.Spec PyProof.Rows L2 Pd L58 Ma TL
abbrev bdB : FS := (fSeq (fIte (asB (fOp oEq (fLenQ (fVarQ 3)) (fOp oIx (fVarQ 1) (fC (.int 1)))))
  fBk
  fNx)
  (fSeq (fSet 5 (fIf (asB (fOp oLt (fVarQ 2) (fLenQ (fVarQ 0)))) (fCall m__law_headed (aCons (fOp oIx (fVarQ 0) (fVarQ 2)) (aCons (fLst (aCons (fC (.str "table")) (aCons (fC (.str "arity")) (aCons (fC (.str "rows")) aNil)))) aNil))) (fLst aNil)))
  (fSeq (fIte (fOr (asB (fOp oEq (fVarQ 5) (fLst aNil))) (fNot (asB (fChain oLe oLe (fC (.int 1)) (fOp oIx (fVarQ 5) (fC (.int 0))) (fC (.int 3))))))
  (fRet (fOp oAdd (fVarQ 2) (fC (.int 1))))
  fNx)
  (fSeq (fSetO 6 (fLst aNil))
  (fSeq (fFor (fRg2 (aCons (fOp oAdd (fVarQ 2) (fC (.int 1))) (aCons (fCall bMin (aCons (fOp oAdd (fOp oAdd (fVarQ 2) (fC (.int 1))) (fOp oIx (fVarQ 5) (fC (.int 1)))) (aCons (fOp oAdd (fLenQ (fVarQ 0)) (fC (.int 1))) aNil))) aNil))) (gSet 7)
  brB)
  (fSeq (fFz 6 (fMutO "list" uApp 3 (aCons (fLst (aCons (fOp oIx (fVarQ 5) (fC (.int 0))) (aCons (fVar 6) aNil))) aNil)))
  (fSet 2 (fOp oAdd (fOp oAdd (fVarQ 2) (fC (.int 1))) (fOp oIx (fVarQ 5) (fC (.int 1)))))))))))
theorem min_cap {p m n : Nat} (h : p < n) : (if ((n : Nat) : Int) + 1 < (p : Int) + 1 + (m : Nat) then ((n : Nat) : Int) + 1 else (p : Int) + 1 + (m : Nat)) = ((p + 1 + min m (n + 1 - (p + 1)) : Nat) : Int) := by
  by_cases hc : ((n : Nat) : Int) + 1 < (p : Int) + 1 + (m : Nat)
  · rw [if_pos hc, Nat.min_eq_right (by omega)]; omega
  · rw [if_neg hc, Nat.min_eq_left (by omega)]; omega
theorem bd_turn (ls : List (List Str)) (hL : Lt ls) (w : Int) (N : Int) (hw : w ≤ 3) (p : Nat) (ts : List Tbl) (hp : p ≤ ls.length) (ht : ts.length < p + 1) (hN : (ts.length : Int) ≠ N) (x4 x5 x6 x7 x8 x9 : Option Sl) (c : Cs) :
    match hd (ls.getD p []) "table" "arity" "rows" with
    | none => ∃ env', bdB (bdE ls w N p ts x4 x5 x6 x7 x8 x9) c = some (.rt (.int (p + 1 : Nat)), env', c)
    | some (a, m) => if 1 ≤ a ∧ a ≤ 3 then match rowsP ls w a.toNat m.toNat (p + 1) [] with
        | .inl e => ∃ env', bdB (bdE ls w N p ts x4 x5 x6 x7 x8 x9) c = some (.rt (.int (e : Nat)), env', c)
        | .inr rs => ∃ y5 y6 y7 y8 y9, bdB (bdE ls w N p ts x4 x5 x6 x7 x8 x9) c = some (.nx, bdE ls w N (p + 1 + m.toNat) (ts ++ [(a.toNat, rs)]) x4 y5 y6 y7 y8 y9, c)
      else ∃ env', bdB (bdE ls w N p ts x4 x5 x6 x7 x8 x9) c = some (.rt (.int (p + 1 : Nat)), env', c) := by
  have l3 : 3 ≤ lim := by decide
  have l2 : 2 ≤ lim := by decide
  have hcnt := hL.cnt
  have ep : ((p : Nat) : Int) + 1 = ((p + 1 : Nat) : Int) := by omega
  have q0 : asB (fOp oEq (fLenQ (fVarQ 3)) (fOp oIx (fVarQ 1) (fC (.int 1)))) (bdE ls w N p ts x4 x5 x6 x7 x8 x9) c = some (false, c) := by
    have e : fLenQ (fVarQ 3) (bdE ls w N p ts x4 x5 x6 x7 x8 x9) c = some (.int (ts.length : Nat), c) := lenQ_of (x := .lst (ts.map tabD)) rfl (by simp only [lenD, deref, List.length_map])
    have i1 : oIx (.lst [.int w, .int N]) (.int 1) c = some (.int N, c) := by simp only [oIx, ixD, deref, atI1]
    refine asB_of ((op_of e ((op_of rfl rfl).trans i1)).trans ?_)
    rw [oEq_int, decide_eq_false hN]
  have q1 : fIf (asB (fOp oLt (fVarQ 2) (fLenQ (fVarQ 0)))) (fCall m__law_headed (aCons (fOp oIx (fVarQ 0) (fVarQ 2)) (aCons (fLst (aCons (fC (.str "table")) (aCons (fC (.str "arity")) (aCons (fC (.str "rows")) aNil)))) aNil))) (fLst aNil) (bdE ls w N p ts x4 x5 x6 x7 x8 x9) c = some (hdL (hd (ls.getD p []) "table" "arity" "rows"), c) := by
    refine ifL (len_at ls.length p (len_lines ls rfl) rfl) (fun h => ?_) (fun h => ?_)
    · exact (call_of (aC ((op_of rfl rfl).trans (ix_lines ls p h c)) (aC (lst_of (aC rfl (aC rfl (aC rfl aN))) l3) aN))).trans (lhead_at ls hL p _ _ _ asc3.1 asc3.2.1 asc3.2.2 c h)
    · rw [getD_out h]
      exact lst_of aN (Nat.zero_le _)
  have t2 := hd_test (f := fVarQ 5) (env := bdE ls w N p ts x4 (some (.f (hdL (hd (ls.getD p []) "table" "arity" "rows")))) x6 x7 x8 x9) (c := c) _ rfl
  have r2 : fRet (fOp oAdd (fVarQ 2) (fC (.int 1))) (bdE ls w N p ts x4 (some (.f (hdL (hd (ls.getD p []) "table" "arity" "rows")))) x6 x7 x8 x9) c = some (.rt (.int (p + 1 : Nat)), bdE ls w N p ts x4 (some (.f (hdL (hd (ls.getD p []) "table" "arity" "rows")))) x6 x7 x8 x9, c) := fRet_of ((op_of rfl rfl).trans rfl)
  have head : ∀ {r : Fl} {env' : En}, (fSeq (fIte (fOr (asB (fOp oEq (fVarQ 5) (fLst aNil))) (fNot (asB (fChain oLe oLe (fC (.int 1)) (fOp oIx (fVarQ 5) (fC (.int 0))) (fC (.int 3))))))
  (fRet (fOp oAdd (fVarQ 2) (fC (.int 1))))
  fNx)
  (fSeq (fSetO 6 (fLst aNil))
  (fSeq (fFor (fRg2 (aCons (fOp oAdd (fVarQ 2) (fC (.int 1))) (aCons (fCall bMin (aCons (fOp oAdd (fOp oAdd (fVarQ 2) (fC (.int 1))) (fOp oIx (fVarQ 5) (fC (.int 1)))) (aCons (fOp oAdd (fLenQ (fVarQ 0)) (fC (.int 1))) aNil))) aNil))) (gSet 7)
  brB)
  (fSeq (fFz 6 (fMutO "list" uApp 3 (aCons (fLst (aCons (fOp oIx (fVarQ 5) (fC (.int 0))) (aCons (fVar 6) aNil))) aNil)))
  (fSet 2 (fOp oAdd (fOp oAdd (fVarQ 2) (fC (.int 1))) (fOp oIx (fVarQ 5) (fC (.int 1))))))))) (bdE ls w N p ts x4 (some (.f (hdL (hd (ls.getD p []) "table" "arity" "rows")))) x6 x7 x8 x9) c = some (r, env', c) → bdB (bdE ls w N p ts x4 x5 x6 x7 x8 x9) c = some (r, env', c) := fun h =>
    (fSeq_nx ((fIte_f (c1 := c) q0).trans rfl)).trans ((fSeq_nx (set_of q1)).trans h)
  cases eh : hd (ls.getD p []) "table" "arity" "rows" with
  | none =>
    rw [eh] at t2 r2 head
    exact ⟨_, head (fSeq_rt ((fIte_t t2).trans r2))⟩
  | some q =>
    obtain ⟨a, m⟩ := q
    have hin := in_of_hd eh
    obtain ⟨el, a0, a1, m0, m1⟩ := hd_ok eh
    rw [eh] at t2 r2 head
    by_cases ha : 1 ≤ a ∧ a ≤ 3
    · simp only [ha, and_self, if_true]
      have t3 : hdBad (some (a, m)) = false := by
        show (!(decide (1 ≤ a) && decide (a ≤ 3))) = false
        rw [decide_eq_true ha.1, decide_eq_true ha.2]; rfl
      rw [t3] at t2
      obtain ⟨an, rfl⟩ := Int.eq_ofNat_of_zero_le a0
      obtain ⟨mn, rfl⟩ := Int.eq_ofNat_of_zero_le m0
      simp only [Int.toNat_natCast]
      have cap := rowsP_cap (ls := ls) (w := w) (a := an) (by omega) mn (p + 1) [] (by omega)
      have i1 : oIx (.lst [.int (an : Nat), .int (mn : Nat)]) (.int 1) c = some (.int (mn : Nat), c) := by simp only [oIx, ixD, deref, atI1]
      have i0 : oIx (.lst [.int (an : Nat), .int (mn : Nat)]) (.int 0) c = some (.int (an : Nat), c) := by simp only [oIx, ixD, deref, atI0]
      obtain ⟨k1, k2⟩ := br_loop ls hL w N p ts x4 an (mn : Nat) hw (by omega) (by omega) c (min mn (ls.length + 1 - (p + 1))) (p + 1) [] x7 x8 x9 .nil (by simp)
      rw [← cap] at k1 k2
      have s1 : small62 ((p : Int) + 1) = true := sm62 (by omega) (by omega)
      have s2 : small62 (((p + 1 + min mn (ls.length + 1 - (p + 1)) : Nat)) : Int) = true := sm62 (by omega) (by omega)
      have s3 : (((p + 1 + min mn (ls.length + 1 - (p + 1)) : Nat) : Int) - ((p : Int) + 1)).toNat = min mn (ls.length + 1 - (p + 1)) := by omega
      have mn' : bMin [.int ((p : Int) + 1 + (mn : Nat)), .int ((ls.length : Nat) + 1)] c = some (.int ((p + 1 + min mn (ls.length + 1 - (p + 1)) : Nat) : Int), c) := by
        have : bMin [.int ((p : Int) + 1 + (mn : Nat)), .int ((ls.length : Nat) + 1)] c = some (.int (if ((ls.length : Nat) : Int) + 1 < (p : Int) + 1 + (mn : Nat) then ((ls.length : Nat) : Int) + 1 else (p : Int) + 1 + (mn : Nat)), c) := rfl
        rw [this, min_cap hin]
      have fr : fRg2 (aCons (fOp oAdd (fVarQ 2) (fC (.int 1))) (aCons (fCall bMin (aCons (fOp oAdd (fOp oAdd (fVarQ 2) (fC (.int 1))) (fOp oIx (fVarQ 5) (fC (.int 1)))) (aCons (fOp oAdd (fLenQ (fVarQ 0)) (fC (.int 1))) aNil))) aNil)) (brE ls w N p ts x4 an (mn : Nat) [] x7 x8 x9) c = some (rangeD ((p + 1 : Nat) : Int) (min mn (ls.length + 1 - (p + 1))), c) := by
        rw [← ep]
        exact fRg2_of (aC ((op_of rfl rfl).trans rfl) (aC ((call_of (aC ((op_of ((op_of rfl rfl).trans rfl) ((op_of rfl rfl).trans i1)).trans rfl) (aC ((op_of (len_lines ls rfl) rfl).trans rfl) aN))).trans mn') aN)) s1 s2 s3
      have f6 : fSetO 6 (fLst aNil) (bdE ls w N p ts x4 (some (.f (hdL (some ((an : Int), (mn : Int)))))) x6 x7 x8 x9) c = some (.nx, brE ls w N p ts x4 an (mn : Nat) [] x7 x8 x9, c) := setO_of (lst_of aN (Nat.zero_le _))
      cases er : rowsP ls w an mn (p + 1) [] with
      | inl e =>
        obtain ⟨env', k⟩ := k1 e er
        exact ⟨env', head ((fSeq_nx ((fIte_f (c1 := c) t2).trans rfl)).trans ((fSeq_nx f6).trans (fSeq_rt ((fFor_of fr).trans k))))⟩
      | inr rs =>
        obtain ⟨y7, y8, y9, k⟩ := k2 rs er
        have hl : (ts.map tabD).length < lim := by rw [List.length_map]; exact (show _ < 1000000 by omega)
        refine ⟨some (.f (.lst [.int (an : Nat), .int (mn : Nat)])), some (.f (.lst (rs.map tupI))), y7, y8, y9, head ?_⟩
        refine (fSeq_nx ((fIte_f (c1 := c) t2).trans rfl)).trans ?_
        refine (fSeq_nx f6).trans ?_
        refine (fSeq_nx ((fFor_of fr).trans k)).trans ?_
        have f7 : fFz 6 (fMutO "list" uApp 3 (aCons (fLst (aCons (fOp oIx (fVarQ 5) (fC (.int 0))) (aCons (fVar 6) aNil))) aNil)) (brE ls w N p ts x4 an (mn : Nat) rs y7 y8 y9) c = some (.nx, bdE ls w N p (ts ++ [(an, rs)]) x4 (some (.f (.lst [.int (an : Nat), .int (mn : Nat)]))) (some (.f (.lst (rs.map tupI)))) y7 y8 y9, c) := by
          show fMutO "list" uApp 3 (aCons (fLst (aCons (fOp oIx (fVarQ 5) (fC (.int 0))) (aCons (fVar 6) aNil))) aNil) (bdE ls w N p ts x4 (some (.f (.lst [.int (an : Nat), .int (mn : Nat)]))) (some (.f (.lst (rs.map tupI)))) y7 y8 y9) c = _
          refine (mutO_of (c1 := c) (d := .lst (ts.map tabD)) (ds := [.lst [.int (an : Nat), .lst (rs.map tupI)]]) rfl rfl (aC (lst_of (aC ((op_of rfl rfl).trans i0) (aC rfl aN)) l2) aN) (app_of hl)).trans ?_
          have e3 : (ts ++ [(an, rs)]).map tabD = ts.map tabD ++ [.lst [.int (an : Nat), .lst (rs.map tupI)]] := by rw [List.map_append]; rfl
          unfold bdE
          rw [e3]; rfl
        refine (fSeq_nx f7).trans ?_
        have e4 : ((p : Int) + 1 + (mn : Nat)) = ((p + 1 + mn : Nat) : Int) := by omega
        refine (set_of ((op_of ((op_of rfl rfl).trans rfl) ((op_of rfl rfl).trans i1)).trans rfl)).trans ?_
        rw [e4]; rfl
    · simp only [ha, if_false]
      have t3 : hdBad (some (a, m)) = true := by
        show (!(decide (1 ≤ a) && decide (a ≤ 3))) = true
        by_cases h : 1 ≤ a
        · rw [decide_eq_false (fun h' => ha ⟨h, h'⟩), Bool.and_false]; rfl
        · rw [decide_eq_false h]; rfl
      rw [t3] at t2
      exact ⟨_, head (fSeq_rt ((fIte_t t2).trans r2))⟩
theorem bd_loop (ls : List (List Str)) (hL : Lt ls) (w : Int) (hw : w ≤ 3) (N : Int) (c : Cs) : ∀ (t : Nat) (i : Int) (n p : Nat) (ts : List Tbl) (x4 x5 x6 x7 x8 x9 : Option Sl), p ≤ ls.length → ls.length + 1 ≤ t + p → ts.length < p + 1 → N = ((ts.length + n : Nat) : Int) →
    (∀ e, tabsP ls w n p ts = .inl e → ∃ env', forD (gSet 4) bdB (rangeD i t) (bdE ls w N p ts x4 x5 x6 x7 x8 x9) c = some (.rt (.int (e : Nat)), env', c)) ∧
    ∀ p' ts', tabsP ls w n p ts = .inr (p', ts') → ∃ y4 y5 y6 y7 y8 y9, forD (gSet 4) bdB (rangeD i t) (bdE ls w N p ts x4 x5 x6 x7 x8 x9) c = some (.nx, bdE ls w N p' ts' y4 y5 y6 y7 y8 y9, c)
  | 0, i, n, p, ts, x4, x5, x6, x7, x8, x9, hp, hb, ht, hN => by omega
  | t + 1, i, 0, p, ts, x4, x5, x6, x7, x8, x9, hp, hb, ht, hN => by
    rw [rangeD_succ]
    have g : gSet 4 (.int i) (bdE ls w N p ts x4 x5 x6 x7 x8 x9) = some (bdE ls w N p ts (some (.f (.int i))) x5 x6 x7 x8 x9) := rfl
    have q0 : asB (fOp oEq (fLenQ (fVarQ 3)) (fOp oIx (fVarQ 1) (fC (.int 1)))) (bdE ls w N p ts (some (.f (.int i))) x5 x6 x7 x8 x9) c = some (true, c) := by
      have e : fLenQ (fVarQ 3) (bdE ls w N p ts (some (.f (.int i))) x5 x6 x7 x8 x9) c = some (.int (ts.length : Nat), c) := lenQ_of (x := .lst (ts.map tabD)) rfl (by simp only [lenD, deref, List.length_map])
      have i1 : oIx (.lst [.int w, .int N]) (.int 1) c = some (.int N, c) := by simp only [oIx, ixD, deref, atI1]
      refine asB_of ((op_of e ((op_of rfl rfl).trans i1)).trans ?_)
      rw [oEq_int, decide_eq_true (by rw [hN]; rfl)]
    have st : bdB (bdE ls w N p ts (some (.f (.int i))) x5 x6 x7 x8 x9) c = some (.bk, bdE ls w N p ts (some (.f (.int i))) x5 x6 x7 x8 x9, c) := fSeq_bk ((fIte_t q0).trans rfl)
    rw [forD_bk g st]
    refine ⟨fun e h => (by simp [tabsP] at h), fun p' ts' h => ?_⟩
    simp only [tabsP, Sum.inr.injEq, Prod.mk.injEq] at h
    obtain ⟨rfl, rfl⟩ := h
    exact ⟨_, _, _, _, _, _, rfl⟩
  | t + 1, i, n + 1, p, ts, x4, x5, x6, x7, x8, x9, hp, hb, ht, hN => by
    rw [rangeD_succ]
    have g : gSet 4 (.int i) (bdE ls w N p ts x4 x5 x6 x7 x8 x9) = some (bdE ls w N p ts (some (.f (.int i))) x5 x6 x7 x8 x9) := rfl
    have st := bd_turn ls hL w N hw p ts hp ht (by rw [hN]; omega) (some (.f (.int i))) x5 x6 x7 x8 x9 c
    simp only [tabsP]
    cases eh : hd (ls.getD p []) "table" "arity" "rows" with
    | none =>
      rw [eh] at st
      obtain ⟨env', st⟩ := st
      refine ⟨fun e h => ?_, fun p' ts' h => by cases h⟩
      cases h
      exact ⟨env', forD_rt g st⟩
    | some q =>
      obtain ⟨a, m⟩ := q
      have hin := in_of_hd eh
      rw [eh] at st
      by_cases ha : 1 ≤ a ∧ a ≤ 3
      · simp only [ha, and_self, if_true] at st ⊢
        cases er : rowsP ls w a.toNat m.toNat (p + 1) [] with
        | inl e =>
          rw [er] at st
          obtain ⟨env', st⟩ := st
          refine ⟨fun e' h => ?_, fun p' ts' h => by cases h⟩
          cases h
          exact ⟨env', forD_rt g st⟩
        | inr rs =>
          rw [er] at st
          obtain ⟨y5, y6, y7, y8, y9, st⟩ := st
          obtain ⟨b1, b2, b3, b4, _⟩ := rowsP_spec (by omega) m.toNat (p + 1) [] rs er (by omega) .nil (by simp)
          rw [forD_step g st]
          exact bd_loop ls hL w hw N c t (i + 1) n (p + 1 + m.toNat) (ts ++ [(a.toNat, rs)]) _ _ _ _ _ _ b4 (by omega) (by simp; omega) (by rw [hN]; simp; omega)
      · simp only [ha, if_false] at st ⊢
        obtain ⟨env', st⟩ := st
        refine ⟨fun e h => ?_, fun p' ts' h => by cases h⟩
        cases h
        exact ⟨env', forD_rt g st⟩
def bookL (ls : List (List Str)) : D := match bookP ls with
  | .inl e => .int (e : Nat)
  | .inr (w, ts) => .lst [.int w, .lst (ts.map tabD)]
theorem s_book_due (ls : List (List Str)) (hL : Lt ls) (c : Cs) : m__law_book_due [linesD ls] c = some (bookL ls, c) := by
  have l3 : 3 ≤ lim := by decide
  have l2 : 2 ≤ lim := by decide
  have hcnt := hL.cnt
  have hpos : 0 < ls.length := List.length_pos_iff.mpr hL.ne
  have f0 : fSet 1 (fCall m__law_headed (aCons (fOp oIx (fVarQ 0) (fC (.int 0))) (aCons (fLst (aCons (fC (.str "book")) (aCons (fC (.str "width")) (aCons (fC (.str "tables")) aNil)))) aNil))) (startD N__law_book_due [linesD ls]) c = some (.nx, [some (.f (linesD ls)), some (.f (hdL (hd (ls.getD 0 []) "book" "width" "tables"))), none, none, none, none, none, none, none, none], c) :=
    set_of ((call_of (aC ((op_of rfl rfl).trans (ix_lines ls 0 hpos c)) (aC (lst_of (aC rfl (aC rfl (aC rfl aN))) l3) aN))).trans (lhead_at ls hL 0 _ _ _ ascB.1 ascB.2.1 ascB.2.2 c hpos))
  have t2 := hd_test (f := fVarQ 1) (env := [some (.f (linesD ls)), some (.f (hdL (hd (ls.getD 0 []) "book" "width" "tables"))), none, none, none, none, none, none, none, none]) (c := c) _ rfl
  unfold bookL
  unfold bookP
  cases eh : hd (ls.getD 0 []) "book" "width" "tables" with
  | none =>
    rw [eh] at f0 t2
    refine mOf_rt (env1 := [some (.f (linesD ls)), some (.f (hdL none)), none, none, none, none, none, none, none, none]) rfl ?_
    exact (fSeq_nx f0).trans (fSeq_rt ((fIte_t t2).trans rfl))
  | some q =>
    obtain ⟨w, n⟩ := q
    obtain ⟨el, w0, w1, n0, n1⟩ := hd_ok eh
    rw [eh] at f0 t2
    by_cases hw : 1 ≤ w ∧ w ≤ 3
    · have t3 : hdBad (some (w, n)) = false := by
        show (!(decide (1 ≤ w) && decide (w ≤ 3))) = false
        rw [decide_eq_true hw.1, decide_eq_true hw.2]; rfl
      rw [t3] at t2
      simp only [hw, and_self, if_true]
      obtain ⟨nn, rfl⟩ := Int.eq_ofNat_of_zero_le n0
      simp only [Int.toNat_natCast]
      obtain ⟨k1, k2⟩ := bd_loop ls hL w hw.2 (nn : Nat) c ls.length 0 nn 1 [] none none none none none none (by omega) (by omega) (by simp) (by simp)
      have f3 : fPar 2 3 (xF (fC (.int 1))) (xO (fLst aNil)) [some (.f (linesD ls)), some (.f (hdL (some (w, (nn : Int))))), none, none, none, none, none, none, none, none] c = some (.nx, bdE ls w (nn : Nat) 1 [] none none none none none none, c) := par_of (xF_of rfl) (xO_of (lst_of aN (Nat.zero_le _)))
      have s1 : small62 ((ls.length : Nat) : Int) = true := sm62 (by omega) (by omega)
      have s2 : ((ls.length : Nat) : Int).toNat = ls.length := by omega
      have fr : fRg1 (aCons (fLenQ (fVarQ 0)) aNil) (bdE ls w (nn : Nat) 1 [] none none none none none none) c = some (rangeD 0 ls.length, c) := fRg1_of (aC (len_lines ls rfl) aN) s1 s2
      have i1 : oIx (.lst [.int w, .int (nn : Nat)]) (.int 1) c = some (.int (nn : Nat), c) := by simp only [oIx, ixD, deref, atI1]
      have i0 : oIx (.lst [.int w, .int (nn : Nat)]) (.int 0) c = some (.int w, c) := by simp only [oIx, ixD, deref, atI0]
      cases et : tabsP ls w nn 1 [] with
      | inl e =>
        obtain ⟨env', k⟩ := k1 e et
        refine mOf_rt (env1 := env') rfl ?_
        refine (fSeq_nx f0).trans ?_
        refine (fSeq_nx ((fIte_f (c1 := c) t2).trans rfl)).trans ?_
        refine (fSeq_nx f3).trans ?_
        exact fSeq_rt ((fFor_of fr).trans k)
      | inr pt =>
        obtain ⟨p, ts⟩ := pt
        obtain ⟨y4, y5, y6, y7, y8, y9, k⟩ := k2 p ts et
        obtain ⟨b1, b2, b3, b4⟩ := tabsP_spec hw.2 _ _ _ _ _ et (by omega) (by simp)
        simp only [List.length_nil, Nat.zero_add] at b2
        have q5 : fOr (asB (fOp oLt (fLenQ (fVarQ 3)) (fOp oIx (fVarQ 1) (fC (.int 1))))) (asB (fOp oLt (fVarQ 2) (fLenQ (fVarQ 0)))) (bdE ls w (nn : Nat) p ts y4 y5 y6 y7 y8 y9) c = some (decide (p < ls.length), c) := by
          have e : fLenQ (fVarQ 3) (bdE ls w (nn : Nat) p ts y4 y5 y6 y7 y8 y9) c = some (.int (ts.length : Nat), c) := lenQ_of (x := .lst (ts.map tabD)) rfl (by simp only [lenD, deref, List.length_map])
          refine (or_f (c1 := c) (asB_of ((op_of e ((op_of rfl rfl).trans i1)).trans ?_))).trans (len_at ls.length p (len_lines ls rfl) rfl)
          simp only [oLt]
          rw [decide_eq_false (by omega)]
        by_cases hp : p = ls.length
        · rw [decide_eq_false (by omega)] at q5
          simp only [hp, if_true]
          refine mOf_rt (env1 := [some (.f (linesD ls)), some (.f (.lst [.int w, .int (nn : Nat)])), some (.f (.int p)), some (.f (.lst (ts.map tabD))), y4, y5, y6, y7, y8, y9]) rfl ?_
          refine (fSeq_nx f0).trans ?_
          refine (fSeq_nx ((fIte_f (c1 := c) t2).trans rfl)).trans ?_
          refine (fSeq_nx f3).trans ?_
          refine (fSeq_nx ((fFor_of fr).trans k)).trans ?_
          refine (fSeq_nx ((fIte_f (c1 := c) q5).trans rfl)).trans ?_
          show fRet _ [some (.f (linesD ls)), some (.f (.lst [.int w, .int (nn : Nat)])), some (.f (.int p)), some (.f (.lst (ts.map tabD))), y4, y5, y6, y7, y8, y9] c = _
          exact fRet_of (lst_of (aC ((op_of rfl rfl).trans i0) (aC rfl aN)) l2)
        · rw [decide_eq_true (by omega)] at q5
          simp only [hp, if_false]
          refine mOf_rt (env1 := bdE ls w (nn : Nat) p ts y4 y5 y6 y7 y8 y9) rfl ?_
          refine (fSeq_nx f0).trans ?_
          refine (fSeq_nx ((fIte_f (c1 := c) t2).trans rfl)).trans ?_
          refine (fSeq_nx f3).trans ?_
          refine (fSeq_nx ((fFor_of fr).trans k)).trans ?_
          exact fSeq_rt ((fIte_t (c1 := c) q5).trans (fRet_of ((op_of rfl rfl).trans rfl)))
    · have t3 : hdBad (some (w, n)) = true := by
        show (!(decide (1 ≤ w) && decide (w ≤ 3))) = true
        by_cases h : 1 ≤ w
        · rw [decide_eq_false (fun h' => hw ⟨h, h'⟩), Bool.and_false]; rfl
        · rw [decide_eq_false h]; rfl
      rw [t3] at t2
      simp only [hw, if_false]
      refine mOf_rt (env1 := [some (.f (linesD ls)), some (.f (hdL (some (w, n)))), none, none, none, none, none, none, none, none]) rfl ?_
      exact (fSeq_nx f0).trans (fSeq_rt ((fIte_t t2).trans rfl))
end M58
set_option Elab.async false
set_option linter.all false
set_option maxRecDepth 100000
set_option maxHeartbeats 0
namespace M58
open PySem PySem.Spec PyProof.Rows L2 Pd L58 Ma TL
def pdE (ls : List (List Str)) (ts : List Tbl) (P N : Int) (us : List Use) (x4 x5 x6 x7 x8 : Option Sl) : En := [some (.f (linesD ls)), some (.f (.lst (ts.map tabD))), some (.f (.lst [.int P, .int N])), some (.o (.lst (us.map useD))), x4, x5, x6, x7, x8]
abbrev pdB : FS := (fSeq (fSet 5 (fIf (asB (fOp oLt (fVarQ 4) (fLenQ (fVarQ 0)))) (fMd "str" mSplit (fOp oIx (fVarQ 0) (fVarQ 4)) (aCons (fC (.str " ")) aNil)) (fLst aNil)))
  (fSeq (fIte (fOr (asB (fOp oLt (fLenQ (fVarQ 5)) (fC (.int 4)))) (asB (fOp oNe (fLst (aCons (fOp oIx (fVarQ 5) (fC (.int 0))) (aCons (fOp oIx (fVarQ 5) (fC (.int 2))) aNil))) (fLst (aCons (fC (.str "row")) (aCons (fC (.str "at")) aNil))))))
  (fRet (fOp oAdd (fVarQ 4) (fC (.int 1))))
  fNx)
  (fSeq (fPar 6 7 (xF (fCall m__law_number (aCons (fOp oIx (fVarQ 5) (fC (.int 1))) aNil))) (xF (fCall bTuple (aCons (fComp (fIt (fSl (fVarQ 5) (oSome (fC (.int 3))) oNone)) (gSet 8) fYes (fCall m__law_number (aCons (fVar 8) aNil)) [8]) aNil))))
  (fSeq (fIte (fOr (fNot (asB (fChain oLe oLt (fC (.int 0)) (fVarQ 6) (fLenQ (fVarQ 1))))) (fNot (asB (fCall m__law_is_row (aCons (fVar 7) (aCons (fOp oIx (fVarQ 2) (fC (.int 0))) (aCons (fOp oIx (fOp oIx (fVarQ 1) (fVarQ 6)) (fC (.int 0))) aNil)))))))
  (fRet (fOp oAdd (fVarQ 4) (fC (.int 1))))
  fNx)
  (fMutO "list" uApp 3 (aCons (fTup (aCons (fVar 6) (aCons (fVar 7) aNil))) aNil))))))
theorem useAt_short {w : Int} {ts : List Tbl} (hg : ∀ t ∈ ts, GT w t.1 t.2) {P : Int} {l : List Str} (h : l.length < 4) : useAt ts P l = none := by
  match l, h with
  | [], _ => rfl
  | [a], _ => rfl
  | [a, b], _ => rfl
  | [a, b, d], _ =>
    rw [useAt_cons]
    split
    · unfold useO
      split
      · split
        · rename_i t et
          rw [okRow_nil P t.1 (hg t (List.mem_of_getElem? et)).a1]; rfl
        · rfl
      · rfl
    · rfl
theorem four {l : List Str} (h : ¬ l.length < 4) : ∃ a x d y rest, l = a :: x :: d :: y :: rest := by
  match l, h with
  | a :: x :: d :: y :: rest, _ => exact ⟨a, x, d, y, rest, rfl⟩
  | [], h => exact absurd (show 0 < 4 by decide) h
  | [a], h => exact absurd (show 1 < 4 by decide) h
  | [a, b], h => exact absurd (show 2 < 4 by decide) h
  | [a, b, d], h => exact absurd (show 3 < 4 by decide) h
theorem chain_lt {f g : FE} {env : En} {c : Cs} {v : Int} {n : Nat} (h : f env c = some (.int v, c)) (hg : g env c = some (.int (n : Nat), c)) : fChain oLe oLt (fC (.int 0)) f g env c = some (.bl (decide (0 ≤ v) && decide (v < (n : Nat))), c) := by
  by_cases h1 : 0 ≤ v
  · simp only [fChain, fC, h, hg, oLe, oLt, decide_eq_true h1, Bool.true_and]
  · simp only [fChain, fC, h, oLe, decide_eq_false h1, Bool.false_and]
theorem pd_row (w : Int) (ts : List Tbl) (hts : ts.length ≤ 1000) (hg : ∀ t ∈ ts, GT w t.1 t.2) (ls : List (List Str)) (hL : Lt ls) (P N : Int) (us : List Use) (hu : us.length ≤ 500000) (p : Nat) (x5 x6 x7 x8 : Option Sl) (c : Cs) :
    ∃ y5 y6 y7 y8, pdB (pdE ls ts P N us (some (.f (.int p))) x5 x6 x7 x8) c = match useAt ts P (ls.getD p []) with
      | some u => some (.nx, pdE ls ts P N (us ++ [u]) (some (.f (.int p))) y5 y6 y7 y8, c)
      | none => some (.rt (.int ((p : Int) + 1)), pdE ls ts P N us (some (.f (.int p))) y5 y6 y7 y8, c) := by
  have wl := hL.wlD p
  have l2 : 2 ≤ lim := by decide
  have q1 : fIf (asB (fOp oLt (fVarQ 4) (fLenQ (fVarQ 0)))) (fMd "str" mSplit (fOp oIx (fVarQ 0) (fVarQ 4)) (aCons (fC (.str (Str.ofString " "))) aNil)) (fLst aNil) (pdE ls ts P N us (some (.f (.int p))) x5 x6 x7 x8) c = some (wordsD (ls.getD p []), c) := by
    refine ifL (len_at ls.length p (len_lines ls rfl) rfl) (fun h => ?_) (fun h => ?_)
    · exact (md_of ((op_of rfl rfl).trans (ix_lines ls p h c)) rfl (aC rfl aN)).trans (split_line ls hL p h c)
    · rw [getD_out h]
      exact lst_of aN (Nat.zero_le _)
  have a1 : ∀ {r : Fl} {env' : En}, (fSeq (fIte (fOr (asB (fOp oLt (fLenQ (fVarQ 5)) (fC (.int 4)))) (asB (fOp oNe (fLst (aCons (fOp oIx (fVarQ 5) (fC (.int 0))) (aCons (fOp oIx (fVarQ 5) (fC (.int 2))) aNil))) (fLst (aCons (fC (.str "row")) (aCons (fC (.str "at")) aNil))))))
  (fRet (fOp oAdd (fVarQ 4) (fC (.int 1))))
  fNx)
  (fSeq (fPar 6 7 (xF (fCall m__law_number (aCons (fOp oIx (fVarQ 5) (fC (.int 1))) aNil))) (xF (fCall bTuple (aCons (fComp (fIt (fSl (fVarQ 5) (oSome (fC (.int 3))) oNone)) (gSet 8) fYes (fCall m__law_number (aCons (fVar 8) aNil)) [8]) aNil))))
  (fSeq (fIte (fOr (fNot (asB (fChain oLe oLt (fC (.int 0)) (fVarQ 6) (fLenQ (fVarQ 1))))) (fNot (asB (fCall m__law_is_row (aCons (fVar 7) (aCons (fOp oIx (fVarQ 2) (fC (.int 0))) (aCons (fOp oIx (fOp oIx (fVarQ 1) (fVarQ 6)) (fC (.int 0))) aNil)))))))
  (fRet (fOp oAdd (fVarQ 4) (fC (.int 1))))
  fNx)
  (fMutO "list" uApp 3 (aCons (fTup (aCons (fVar 6) (aCons (fVar 7) aNil))) aNil))))) (pdE ls ts P N us (some (.f (.int p))) (some (.f (wordsD (ls.getD p [])))) x6 x7 x8) c = some (r, env', c) → pdB (pdE ls ts P N us (some (.f (.int p))) x5 x6 x7 x8) c = some (r, env', c) := fun h =>
    (fSeq_nx (set_of q1)).trans h
  generalize ls.getD p [] = l at wl q1 a1 ⊢
  have q2 : asB (fOp oLt (fLenQ (fVarQ 5)) (fC (.int 4))) (pdE ls ts P N us (some (.f (.int p))) (some (.f (wordsD l))) x6 x7 x8) c = some (decide (l.length < 4), c) := by
    have e : fLenQ (fVarQ 5) (pdE ls ts P N us (some (.f (.int p))) (some (.f (wordsD l))) x6 x7 x8) c = some (.int (l.length : Nat), c) := lenQ_of (x := wordsD l) rfl (by simp only [lenD, deref, wordsD, List.length_map])
    refine asB_of ((op_of e rfl).trans ?_)
    simp only [oLt]
    by_cases h : l.length < 4
    · rw [decide_eq_true h, decide_eq_true (by omega)]
    · rw [decide_eq_false h, decide_eq_false (by omega)]
  have rs : ∀ y6 y7, fRet (fOp oAdd (fVarQ 4) (fC (.int 1))) (pdE ls ts P N us (some (.f (.int p))) (some (.f (wordsD l))) y6 y7 x8) c = some (.rt (.int ((p : Int) + 1)), pdE ls ts P N us (some (.f (.int p))) (some (.f (wordsD l))) y6 y7 x8, c) := fun y6 y7 => fRet_of ((op_of rfl rfl).trans rfl)
  by_cases h4 : l.length < 4
  · rw [useAt_short hg h4]
    rw [decide_eq_true h4] at q2
    exact ⟨_, _, _, _, a1 (fSeq_rt ((fIte_t (c1 := c) (or_t q2)).trans (rs _ _)))⟩
  · rw [decide_eq_false h4] at q2
    obtain ⟨a, x, d, y, rest, rfl⟩ := four h4
    have wa := wl.w a (by simp)
    have wx := wl.w x (by simp)
    have wd := wl.w d (by simp)
    have wr : Wl (y :: rest) := ⟨by have := wl.n; simp at this ⊢; omega, fun s hs => wl.w s (by
      rcases List.mem_cons.mp hs with rfl | hs
      · simp
      · simp [hs])⟩
    have i0 : oIx (wordsD (a :: x :: d :: y :: rest)) (.int 0) c = some (.str a, c) := by simp only [wordsD, List.map_cons, oIx, ixD, deref, atI0]
    have i1 : oIx (wordsD (a :: x :: d :: y :: rest)) (.int 1) c = some (.str x, c) := by simp only [wordsD, List.map_cons, oIx, ixD, deref, atI1]
    have i2 : oIx (wordsD (a :: x :: d :: y :: rest)) (.int 2) c = some (.str d, c) := by simp only [wordsD, List.map_cons, oIx, ixD, deref, atI2]
    have n3 : oNe (.lst [.str a, .str d]) (.lst [.str "row", .str "at"]) c = some (.bl (!decide ([a, d] = ([("row" : Str), ("at" : Str)] : List Str))), c) :=
      oNe_strs (xs := [a, d]) (ys := [("row" : Str), ("at" : Str)]) (by simp; exact ⟨wa.1, wd.1⟩) (by simp; exact ⟨ascR.1, ascR.2.1⟩) c
    have q3 : asB (fOp oNe (fLst (aCons (fOp oIx (fVarQ 5) (fC (.int 0))) (aCons (fOp oIx (fVarQ 5) (fC (.int 2))) aNil))) (fLst (aCons (fC (.str "row")) (aCons (fC (.str "at")) aNil)))) (pdE ls ts P N us (some (.f (.int p))) (some (.f (wordsD (a :: x :: d :: y :: rest)))) x6 x7 x8) c = some (!decide ([a, d] = ([("row" : Str), ("at" : Str)] : List Str)), c) :=
      asB_of ((op_of (lst_of (aC ((op_of rfl rfl).trans i0) (aC ((op_of rfl rfl).trans i2) aN)) l2) (lst_of (aC rfl (aC rfl aN)) l2)).trans n3)
    rw [useAt_cons]
    by_cases hw : [a, d] = ([("row" : Str), ("at" : Str)] : List Str)
    · have hw' : a = "row" ∧ d = "at" := by simpa using hw
      rw [if_pos hw']
      rw [decide_eq_true hw] at q3
      have m1 := s_law_number x wx.1 wx.2 c
      have c3 : Pd.cutD ((a :: x :: d :: y :: rest).map D.str) (some 3) none = (y :: rest).map D.str := by
        have := cut_from ((a :: x :: d :: y :: rest).map D.str) 3
        rw [← List.map_drop] at this; exact this
      have l1 : ((y :: rest).map fun x => D.int (numL (wnum x))).length ≤ lim := by rw [List.length_map]; exact lim_le (by have := wr.n; omega)
      have q4 : fPar 6 7 (xF (fCall m__law_number (aCons (fOp oIx (fVarQ 5) (fC (.int 1))) aNil))) (xF (fCall bTuple (aCons (fComp (fIt (fSl (fVarQ 5) (oSome (fC (.int 3))) oNone)) (gSet 8) fYes (fCall m__law_number (aCons (fVar 8) aNil)) [8]) aNil))) (pdE ls ts P N us (some (.f (.int p))) (some (.f (wordsD (a :: x :: d :: y :: rest)))) x6 x7 x8) c = some (.nx, pdE ls ts P N us (some (.f (.int p))) (some (.f (wordsD (a :: x :: d :: y :: rest)))) (some (.f (.int (numL (wnum x))))) (some (.f (tupI (rowV (y :: rest))))) x8, c) := by
        refine par_of (xF_of ((call_of (aC ((op_of rfl rfl).trans i1) aN)).trans m1)) (xF_of ((call_of (aC (comp_of (ds := (y :: rest).map D.str) (c1 := c) ?_ (numsL _ wr _ c 8 (fun d => rfl)) l1) aN)).trans ?_))
        · refine it_lst ((sl_lst (ds := (a :: x :: d :: y :: rest).map D.str) rfl rfl rfl).trans ?_)
          rw [c3]
        · rw [← tupV]; rfl
      have a2 : ∀ {r : Fl} {env' : En}, (fSeq (fIte (fOr (fNot (asB (fChain oLe oLt (fC (.int 0)) (fVarQ 6) (fLenQ (fVarQ 1))))) (fNot (asB (fCall m__law_is_row (aCons (fVar 7) (aCons (fOp oIx (fVarQ 2) (fC (.int 0))) (aCons (fOp oIx (fOp oIx (fVarQ 1) (fVarQ 6)) (fC (.int 0))) aNil)))))))
  (fRet (fOp oAdd (fVarQ 4) (fC (.int 1))))
  fNx)
  (fMutO "list" uApp 3 (aCons (fTup (aCons (fVar 6) (aCons (fVar 7) aNil))) aNil))) (pdE ls ts P N us (some (.f (.int p))) (some (.f (wordsD (a :: x :: d :: y :: rest)))) (some (.f (.int (numL (wnum x))))) (some (.f (tupI (rowV (y :: rest))))) x8) c = some (r, env', c) → pdB (pdE ls ts P N us (some (.f (.int p))) x5 x6 x7 x8) c = some (r, env', c) := fun h =>
        a1 ((fSeq_nx ((fIte_f (c1 := c) ((or_f q2).trans q3)).trans rfl)).trans ((fSeq_nx q4).trans h))
      have el : fLenQ (fVarQ 1) (pdE ls ts P N us (some (.f (.int p))) (some (.f (wordsD (a :: x :: d :: y :: rest)))) (some (.f (.int (numL (wnum x))))) (some (.f (tupI (rowV (y :: rest))))) x8) c = some (.int (ts.length : Nat), c) := lenQ_of (x := .lst (ts.map tabD)) rfl (by simp only [lenD, deref, List.length_map])
      have q5 : fNot (asB (fChain oLe oLt (fC (.int 0)) (fVarQ 6) (fLenQ (fVarQ 1)))) (pdE ls ts P N us (some (.f (.int p))) (some (.f (wordsD (a :: x :: d :: y :: rest)))) (some (.f (.int (numL (wnum x))))) (some (.f (tupI (rowV (y :: rest))))) x8) c = some (!(decide (0 ≤ numL (wnum x)) && decide (numL (wnum x) < (ts.length : Nat))), c) := not_of (asB_of (chain_lt rfl el))
      have bad1 : useO ts P x (y :: rest) = none → (!(decide (0 ≤ numL (wnum x)) && decide (numL (wnum x) < (ts.length : Nat)))) = true → ∃ y5 y6 y7 y8, pdB (pdE ls ts P N us (some (.f (.int p))) x5 x6 x7 x8) c = match useO ts P x (y :: rest) with
          | some u => some (.nx, pdE ls ts P N (us ++ [u]) (some (.f (.int p))) y5 y6 y7 y8, c)
          | none => some (.rt (.int ((p : Int) + 1)), pdE ls ts P N us (some (.f (.int p))) y5 y6 y7 y8, c) := fun e hb => by
        rw [hb] at q5
        rw [e]
        exact ⟨_, _, _, _, a2 (fSeq_rt ((fIte_t (c1 := c) (or_t q5)).trans (rs _ _)))⟩
      cases ex : wnum x with
      | none =>
        refine bad1 (by unfold useO; rw [ex]) ?_
        rw [ex]; rfl
      | some i =>
        obtain ⟨i0', i1', _⟩ := wnum_ok ex
        have eN : numL (some i) = i := rfl
        by_cases hn : i.toNat < ts.length
        · obtain ⟨t, ht⟩ : ∃ t, ts[i.toNat]? = some t := ⟨ts[i.toNat], List.getElem?_eq_getElem hn⟩
          have ei : ((i.toNat : Nat) : Int) = i := by omega
          have eU : useO ts P x (y :: rest) = if okRow P t.1 (y :: rest) = true then some (i.toNat, rowV (y :: rest)) else none := by
            unfold useO; rw [ex]; simp only [ht]
          rw [ex, eN] at q5 a2
          rw [decide_eq_true i0', decide_eq_true (show i < ((ts.length : Nat) : Int) by omega)] at q5
          have j0 : oIx (.lst (ts.map tabD)) (.int i) c = some (tabD t, c) := by
            rw [← ei]
            simp only [oIx, ixD, deref, atIn, List.getElem?_map, ht, Option.map_some]
          have j1 : oIx (tabD t) (.int 0) c = some (.int t.1, c) := by simp only [tabD, gD, oIx, ixD, deref, atI0]
          have j2 : oIx (.lst [.int P, .int N]) (.int 0) c = some (.int P, c) := by simp only [oIx, ixD, deref, atI0]
          have q6 := s_is_rowL (y :: rest) P t.1 wr.n c
          have q7 : fNot (asB (fCall m__law_is_row (aCons (fVar 7) (aCons (fOp oIx (fVarQ 2) (fC (.int 0))) (aCons (fOp oIx (fOp oIx (fVarQ 1) (fVarQ 6)) (fC (.int 0))) aNil))))) (pdE ls ts P N us (some (.f (.int p))) (some (.f (wordsD (a :: x :: d :: y :: rest)))) (some (.f (.int i))) (some (.f (tupI (rowV (y :: rest))))) x8) c = some (!okRow P t.1 (y :: rest), c) :=
            not_of (asB_of ((call_of (aC rfl (aC ((op_of rfl rfl).trans j2) (aC ((op_of ((op_of rfl rfl).trans j0) rfl).trans j1) aN)))).trans q6))
          rw [eU]
          cases ho : okRow P t.1 (y :: rest) with
          | false =>
            rw [ho] at q7
            exact ⟨_, _, _, _, a2 (fSeq_rt ((fIte_t (c1 := c) ((or_f q5).trans q7)).trans (rs _ _)))⟩
          | true =>
            rw [ho] at q7
            rw [if_pos rfl]
            have hl : (us.map useD).length < lim := by rw [List.length_map]; exact (show _ < 1000000 by omega)
            refine ⟨some (.f (wordsD (a :: x :: d :: y :: rest))), some (.f (.int i)), some (.f (tupI (rowV (y :: rest)))), x8, a2 ?_⟩
            refine (fSeq_nx ((fIte_f (c1 := c) ((or_f q5).trans q7)).trans rfl)).trans ?_
            refine (mutO_of (c1 := c) (d := .lst (us.map useD)) (ds := [.tup [.int i, tupI (rowV (y :: rest))]]) rfl rfl (aC (tup_of (aC rfl (aC rfl aN)) l2) aN) (app_of hl)).trans ?_
            have e3 : (us ++ [(i.toNat, rowV (y :: rest))]).map useD = us.map useD ++ [.tup [.int i, tupI (rowV (y :: rest))]] := by
              rw [List.map_append]
              show _ ++ [D.tup [.int ((i.toNat : Nat) : Int), _]] = _
              rw [ei]
            show _ = some (Fl.nx, pdE ls ts P N (us ++ [(i.toNat, rowV (y :: rest))]) _ _ _ _ _, c)
            unfold pdE
            rw [e3]; rfl
        · refine bad1 (by unfold useO; rw [ex]; simp only; rw [List.getElem?_eq_none (by omega)]) ?_
          rw [ex, eN, decide_eq_false (show ¬ i < ((ts.length : Nat) : Int) by omega), Bool.and_false]; rfl
    · have hw' : ¬ (a = "row" ∧ d = "at") := by
        intro h; exact hw (by rw [h.1, h.2])
      rw [if_neg hw']
      rw [decide_eq_false hw] at q3
      exact ⟨_, _, _, _, a1 (fSeq_rt ((fIte_t (c1 := c) ((or_f q2).trans q3)).trans (rs _ _)))⟩
theorem pd_loop (w : Int) (ts : List Tbl) (hts : ts.length ≤ 1000) (hg : ∀ t ∈ ts, GT w t.1 t.2) (ls : List (List Str)) (hL : Lt ls) (P N : Int) (c : Cs) : ∀ (n p : Nat) (us : List Use) (x4 x5 x6 x7 x8 : Option Sl), p ≤ ls.length → us.length < p + 1 →
    (∀ e, usesP ls ts P n p us = .inl e → ∃ env', forD (gSet 4) pdB (rangeD (p : Nat) n) (pdE ls ts P N us x4 x5 x6 x7 x8) c = some (.rt (.int (e : Nat)), env', c)) ∧
    ∀ us', usesP ls ts P n p us = .inr us' → ∃ y4 y5 y6 y7 y8, forD (gSet 4) pdB (rangeD (p : Nat) n) (pdE ls ts P N us x4 x5 x6 x7 x8) c = some (.nx, pdE ls ts P N us' y4 y5 y6 y7 y8, c)
  | 0, p, us, x4, x5, x6, x7, x8, hp, hu => by
    rw [rangeD_zero]
    refine ⟨fun e h => (by simp [usesP] at h), fun us' h => ?_⟩
    simp only [usesP, Sum.inr.injEq] at h
    subst h
    exact ⟨_, _, _, _, _, rfl⟩
  | n + 1, p, us, x4, x5, x6, x7, x8, hp, hu => by
    rw [rangeD_succ]
    have hcnt := hL.cnt
    obtain ⟨y5, y6, y7, y8, st⟩ := pd_row w ts hts hg ls hL P N us (by omega) p x5 x6 x7 x8 c
    have g : gSet 4 (.int (p : Nat)) (pdE ls ts P N us x4 x5 x6 x7 x8) = some (pdE ls ts P N us (some (.f (.int p))) x5 x6 x7 x8) := rfl
    have e1 : ((p : Nat) : Int) + 1 = ((p + 1 : Nat) : Int) := by omega
    simp only [usesP]
    cases eu : useAt ts P (ls.getD p []) with
    | none =>
      rw [eu] at st
      refine ⟨fun e h => ?_, fun us' h => by cases h⟩
      cases h
      rw [forD_rt g st]
      exact ⟨_, by rw [e1]⟩
    | some u =>
      rw [eu] at st
      have hin := in_of_use eu
      rw [forD_step g st, e1]
      exact pd_loop w ts hts hg ls hL P N c n (p + 1) (us ++ [u]) _ _ _ _ _ (by omega) (by simp; omega)
def puzL (ls : List (List Str)) (ts : List Tbl) : D := match puzzleP ls ts with
  | .inl e => .int (e : Nat)
  | .inr (P, us) => .lst [.int P, .lst (us.map useD)]
theorem s_puzzle_due (w : Int) (ts : List Tbl) (hts : ts.length ≤ 1000) (hg : ∀ t ∈ ts, GT w t.1 t.2) (ls : List (List Str)) (hL : Lt ls) (c : Cs) : m__law_puzzle_due [linesD ls, .lst (ts.map tabD)] c = some (puzL ls ts, c) := by
  have l3 : 3 ≤ lim := by decide
  have l2 : 2 ≤ lim := by decide
  have hcnt := hL.cnt
  have hpos : 0 < ls.length := List.length_pos_iff.mpr hL.ne
  have f0 : fPar 2 3 (xF (fCall m__law_headed (aCons (fOp oIx (fVarQ 0) (fC (.int 0))) (aCons (fLst (aCons (fC (.str "puzzle")) (aCons (fC (.str "places")) (aCons (fC (.str "rows")) aNil)))) aNil)))) (xO (fLst aNil)) (startD N__law_puzzle_due [linesD ls, .lst (ts.map tabD)]) c = some (.nx, [some (.f (linesD ls)), some (.f (.lst (ts.map tabD))), some (.f (hdL (hd (ls.getD 0 []) "puzzle" "places" "rows"))), some (.o (.lst [])), none, none, none, none, none], c) :=
    par_of (xF_of ((call_of (aC ((op_of rfl rfl).trans (ix_lines ls 0 hpos c)) (aC (lst_of (aC rfl (aC rfl (aC rfl aN))) l3) aN))).trans (lhead_at ls hL 0 _ _ _ ascR.2.2.1 ascR.2.2.2.1 ascR.2.2.2.2 c hpos))) (xO_of (lst_of aN (Nat.zero_le _)))
  have t1 : ∀ q, hd (ls.getD 0 []) "puzzle" "places" "rows" = q → asB (fOp oEq (fVarQ 2) (fLst aNil)) [some (.f (linesD ls)), some (.f (.lst (ts.map tabD))), some (.f (hdL q)), some (.o (.lst [])), none, none, none, none, none] c = some (q.isNone, c) := fun q _ => asB_of ((op_of rfl (lst_of aN (Nat.zero_le _))).trans (hdL_nil q c))
  unfold puzL
  unfold puzzleP
  cases eh : hd (ls.getD 0 []) "puzzle" "places" "rows" with
  | none =>
    have t1 := t1 none eh
    rw [eh] at f0
    refine mOf_rt (env1 := [some (.f (linesD ls)), some (.f (.lst (ts.map tabD))), some (.f (hdL none)), some (.o (.lst [])), none, none, none, none, none]) rfl ?_
    exact (fSeq_nx f0).trans (fSeq_rt ((fIte_t (or_t t1)).trans rfl))
  | some q =>
    obtain ⟨P, n⟩ := q
    obtain ⟨el, w0, w1, n0, n1⟩ := hd_ok eh
    have t1 := t1 _ eh
    rw [eh] at f0
    have j0 : oIx (.lst [.int P, .int n]) (.int 0) c = some (.int P, c) := by simp only [oIx, ixD, deref, atI0]
    have j1 : oIx (.lst [.int P, .int n]) (.int 1) c = some (.int n, c) := by simp only [oIx, ixD, deref, atI1]
    have t2 : asB (fOp oGt (fOp oIx (fVarQ 2) (fC (.int 0))) (fC (.int 60))) [some (.f (linesD ls)), some (.f (.lst (ts.map tabD))), some (.f (hdL (some (P, n)))), some (.o (.lst [])), none, none, none, none, none] c = some (decide (60 < P), c) := asB_of ((op_of ((op_of rfl rfl).trans j0) rfl).trans rfl)
    by_cases hP : P ≤ 60
    · rw [decide_eq_false (by omega)] at t2
      simp only [hP, if_true]
      obtain ⟨nn, rfl⟩ := Int.eq_ofNat_of_zero_le n0
      simp only [Int.toNat_natCast]
      have cap := usesP_cap (ls := ls) (ts := ts) (P := P) nn 1 [] (by omega)
      have ec : ls.length + 1 - 1 = ls.length := by omega
      rw [ec] at cap
      obtain ⟨k1, k2⟩ := pd_loop w ts hts hg ls hL P (nn : Nat) c (min nn ls.length) 1 [] none none none none none (by omega) (by simp)
      rw [← cap] at k1 k2
      have s0 : small62 1 = true := by decide
      have s1 : small62 (((min nn ls.length : Nat) : Int) + 1) = true := sm62 (by omega) (by omega)
      have s2 : (((min nn ls.length : Nat) : Int) + 1 - 1).toNat = min nn ls.length := by omega
      have mn : ∀ a b : Nat, bMin [.int (a : Nat), .int (b : Nat)] c = some (.int ((min a b : Nat) : Int), c) := fun a b => by
        have : bMin [.int (a : Nat), .int (b : Nat)] c = some (.int (if ((b : Nat) : Int) < (a : Nat) then ((b : Nat) : Int) else (a : Nat)), c) := rfl
        rw [this]
        by_cases h : ((b : Nat) : Int) < (a : Nat)
        · rw [if_pos h, Nat.min_eq_right (by omega)]
        · rw [if_neg h, Nat.min_eq_left (by omega)]
      have fr : fRg2 (aCons (fC (.int 1)) (aCons (fOp oAdd (fCall bMin (aCons (fOp oIx (fVarQ 2) (fC (.int 1))) (aCons (fLenQ (fVarQ 0)) aNil))) (fC (.int 1))) aNil)) (pdE ls ts P (nn : Nat) [] none none none none none) c = some (rangeD ((1 : Nat) : Int) (min nn ls.length), c) :=
        fRg2_of (i := 1) (aC rfl (aC ((op_of ((call_of (aC ((op_of rfl rfl).trans j1) (aC (len_lines ls rfl) aN))).trans (mn nn ls.length)) rfl).trans rfl) aN)) s0 s1 s2
      cases et : usesP ls ts P nn 1 [] with
      | inl e =>
        obtain ⟨env', k⟩ := k1 e et
        refine mOf_rt (env1 := env') rfl ?_
        refine (fSeq_nx f0).trans ?_
        refine (fSeq_nx ((fIte_f (c1 := c) ((or_f t1).trans t2)).trans rfl)).trans ?_
        exact fSeq_rt ((fFor_of fr).trans k)
      | inr us =>
        obtain ⟨y4, y5, y6, y7, y8, k⟩ := k2 us et
        obtain ⟨b1, b2, b3, b4⟩ := usesP_spec _ _ _ _ et (by omega) (by simp)
        have F := fun (y4 y5 y6 y7 y8 : Option Sl) => (show fzE 3 (pdE ls ts P (nn : Nat) us y4 y5 y6 y7 y8) = [some (.f (linesD ls)), some (.f (.lst (ts.map tabD))), some (.f (.lst [.int P, .int (nn : Nat)])), some (.f (.lst (us.map useD))), y4, y5, y6, y7, y8] from rfl)
        have q5 : asB (fOp oEq (fLenQ (fVarQ 0)) (fOp oAdd (fOp oIx (fVarQ 2) (fC (.int 1))) (fC (.int 1)))) [some (.f (linesD ls)), some (.f (.lst (ts.map tabD))), some (.f (.lst [.int P, .int (nn : Nat)])), some (.f (.lst (us.map useD))), y4, y5, y6, y7, y8] c = some (decide (nn + 1 = ls.length), c) := by
          refine asB_of ((op_of (len_lines ls rfl) ((op_of ((op_of rfl rfl).trans j1) rfl).trans rfl)).trans ?_)
          rw [oEq_int]
          by_cases h : nn + 1 = ls.length
          · rw [decide_eq_true h, decide_eq_true (by omega)]
          · rw [decide_eq_false h, decide_eq_false (by omega)]
        refine (?_ : m__law_puzzle_due [linesD ls, .lst (ts.map tabD)] c = some ((match (if nn + 1 = ls.length then (.inr (P, us) : Nat ⊕ (Int × List Use)) else .inl (nn + 2)) with | .inl e => .int (e : Nat) | .inr (P, us) => .lst [.int P, .lst (us.map useD)]), c))
        refine mOf_rt (env1 := [some (.f (linesD ls)), some (.f (.lst (ts.map tabD))), some (.f (.lst [.int P, .int (nn : Nat)])), some (.f (.lst (us.map useD))), y4, y5, y6, y7, y8]) rfl ?_
        refine (fSeq_nx f0).trans ?_
        refine (fSeq_nx ((fIte_f (c1 := c) ((or_f t1).trans t2)).trans rfl)).trans ?_
        refine (fSeq_nx ((fFor_of fr).trans k)).trans ?_
        show fRet _ [some (.f (linesD ls)), some (.f (.lst (ts.map tabD))), some (.f (.lst [.int P, .int (nn : Nat)])), some (.f (.lst (us.map useD))), y4, y5, y6, y7, y8] c = _
        by_cases hp : nn + 1 = ls.length
        · rw [decide_eq_true hp] at q5
          simp only [hp, if_true]
          exact fRet_of ((if_t q5).trans (lst_of (aC ((op_of rfl rfl).trans j0) (aC rfl aN)) l2))
        · rw [decide_eq_false hp] at q5
          simp only [hp, if_false]
          have e2 : ((nn + 2 : Nat) : Int) = ((min (nn + 1) ls.length : Nat) : Int) + 1 := by omega
          rw [e2]
          exact fRet_of ((if_f q5).trans ((op_of ((call_of (aC ((op_of ((op_of rfl rfl).trans j1) rfl).trans rfl) (aC (len_lines ls rfl) aN))).trans (mn (nn + 1) ls.length)) rfl).trans rfl))
    · rw [decide_eq_true (by omega)] at t2
      simp only [hP, if_false]
      refine mOf_rt (env1 := [some (.f (linesD ls)), some (.f (.lst (ts.map tabD))), some (.f (hdL (some (P, n)))), some (.o (.lst [])), none, none, none, none, none]) rfl ?_
      exact (fSeq_nx f0).trans (fSeq_rt ((fIte_t ((or_f t1).trans t2)).trans rfl))
end M58
set_option Elab.async false
set_option linter.all false
set_option maxRecDepth 100000
set_option maxHeartbeats 0
namespace M58
open PySem PySem.Spec PyProof.Rows L2 Pd L58 Ma TL
/-! ### a text with one change -/
theorem addS {f g : FE} {env : En} {c c1 c2 : Cs} {A B : List Str} (hf : f env c = some (.lst (A.map D.str), c1)) (hg : g env c1 = some (.lst (B.map D.str), c2)) (h : A.length + B.length ≤ 1000000) : fOp oAdd f g env c = some (.lst ((A ++ B).map D.str), c2) := by
  refine (op_of hf hg).trans ?_
  have : (A.map D.str).length + (B.map D.str).length ≤ lim := by rw [List.length_map, List.length_map]; exact h
  simp only [oAdd, this, if_true, List.map_append]
theorem joinS {y : Str} (hy : y.length = 1) {f : FE} {env : En} {c c1 : Cs} {A : List Str} (hf : f env c = some (.lst (A.map D.str), c1)) (h : wt A ≤ 1000000) : fMd "str" mJoin (fC (.str y)) (aCons f aNil) env c = some (.str (Txt.join y A), c1) := by
  refine (md_of rfl rfl (aC hf aN)).trans (mJoin_of y A ?_ c1)
  rw [hy, Nat.mul_one]; exact h
theorem eol_len : eol.length = 1 := by rw [len_tl, tl_eol]; rfl
theorem asc_blank : Asc blank := asc_lit (by decide +kernel)
theorem asc_eol : Asc eol := asc_lit (by decide +kernel)
theorem cutA_to (Ls : List Str) (a : Nat) : cutA (.lst (Ls.map D.str)) none (some (a : Int)) = some (.lst ((Ls.take a).map D.str)) := by
  have := cut_to (Ls.map D.str) a
  rw [← List.map_take] at this
  simp only [cutA, this]
theorem cutA_from (Ls : List Str) (a : Nat) : cutA (.lst (Ls.map D.str)) (some (a : Int)) none = some (.lst ((Ls.drop a).map D.str)) := by
  have := cut_from (Ls.map D.str) a
  rw [← List.map_drop] at this
  simp only [cutA, this]
theorem cutA_from1 (Ls : List Str) (a : Nat) : cutA (.lst (Ls.map D.str)) (some ((a : Int) + 1)) none = some (.lst ((Ls.drop (a + 1)).map D.str)) := cutA_from Ls (a + 1)
theorem cutA_sto (x : Str) (h : x.length ≤ 1000000) (a : Nat) : cutA (.str x) none (some (a : Int)) = some (.str (Txt.slice x none (some (a : Int)))) := by
  have : x.length ≤ lim := h
  simp only [cutA, this, if_true]
theorem cutA_sfrom (x : Str) (h : x.length ≤ 1000000) (a : Nat) : cutA (.str x) (some (a : Int)) none = some (.str (Txt.slice x (some (a : Int)) none)) := by
  have : x.length ≤ lim := h
  simp only [cutA, this, if_true]
theorem cutA_sfrom1 (x : Str) (h : x.length ≤ 1000000) (a : Nat) : cutA (.str x) (some ((a : Int) + 1)) none = some (.str (Txt.slice x (some ((a + 1 : Nat) : Int)) none)) := cutA_sfrom x h (a + 1)
theorem asc_sto {x : Str} (h : Asc x) (a : Nat) : Asc (Txt.slice x none (some (a : Int))) := fun c hc => by
  rw [tl_sto] at hc; exact h c (List.mem_of_mem_take hc)
theorem asc_sfrom {x : Str} (h : Asc x) (a : Nat) : Asc (Txt.slice x (some (a : Int)) none) := fun c hc => by
  rw [tl_sfrom] at hc; exact h c (List.mem_of_mem_drop hc)
theorem ix_str (Ls : List Str) (i : Nat) (h : i < Ls.length) (c : Cs) : oIx (.lst (Ls.map D.str)) (.int i) c = some (.str Ls[i], c) := by
  simp only [oIx, ixD, deref, atIn, List.getElem?_map, List.getElem?_eq_getElem h, Option.map_some]
def oddB (L : List Str) : Bool := L.all fun s => ((tl s).all fun c => decide (c < 128)) && decide (s.length ≤ 10)
theorem oddB_ok {L : List Str} (h : oddB L = true) {s : Str} (hs : s ∈ L) : Asc s ∧ s.length ≤ 10 := by
  have := List.all_eq_true.mp h s hs
  simp only [Bool.and_eq_true, decide_eq_true_eq] at this
  exact ⟨asc_lit this.1, this.2⟩
def odd1 : List Str := ["0", "1", "2", "3", "9", "01", "-1", "+1", "1_0", "", "x", "row", "at", "61", "1234567890"]
def odd2 : List Str := ["Row", "AT", "Book", "TABLE"]
theorem odd_ok : oddB (odd1 ++ odd2) = true := by decide +kernel
def sgn : Str := "0123 \n\trxRAB"
theorem sgn_ok : Asc sgn := asc_lit (by decide +kernel)
def chE (k : Nat) (x : Str) (Ls : List Str) (q a t : Nat) (x6 x7 x8 x9 x10 x11 : Option Sl) : En := [some (.f (.cell k)), some (.f (.str x)), some (.o (.lst (Ls.map D.str))), some (.f (.int q)), some (.f (.int a)), some (.f (.int t)), x6, x7, x8, x9, x10, x11]
theorem eqN (q j : Nat) {f : FE} {env : En} {c : Cs} (h : f env c = some (.int (q : Nat), c)) : asB (fOp oEq f (fC (.int (j : Nat)))) env c = some (decide (q = j), c) := by
  refine asB_of ((op_of h rfl).trans ?_)
  rw [oEq_int]
  by_cases hq : q = j
  · rw [decide_eq_true hq, decide_eq_true (by omega)]
  · rw [decide_eq_false hq, decide_eq_false (by omega)]
structure Ok1 (T : Nat) (x : Str) : Prop where
  asc : Asc x
  len : x.length ≤ T
abbrev chG0 : FS := (fIte (asB (fOp oEq (fVarQ 3) (fC (.int 0))))
  (fRet (fMd "str" mJoin (fC (.str "\n")) (aCons (fOp oAdd (fSlA (fVarQ 2) oNone (oSome (fVar 4))) (fSlA (fVarQ 2) (oSome (fOp oAdd (fVarQ 4) (fC (.int 1)))) oNone)) aNil)))
  fNx)
abbrev chG1 : FS := (fIte (asB (fOp oEq (fVarQ 3) (fC (.int 1))))
  (fRet (fMd "str" mJoin (fC (.str "\n")) (aCons (fOp oAdd (fOp oAdd (fSlA (fVarQ 2) oNone (oSome (fVar 4))) (fLst (aCons (fOp oIx (fVarQ 2) (fVarQ 5)) aNil))) (fSlA (fVarQ 2) (oSome (fVar 4)) oNone)) aNil)))
  fNx)
abbrev chG2 : FS := (fIte (asB (fOp oEq (fVarQ 3) (fC (.int 2))))
  (fSeq (fSwapO 2 4 5 (fTup (aCons (fOp oIx (fVarQ 2) (fVarQ 5)) (aCons (fOp oIx (fVarQ 2) (fVarQ 4)) aNil))))
  (fRet (fMd "str" mJoin (fC (.str "\n")) (aCons (fVarQ 2) aNil))))
  fNx)
abbrev chG3 : FS := (fIte (asB (fOp oEq (fVarQ 3) (fC (.int 3))))
  (fSeq (fSet 8 (fMd "str" mJoin (fC (.str " ")) (aCons (fOp oAdd (fSlA (fVarQ 6) oNone (oSome (fVar 7))) (fSlA (fVarQ 6) (oSome (fOp oAdd (fVarQ 7) (fC (.int 1)))) oNone)) aNil)))
  (fRet (fMd "str" mJoin (fC (.str "\n")) (aCons (fOp oAdd (fOp oAdd (fSlA (fVarQ 2) oNone (oSome (fVar 4))) (fLst (aCons (fVar 8) aNil))) (fSlA (fVarQ 2) (oSome (fOp oAdd (fVarQ 4) (fC (.int 1)))) oNone)) aNil))))
  fNx)
abbrev chG4 : FS := (fIte (asB (fOp oEq (fVarQ 3) (fC (.int 4))))
  (fSeq (fSet 9 (fLst (aCons (fC (.str "0")) (aCons (fC (.str "1")) (aCons (fC (.str "2")) (aCons (fC (.str "3")) (aCons (fC (.str "9")) (aCons (fC (.str "01")) (aCons (fC (.str "-1")) (aCons (fC (.str "+1")) (aCons (fC (.str "1_0")) (aCons (fC (.str "")) (aCons (fC (.str "x")) (aCons (fC (.str "row")) (aCons (fC (.str "at")) (aCons (fC (.str "61")) (aCons (fC (.str "1234567890")) aNil)))))))))))))))))
  (fSeq (fSet 9 (fOp oAdd (fVarQ 9) (fLst (aCons (fC (.str "Row")) (aCons (fC (.str "AT")) (aCons (fC (.str "Book")) (aCons (fC (.str "TABLE")) aNil)))))))
  (fSeq (fSet 8 (fMd "str" mJoin (fC (.str " ")) (aCons (fOp oAdd (fOp oAdd (fSlA (fVarQ 6) oNone (oSome (fVar 7))) (fLst (aCons (fCall m__law_pick (aCons (fVar 0) (aCons (fVar 9) aNil))) aNil))) (fSlA (fVarQ 6) (oSome (fOp oAdd (fVarQ 7) (fC (.int 1)))) oNone)) aNil)))
  (fRet (fMd "str" mJoin (fC (.str "\n")) (aCons (fOp oAdd (fOp oAdd (fSlA (fVarQ 2) oNone (oSome (fVar 4))) (fLst (aCons (fVar 8) aNil))) (fSlA (fVarQ 2) (oSome (fOp oAdd (fVarQ 4) (fC (.int 1)))) oNone)) aNil))))))
  fNx)
theorem chTo {k : Nat} {x : Str} {Ls : List Str} {q a t : Nat} {x6 x7 x8 x9 x10 x11 : Option Sl} {c : Cs} : fSlA (fVarQ 2) oNone (oSome (fVar 4)) (chE k x Ls q a t x6 x7 x8 x9 x10 x11) c = some (.lst ((Ls.take a).map D.str), c) := slA_of (x := .lst (Ls.map D.str)) rfl rfl (oS_of rfl) (cutA_to Ls a)
theorem chFrom {k : Nat} {x : Str} {Ls : List Str} {q a t : Nat} {x6 x7 x8 x9 x10 x11 : Option Sl} {c : Cs} : fSlA (fVarQ 2) (oSome (fVar 4)) oNone (chE k x Ls q a t x6 x7 x8 x9 x10 x11) c = some (.lst ((Ls.drop a).map D.str), c) := slA_of (x := .lst (Ls.map D.str)) rfl (oS_of rfl) rfl (cutA_from Ls a)
theorem chFrom1 {k : Nat} {x : Str} {Ls : List Str} {q a t : Nat} {x6 x7 x8 x9 x10 x11 : Option Sl} {c : Cs} : fSlA (fVarQ 2) (oSome (fOp oAdd (fVarQ 4) (fC (.int 1)))) oNone (chE k x Ls q a t x6 x7 x8 x9 x10 x11) c = some (.lst ((Ls.drop (a + 1)).map D.str), c) := slA_of (x := .lst (Ls.map D.str)) rfl (oS_of ((op_of rfl rfl).trans rfl)) rfl (cutA_from1 Ls a)
theorem asc_parts {Ls L : List Str} (h : ∀ p ∈ Ls, Asc p) (hs : ∀ p ∈ L, p ∈ Ls ∨ Asc p) : ∀ p ∈ L, Asc p := fun p hp => by
  rcases hs p hp with q | q
  · exact h p q
  · exact q
theorem wtLen {L : List Str} {n : Nat} (h : wt L ≤ n) : L.length ≤ n := Nat.le_trans (wt_len L) h
theorem lst1 {f : FE} {env : En} {c c1 : Cs} {y : Str} (hf : f env c = some (.str y, c1)) : fLst (aCons f aNil) env c = some (.lst ([y].map D.str), c1) := lst_of (aC hf aN) (show 1 ≤ lim by decide)
/-- one line replaced -/
theorem ch_line {k : Nat} {x : Str} {Ls : List Str} {q a t : Nat} {x6 x7 x9 x10 x11 : Option Sl} {c : Cs} {T : Nat} (line : Str) (hw : wt Ls ≤ T + 1) (hT : T ≤ 130000) (hl : line.length ≤ T + 12) (ha : ∀ p ∈ Ls, Asc p) (hla : Asc line) :
    ∃ r, fRet (fMd "str" mJoin (fC (.str "\n")) (aCons (fOp oAdd (fOp oAdd (fSlA (fVarQ 2) oNone (oSome (fVar 4))) (fLst (aCons (fVar 8) aNil))) (fSlA (fVarQ 2) (oSome (fOp oAdd (fVarQ 4) (fC (.int 1)))) oNone)) aNil)) (chE k x Ls q a t x6 x7 (some (.f (.str line))) x9 x10 x11) c = some (.rt (.str r), chE k x Ls q a t x6 x7 (some (.f (.str line))) x9 x10 x11, c) ∧ Ok1 (3 * T + 40) r := by
  have wp := wt_parts Ls (show a ≤ a + 1 by omega)
  have w1 : wt ((Ls.take a ++ [line]) ++ Ls.drop (a + 1)) ≤ 2 * T + 14 := by
    rw [wt_app, wt_app, wt_cons, wt_nil]; omega
  have w2 : wt (Ls.take a ++ [line]) ≤ 2 * T + 14 := by
    rw [wt_app] at w1; omega
  have n1 := wtLen w1
  have n2 := wtLen w2
  rw [List.length_append] at n1 n2
  have q1 : fOp oAdd (fOp oAdd (fSlA (fVarQ 2) oNone (oSome (fVar 4))) (fLst (aCons (fVar 8) aNil))) (fSlA (fVarQ 2) (oSome (fOp oAdd (fVarQ 4) (fC (.int 1)))) oNone) (chE k x Ls q a t x6 x7 (some (.f (.str line))) x9 x10 x11) c = some (.lst (((Ls.take a ++ [line]) ++ Ls.drop (a + 1)).map D.str), c) :=
    addS (addS chTo (lst1 rfl) (by omega)) chFrom1 (by omega)
  refine ⟨_, fRet_of (joinS eol_len q1 (by omega)), asc_join asc_eol ?_, ?_⟩
  · refine asc_parts ha fun p hp => ?_
    rcases List.mem_append.mp hp with hp | hp
    · rcases List.mem_append.mp hp with hp | hp
      · exact .inl (List.mem_of_mem_take hp)
      · right; rw [List.mem_singleton.mp hp]; exact hla
    · exact .inl (List.mem_of_mem_drop hp)
  · exact Nat.le_trans (join_le tl_eol _) (by omega)
abbrev chG5 : FS := (fSeq (fPar 10 11 (xF (fCall m__law_take (aCons (fVar 0) (aCons (fOp oAdd (fLenQ (fVarQ 1)) (fC (.int 1))) aNil)))) (xF (fCall m__law_pick (aCons (fVar 0) (aCons (fCall bListS (aCons (fC (.str "0123 \n\trxRAB")) aNil)) aNil)))))
  (fSeq (fIte (asB (fOp oEq (fVarQ 3) (fC (.int 5))))
  (fRet (fOp oAdd (fOp oAdd (fSlA (fVarQ 1) oNone (oSome (fVar 10))) (fVarQ 11)) (fSlA (fVarQ 1) (oSome (fVar 10)) oNone)))
  fNx)
  (fSeq (fIte (asB (fOp oEq (fVarQ 3) (fC (.int 6))))
  (fRet (fOp oAdd (fSlA (fVarQ 1) oNone (oSome (fVar 10))) (fSlA (fVarQ 1) (oSome (fOp oAdd (fVarQ 10) (fC (.int 1)))) oNone)))
  fNx)
  (fRet (fOp oAdd (fOp oAdd (fSlA (fVarQ 1) oNone (oSome (fVar 10))) (fVarQ 11)) (fSlA (fVarQ 1) (oSome (fOp oAdd (fVarQ 10) (fC (.int 1)))) oNone))))))
abbrev chB : FS := fSeq chG0 (fSeq chG1 (fSeq chG2 (fSeq (fSet 6 (fMd "str" mSplit (fOp oIx (fVarQ 2) (fVarQ 4)) (aCons (fC (.str " ")) aNil)))
  (fSeq (fSet 7 (fCall m__law_take (aCons (fVar 0) (aCons (fLenQ (fVarQ 6)) aNil)))) (fSeq chG3 (fSeq chG4 chG5))))))
theorem f_changed : f__law_changed = fSeq (fPar 2 3 (xO (fMd "str" mSplit (fVarQ 1) (aCons (fC (.str "\n")) aNil))) (xF (fCall m__law_take (aCons (fVar 0) (aCons (fC (.int 8)) aNil))))) (fSeq (fPar 4 5 (xF (fCall m__law_take (aCons (fVar 0) (aCons (fLenQ (fVarQ 2)) aNil)))) (xF (fCall m__law_take (aCons (fVar 0) (aCons (fLenQ (fVarQ 2)) aNil))))) chB) := rfl
abbrev Res (T k : Nat) (f : FS) (env : En) (c : Cs) : Prop := ∃ r env' c', f env c = some (.rt (.str r), env', c') ∧ Ok1 (3 * T + 40) r ∧ FdTo k c c'
theorem res_if {T k q j : Nat} {f g : FS} {env : En} {c : Cs} {t : FT} (e : t env c = some (decide (q = j), c)) (h1 : q = j → Res T k f env c) (h2 : q ≠ j → Res T k g env c) : Res T k (fSeq (fIte t f fNx) g) env c := by
  by_cases h : q = j
  · obtain ⟨r, env', c', a, b, d⟩ := h1 h
    rw [decide_eq_true h] at e
    exact ⟨r, env', c', fSeq_rt ((fIte_t e).trans a), b, d⟩
  · obtain ⟨r, env', c', a, b, d⟩ := h2 h
    rw [decide_eq_false h] at e
    exact ⟨r, env', c', (fSeq_nx ((fIte_f e).trans rfl)).trans a, b, d⟩
theorem res_nx {T k : Nat} {f g : FS} {env env1 : En} {c c1 : Cs} (h : f env c = some (.nx, env1, c1)) (d : FdTo k c c1) (h2 : Res T k g env1 c1) : Res T k (fSeq f g) env c := by
  obtain ⟨r, env', c', a, b, e⟩ := h2
  exact ⟨r, env', c', (fSeq_nx h).trans a, b, d.trans e⟩
theorem ixN_nat {n i : Nat} (h : i < n) : ixN n (i : Int) = some i := by
  unfold ixN
  rw [if_pos (by omega), if_pos (by omega)]; rfl
theorem oAddS {a b : Str} (h : a.length + b.length ≤ 1000000) (c : Cs) : oAdd (.str a) (.str b) c = some (.str (a ++ b), c) := oAdd_str h c
theorem slen_to (x : Str) (a : Nat) : (Txt.slice x none (some (a : Int))).length ≤ x.length := Txt.slice_le _ _ _
theorem slen_from (x : Str) (a : Nat) : (Txt.slice x (some (a : Int)) none).length ≤ x.length := Txt.slice_le _ _ _
theorem slen2 (x : Str) {a b : Nat} (h : a ≤ b) : (Txt.slice x none (some (a : Int))).length + (Txt.slice x (some (b : Int)) none).length ≤ x.length := by
  rw [len_tl, len_tl, len_tl x, tl_sto, tl_sfrom, List.length_take, List.length_drop]
  omega
theorem s_ch5 {T k : Nat} {x : Str} {Ls : List Str} {q a t : Nat} {x6 x7 x8 x9 : Option Sl} {c : Cs} (hx : Ok1 T x) (hT : T ≤ 130000) (hc : Fd k c) : Res T k chG5 (chE k x Ls q a t x6 x7 x8 x9 none none) c := by
  have hxT := hx.len
  obtain ⟨p0, c1, p1, p2, ep, fp⟩ := s_take c k ((x.length : Nat) + 1 : Int) hc (by omega) (by omega)
  obtain ⟨p, rfl⟩ := Int.eq_ofNat_of_zero_le p1
  have es : bListS [.str sgn] c1 = some (.lst (Pd.signs sgn), c1) := by
    have : sgn.length ≤ lim := by decide +kernel
    simp only [bListS, this, if_true]
  obtain ⟨y, c2, hy, ey, fy⟩ := s_pick c1 k (Pd.signs sgn) fp.fd (by decide +kernel) (by decide +kernel)
  rw [signs_tl] at hy
  obtain ⟨kk, hk, rfl⟩ := List.mem_map.mp hy
  have ask := asc_sign sgn_ok hk
  have lk : (⟨#[kk]⟩ : Str).length = 1 := rfl
  have ln : fLenQ (fVarQ 1) (chE k x Ls q a t x6 x7 x8 x9 none none) c = some (.int (x.length : Nat), c) := lenQ_of (x := .str x) rfl (by
    have : x.length ≤ lim := lim_le (by omega)
    simp only [lenD, deref, this, if_true])
  refine res_nx (env1 := chE k x Ls q a t x6 x7 x8 x9 (some (.f (.int p))) (some (.f (.str ⟨#[kk]⟩)))) (c1 := c2) (par_of (xF_of ((call_of (aC rfl (aC ((op_of ln rfl).trans rfl) aN))).trans ep)) (xF_of ((call_of (aC rfl (aC ((call_of (aC rfl aN)).trans es) aN))).trans ey))) (fp.trans fy) ?_
  have fr := (fp.trans fy).fd
  generalize (⟨#[kk]⟩ : Str) = sg at ask lk
  have s1 : fSlA (fVarQ 1) oNone (oSome (fVar 10)) (chE k x Ls q a t x6 x7 x8 x9 (some (.f (.int p))) (some (.f (.str sg)))) c2 = some (.str (Txt.slice x none (some (p : Int))), c2) := slA_of (x := .str x) rfl rfl (oS_of rfl) (cutA_sto x (by omega) p)
  have s2 : fSlA (fVarQ 1) (oSome (fVar 10)) oNone (chE k x Ls q a t x6 x7 x8 x9 (some (.f (.int p))) (some (.f (.str sg)))) c2 = some (.str (Txt.slice x (some (p : Int)) none), c2) := slA_of (x := .str x) rfl (oS_of rfl) rfl (cutA_sfrom x (by omega) p)
  have s3 : fSlA (fVarQ 1) (oSome (fOp oAdd (fVarQ 10) (fC (.int 1)))) oNone (chE k x Ls q a t x6 x7 x8 x9 (some (.f (.int p))) (some (.f (.str sg)))) c2 = some (.str (Txt.slice x (some ((p + 1 : Nat) : Int)) none), c2) := slA_of (x := .str x) rfl (oS_of ((op_of rfl rfl).trans rfl)) rfl (cutA_sfrom1 x (by omega) p)
  have b1 := slen2 x (Nat.le_refl p)
  have b2 := slen2 x (show p ≤ p + 1 by omega)
  have A1 := asc_sto hx.asc p
  have A2 := asc_sfrom hx.asc p
  have A3 := asc_sfrom hx.asc (p + 1)
  generalize Txt.slice x none (some (p : Int)) = u at s1 b1 b2 A1
  generalize Txt.slice x (some (p : Int)) none = v at s2 b1 A2
  generalize Txt.slice x (some ((p + 1 : Nat) : Int)) none = v' at s3 b2 A3
  have ls : (u ++ sg).length = u.length + sg.length := len_app u sg
  refine res_if (eqN q 5 rfl) (fun _ => ?_) (fun _ => ?_)
  · exact ⟨_, _, _, fRet_of ((op_of ((op_of s1 rfl).trans (oAddS (by omega) c2)) s2).trans (oAddS (by omega) c2)), ⟨asc_append (asc_append A1 ask) A2, by rw [len_app]; omega⟩, .refl fr⟩
  refine res_if (eqN q 6 rfl) (fun _ => ?_) (fun _ => ?_)
  · exact ⟨_, _, _, fRet_of ((op_of s1 s3).trans (oAddS (by omega) c2)), ⟨asc_append A1 A3, by rw [len_app]; omega⟩, .refl fr⟩
  · exact ⟨_, _, _, fRet_of ((op_of ((op_of s1 rfl).trans (oAddS (by omega) c2)) s3).trans (oAddS (by omega) c2)), ⟨asc_append (asc_append A1 ask) A3, by rw [len_app]; omega⟩, .refl fr⟩
theorem s_ch {T k : Nat} {x : Str} {Ls : List Str} {q a t : Nat} {c : Cs} (hx : Ok1 T x) (hT : T ≤ 130000) (hc : Fd k c) (hw : wt Ls ≤ T + 1) (ha : ∀ p ∈ Ls, Asc p) (hal : a < Ls.length) (htl : t < Ls.length) : Res T k chB (chE k x Ls q a t none none none none none none) c := by
  have l2 : 2 ≤ lim := by decide
  have hn := wtLen hw
  have ia := ix_str Ls a hal c
  have it := ix_str Ls t htl c
  have ma : Ls[a] ∈ Ls := List.getElem_mem hal
  have mt : Ls[t] ∈ Ls := List.getElem_mem htl
  have wa := wt_mem ma
  have wtt := wt_mem mt
  have aa := ha _ ma
  have at_ := ha _ mt
  generalize ea : Ls[a] = ya at ia ma wa aa
  generalize et : Ls[t] = yt at it mt wtt at_
  refine res_if (eqN q 0 rfl) (fun _ => ?_) (fun _ => ?_)
  · have wp := wt_parts Ls (show a ≤ a + 1 by omega)
    have w1 : wt (Ls.take a ++ Ls.drop (a + 1)) ≤ T + 1 := by rw [wt_app]; omega
    have n1 := wtLen w1
    rw [List.length_append] at n1
    refine ⟨_, _, _, fRet_of (joinS eol_len (addS chTo chFrom1 (by omega)) (by omega)), ⟨asc_join asc_eol ?_, Nat.le_trans (join_le tl_eol _) (by omega)⟩, .refl hc⟩
    refine asc_parts ha fun p hp => ?_
    rcases List.mem_append.mp hp with hp | hp
    · exact .inl (List.mem_of_mem_take hp)
    · exact .inl (List.mem_of_mem_drop hp)
  refine res_if (eqN q 1 rfl) (fun _ => ?_) (fun _ => ?_)
  · have wp := wt_parts Ls (Nat.le_refl a)
    have w1 : wt ((Ls.take a ++ [yt]) ++ Ls.drop a) ≤ 2 * T + 2 := by rw [wt_app, wt_app, wt_cons, wt_nil]; omega
    have w2 : wt (Ls.take a ++ [yt]) ≤ 2 * T + 2 := by rw [wt_app] at w1; omega
    have n1 := wtLen w1
    have n2 := wtLen w2
    rw [List.length_append] at n1 n2
    have q1 : fOp oAdd (fOp oAdd (fSlA (fVarQ 2) oNone (oSome (fVar 4))) (fLst (aCons (fOp oIx (fVarQ 2) (fVarQ 5)) aNil))) (fSlA (fVarQ 2) (oSome (fVar 4)) oNone) (chE k x Ls q a t none none none none none none) c = some (.lst (((Ls.take a ++ [yt]) ++ Ls.drop a).map D.str), c) :=
      addS (addS chTo (lst1 ((op_of rfl rfl).trans it)) (by omega)) chFrom (by omega)
    refine ⟨_, _, _, fRet_of (joinS eol_len q1 (by omega)), ⟨asc_join asc_eol ?_, Nat.le_trans (join_le tl_eol _) (by omega)⟩, .refl hc⟩
    refine asc_parts ha fun p hp => ?_
    rcases List.mem_append.mp hp with hp | hp
    · rcases List.mem_append.mp hp with hp | hp
      · exact .inl (List.mem_of_mem_take hp)
      · left; rw [List.mem_singleton.mp hp]; exact mt
    · exact .inl (List.mem_of_mem_drop hp)
  refine res_if (eqN q 2 rfl) (fun _ => ?_) (fun _ => ?_)
  · have w1 := wt_set (y := yt) Ls a
    have w2 := wt_set (y := ya) (Ls.set a yt) t
    have w3 : wt ((Ls.set a yt).set t ya) ≤ 3 * T + 3 := by omega
    have q1 : fSwapO 2 4 5 (fTup (aCons (fOp oIx (fVarQ 2) (fVarQ 5)) (aCons (fOp oIx (fVarQ 2) (fVarQ 4)) aNil))) (chE k x Ls q a t none none none none none none) c = some (.nx, chE k x ((Ls.set a yt).set t ya) q a t none none none none none none, c) := by
      have e : fTup (aCons (fOp oIx (fVarQ 2) (fVarQ 5)) (aCons (fOp oIx (fVarQ 2) (fVarQ 4)) aNil)) (chE k x Ls q a t none none none none none none) c = some (.tup [.str yt, .str ya], c) := tup_of (aC ((op_of rfl rfl).trans it) (aC ((op_of rfl rfl).trans ia) aN)) l2
      have n1 : ixN (Ls.map D.str).length (a : Int) = some a := ixN_nat (by rw [List.length_map]; exact hal)
      have n2 : ixN (Ls.map D.str).length (t : Int) = some t := ixN_nat (by rw [List.length_map]; exact htl)
      have em : ((Ls.map D.str).set a (.str yt)).set t (.str ya) = ((Ls.set a yt).set t ya).map D.str := by rw [List.map_set, List.map_set]
      unfold fSwapO
      rw [e]
      simp only [chE, List.getElem?_cons_succ, List.getElem?_cons_zero, n1, n2, List.set_cons_succ, List.set_cons_zero, em]
    have mset : ∀ {L : List Str} {i : Nat} {z p : Str}, p ∈ L.set i z → p ∈ L ∨ p = z := fun h => List.mem_or_eq_of_mem_set h
    refine ⟨_, _, _, (fSeq_nx q1).trans (fRet_of (joinS eol_len (A := (Ls.set a yt).set t ya) rfl (by omega))), ⟨asc_join asc_eol ?_, Nat.le_trans (join_le tl_eol _) (by omega)⟩, .refl hc⟩
    refine asc_parts ha fun p hp => ?_
    rcases mset hp with hp | hp
    · rcases mset hp with hp | hp
      · exact .inl hp
      · left; rw [hp]; exact mt
    · left; rw [hp]; exact ma
  obtain ⟨b1, b2, b3⟩ := split_blank ya
  have hwy : wt (Txt.split ya blank) ≤ T + 1 := by rw [wt_join tl_blank b2, b1]; omega
  have hay : ∀ p ∈ Txt.split ya blank, Asc p := fun p hp k hk => aa k ((b3 p hp).2 k hk)
  have sp := mSplit_of (x := ya) (y := blank) (by decide +kernel) (lim_le (by omega)) c
  generalize Txt.split ya blank = W at b1 b2 b3 hwy hay sp
  have hnW := wtLen hwy
  have hpW : 0 < W.length := List.length_pos_iff.mpr b2
  refine res_nx (env1 := chE k x Ls q a t (some (.f (.lst (W.map D.str)))) none none none none none) (c1 := c) (set_of ((md_of ((op_of rfl rfl).trans ia) rfl (aC rfl aN)).trans sp)) (.refl hc) ?_
  obtain ⟨s0, c1, s1, s2, es, fs⟩ := s_take c k (W.length : Nat) hc (by omega) (by omega)
  obtain ⟨s, rfl⟩ := Int.eq_ofNat_of_zero_le s1
  have lnW : fLenQ (fVarQ 6) (chE k x Ls q a t (some (.f (.lst (W.map D.str)))) none none none none none) c = some (.int (W.length : Nat), c) := lenQ_of (x := .lst (W.map D.str)) rfl (by simp only [lenD, deref, List.length_map])
  refine res_nx (env1 := chE k x Ls q a t (some (.f (.lst (W.map D.str)))) (some (.f (.int s))) none none none none) (c1 := c1) (set_of ((call_of (aC rfl (aC lnW aN))).trans es)) fs ?_
  have wpW := wt_parts W (show s ≤ s + 1 by omega)
  have tW : ∀ {x8 x9 x10 x11 : Option Sl} {c : Cs}, fSlA (fVarQ 6) oNone (oSome (fVar 7)) (chE k x Ls q a t (some (.f (.lst (W.map D.str)))) (some (.f (.int s))) x8 x9 x10 x11) c = some (.lst ((W.take s).map D.str), c) := slA_of (x := .lst (W.map D.str)) rfl rfl (oS_of rfl) (cutA_to W s)
  have dW : ∀ {x8 x9 x10 x11 : Option Sl} {c : Cs}, fSlA (fVarQ 6) (oSome (fOp oAdd (fVarQ 7) (fC (.int 1)))) oNone (chE k x Ls q a t (some (.f (.lst (W.map D.str)))) (some (.f (.int s))) x8 x9 x10 x11) c = some (.lst ((W.drop (s + 1)).map D.str), c) := slA_of (x := .lst (W.map D.str)) rfl (oS_of ((op_of rfl rfl).trans rfl)) rfl (cutA_from1 W s)
  refine res_if (eqN q 3 rfl) (fun _ => ?_) (fun _ => ?_)
  · have w1 : wt (W.take s ++ W.drop (s + 1)) ≤ T + 1 := by rw [wt_app]; omega
    have n1 := wtLen w1
    rw [List.length_append] at n1
    obtain ⟨r, er, ok⟩ := ch_line (k := k) (x := x) (Ls := Ls) (q := q) (a := a) (t := t) (x6 := some (.f (.lst (W.map D.str)))) (x7 := some (.f (.int s))) (x9 := none) (x10 := none) (x11 := none) (c := c1) (T := T) (Txt.join blank (W.take s ++ W.drop (s + 1))) hw hT (Nat.le_trans (join_le tl_blank _) (by omega)) ha (asc_join asc_blank (asc_parts hay fun p hp => by
      rcases List.mem_append.mp hp with hp | hp
      · exact .inl (List.mem_of_mem_take hp)
      · exact .inl (List.mem_of_mem_drop hp)))
    exact ⟨r, _, _, (fSeq_nx (set_of (joinS blank_len (addS tW dW (by omega)) (by omega)))).trans er, ok, .refl fs.fd⟩
  refine res_if (eqN q 4 rfl) (fun _ => ?_) (fun _ => s_ch5 hx hT fs.fd)
  obtain ⟨y, c2, hy, ey, fy⟩ := s_pick c1 k ((odd1 ++ odd2).map D.str) fs.fd (by decide) (by decide)
  obtain ⟨o, ho, rfl⟩ := List.mem_map.mp hy
  obtain ⟨o1, o2⟩ := oddB_ok odd_ok ho
  have w1 : wt ((W.take s ++ [o]) ++ W.drop (s + 1)) ≤ T + 12 := by rw [wt_app, wt_app, wt_cons, wt_nil]; omega
  have w2 : wt (W.take s ++ [o]) ≤ T + 12 := by rw [wt_app] at w1; omega
  have n1 := wtLen w1
  have n2 := wtLen w2
  rw [List.length_append] at n1 n2
  obtain ⟨r, er, ok⟩ := ch_line (k := k) (x := x) (Ls := Ls) (q := q) (a := a) (t := t) (x6 := some (.f (.lst (W.map D.str)))) (x7 := some (.f (.int s))) (x9 := some (.f (.lst ((odd1 ++ odd2).map D.str)))) (x10 := none) (x11 := none) (c := c2) (T := T) (Txt.join blank ((W.take s ++ [o]) ++ W.drop (s + 1))) hw hT (Nat.le_trans (join_le tl_blank _) (by omega)) ha (asc_join asc_blank (asc_parts hay fun p hp => by
    rcases List.mem_append.mp hp with hp | hp
    · rcases List.mem_append.mp hp with hp | hp
      · exact .inl (List.mem_of_mem_take hp)
      · right; rw [List.mem_singleton.mp hp]; exact o1
    · exact .inl (List.mem_of_mem_drop hp)))
  have qo : fOp oAdd (fVarQ 9) (fLst (aCons (fC (.str "Row")) (aCons (fC (.str "AT")) (aCons (fC (.str "Book")) (aCons (fC (.str "TABLE")) aNil))))) (chE k x Ls q a t (some (.f (.lst (W.map D.str)))) (some (.f (.int s))) none (some (.f (.lst (odd1.map D.str)))) none none) c1 = some (.lst ((odd1 ++ odd2).map D.str), c1) :=
    addS (A := odd1) (B := odd2) rfl (lst_of (aC rfl (aC rfl (aC rfl (aC rfl aN)))) (by decide)) (by decide)
  refine ⟨r, chE k x Ls q a t (some (.f (.lst (W.map D.str)))) (some (.f (.int s))) (some (.f (.str (Txt.join blank ((W.take s ++ [o]) ++ W.drop (s + 1)))))) (some (.f (.lst ((odd1 ++ odd2).map D.str)))) none none, c2, ?_, ok, fy⟩
  refine (fSeq_nx (env1 := chE k x Ls q a t (some (.f (.lst (W.map D.str)))) (some (.f (.int s))) none (some (.f (.lst (odd1.map D.str)))) none none) (c1 := c1) rfl).trans ?_
  refine (fSeq_nx (set_of qo)).trans ?_
  exact (fSeq_nx (set_of (joinS blank_len (addS (addS tW (lst1 ((call_of (aC rfl (aC rfl aN))).trans ey)) (by omega)) dW (by omega)) (by omega)))).trans er
theorem s_changed (c : Cs) (k : Nat) (x : Str) (T : Nat) (hx : Ok1 T x) (hT : T ≤ 130000) (hc : Fd k c) : ∃ x' c', m__law_changed [.cell k, .str x] c = some (.str x', c') ∧ Ok1 (3 * T + 40) x' ∧ FdTo k c c' := by
  have hxT := hx.len
  obtain ⟨e1, e2, e3⟩ := split_eol x
  have hw : wt (Txt.split x eol) ≤ T + 1 := by rw [wt_join tl_eol e2, e1]; omega
  have ha : ∀ p ∈ Txt.split x eol, Asc p := fun p hp k hk => hx.asc k ((e3 p hp).2 k hk)
  have sp := mSplit_of (x := x) (y := eol) (by decide +kernel) (lim_le (by omega)) c
  generalize Txt.split x eol = Ls at e1 e2 e3 hw ha sp
  have hn := wtLen hw
  have hp : 0 < Ls.length := List.length_pos_iff.mpr e2
  obtain ⟨q0, c1, q1, q2, eq, fq⟩ := s_take c k 8 hc (by omega) (by omega)
  obtain ⟨a0, c2, a1, a2, ea, fa⟩ := s_take c1 k (Ls.length : Nat) fq.fd (by omega) (by omega)
  obtain ⟨t0, c3, t1, t2, et, ft⟩ := s_take c2 k (Ls.length : Nat) fa.fd (by omega) (by omega)
  obtain ⟨q, rfl⟩ := Int.eq_ofNat_of_zero_le q1
  obtain ⟨a, rfl⟩ := Int.eq_ofNat_of_zero_le a1
  obtain ⟨t, rfl⟩ := Int.eq_ofNat_of_zero_le t1
  have ln : ∀ c', fLenQ (fVarQ 2) [some (.f (.cell k)), some (.f (.str x)), some (.o (.lst (Ls.map D.str))), some (.f (.int q)), none, none, none, none, none, none, none, none] c' = some (.int (Ls.length : Nat), c') := fun c' => lenQ_of (x := .lst (Ls.map D.str)) rfl (by simp only [lenD, deref, List.length_map])
  have p1 : fPar 2 3 (xO (fMd "str" mSplit (fVarQ 1) (aCons (fC (.str (Str.ofString "\n"))) aNil))) (xF (fCall m__law_take (aCons (fVar 0) (aCons (fC (.int 8)) aNil)))) (startD N__law_changed [.cell k, .str x]) c = some (.nx, [some (.f (.cell k)), some (.f (.str x)), some (.o (.lst (Ls.map D.str))), some (.f (.int q)), none, none, none, none, none, none, none, none], c1) :=
    par_of (xO_of ((md_of rfl rfl (aC rfl aN)).trans sp)) (xF_of ((call_of (aC rfl (aC rfl aN))).trans eq))
  have p2 : fPar 4 5 (xF (fCall m__law_take (aCons (fVar 0) (aCons (fLenQ (fVarQ 2)) aNil)))) (xF (fCall m__law_take (aCons (fVar 0) (aCons (fLenQ (fVarQ 2)) aNil)))) [some (.f (.cell k)), some (.f (.str x)), some (.o (.lst (Ls.map D.str))), some (.f (.int q)), none, none, none, none, none, none, none, none] c1 = some (.nx, chE k x Ls q a t none none none none none none, c3) :=
    par_of (xF_of ((call_of (aC rfl (aC (ln c1) aN))).trans ea)) (xF_of ((call_of (aC rfl (aC (ln c2) aN))).trans et))
  obtain ⟨r, env', c', e, ok, fd⟩ := s_ch (k := k) (x := x) (q := q) (c := c3) hx hT ft.fd hw ha (show a < Ls.length by omega) (show t < Ls.length by omega)
  refine ⟨r, c', mOf_rt (env1 := env') rfl ?_, ok, ((fq.trans fa).trans ft).trans fd⟩
  rw [f_changed]
  exact (fSeq_nx p1).trans ((fSeq_nx p2).trans e)
end M58
set_option Elab.async false
set_option linter.all false
set_option maxRecDepth 100000
set_option maxHeartbeats 0
namespace M58
open PySem PySem.Spec PyProof.Rows L2 Pd L58 Ma TL
theorem line5 {A B C x y : Str} (hA : A.length ≤ 10) (hB : B.length ≤ 10) (hC : C.length ≤ 10) (hx : x.length ≤ 9) (hy : y.length ≤ 9) : (lineOf [A, B, x, C, y]).length ≤ 100 := by
  have := join_len blank [A, B, x, C, y]
  rw [blank_len] at this
  simp only [List.map_cons, List.map_nil, List.sum_cons, List.sum_nil, List.length_cons, List.length_nil] at this
  show (Txt.join blank [A, B, x, C, y]).length ≤ 100
  omega
theorem wd5 {A B C x y : Str} (hA : Wd A) (hB : Wd B) (hC : Wd C) (hx : Wd x) (hy : Wd y) : ∀ w ∈ [A, B, x, C, y], Wd w := by
  intro w hw
  simp only [List.mem_cons, List.not_mem_nil, or_false] at hw
  rcases hw with rfl | rfl | rfl | rfl | rfl <;> assumption
theorem wt_bound {n : Nat} : ∀ {L : List Str}, (∀ x ∈ L, x.length ≤ n) → wt L ≤ L.length * (n + 1)
  | [], _ => by simp [wt]
  | x :: L, h => by
    have h1 := h x (List.mem_cons_self ..)
    have h2 := wt_bound fun z hz => h z (List.mem_cons_of_mem _ hz)
    rw [wt_cons, List.length_cons, Nat.add_mul, Nat.one_mul]
    omega
theorem lt_small {ls : List (List Str)} {m n : Nat} (ne : ls ≠ []) (hm : ls.length ≤ m) (h : ∀ l ∈ ls, l ≠ [] ∧ (∀ w ∈ l, Wd w) ∧ (lineOf l).length ≤ n) (hb : m * (n + 1) ≤ 14000) : Lt ls ∧ Ok1 14000 (textOf ls) := by
  have w1 : wt (ls.map lineOf) ≤ 14000 := by
    refine Nat.le_trans (wt_bound (n := n) fun x hx => ?_) ?_
    · obtain ⟨l, hl, rfl⟩ := List.mem_map.mp hx
      exact (h l hl).2.2
    · rw [List.length_map]
      exact Nat.le_trans (Nat.mul_le_mul_right _ hm) hb
  have L : Lt ls := ⟨ne, fun l hl => ⟨(h l hl).1, (h l hl).2.1⟩, by omega⟩
  exact ⟨L, L.asc, Nat.le_trans (join_le tl_eol _) w1⟩
theorem lt_book (w : Int) (ts : List Tbl) (h1 : 1 ≤ w) (h2 : w ≤ 3) (hg : ∀ t ∈ ts, GT w t.1 t.2) (hl : ts.length ≤ 3) : Lt (bookWs w ts) ∧ Ok1 14000 (textOf (bookWs w ts)) := by
  have few : ∀ t ∈ ts, t.2.length ≤ 27 := fun t ht => str_few (hg t ht).str (hg t ht).row h2 (hg t ht).a3
  refine lt_small (m := 85) (n := 100) (by simp [bookWs, preB]) ?_ ?_ (by decide)
  · have := sum_le (m := 28) (l := (ts.map tabWs).map List.length) fun x hx => by
      obtain ⟨l, hl, rfl⟩ := List.mem_map.mp hx
      obtain ⟨t, ht, rfl⟩ := List.mem_map.mp hl
      have := few t ht
      simp only [tabWs, List.length_cons, List.length_map]; omega
    rw [List.length_map, List.length_map] at this
    rw [bookWs, preB, List.length_cons, List.length_flatten]
    omega
  · intro l hm
    rcases List.mem_cons.mp hm with rfl | hm
    · have a := numS_len (i := w) (by omega) (by omega)
      have b := numS_len (i := (ts.length : Nat)) (by omega) (by omega)
      exact ⟨by simp [hdB], wd5 (wd_lit (by decide +kernel)) (wd_lit (by decide +kernel)) (wd_lit (by decide +kernel)) (wd_num (by omega)) (wd_num (by omega)), line5 (by decide +kernel) (by decide +kernel) (by decide +kernel) a.1 b.1⟩
    · obtain ⟨l', hl', hm⟩ := List.mem_flatten.mp hm
      obtain ⟨t, ht, rfl⟩ := List.mem_map.mp hl'
      have g := hg t ht
      have g1 := g.a3
      have g2 := g.len
      rcases List.mem_cons.mp hm with rfl | hm
      · have a := numS_len (i := (t.1 : Nat)) (by omega) (by omega)
        have b := numS_len (i := (t.2.length : Nat)) (by omega) (by omega)
        exact ⟨by simp [hdT], wd5 (wd_lit (by decide +kernel)) (wd_lit (by decide +kernel)) (wd_lit (by decide +kernel)) (wd_num (by omega)) (wd_num (by omega)), line5 (by decide +kernel) (by decide +kernel) (by decide +kernel) a.1 b.1⟩
      · obtain ⟨r, hr, rfl⟩ := List.mem_map.mp hm
        have hs := gt_small h2 g hr
        have hrl := (g.row r hr).1
        have ha1 := g.a1
        refine ⟨?_, ?_, line_nums hs (by omega)⟩
        · intro z
          have := congrArg List.length z
          simp only [rowW, List.length_map, List.length_nil] at this
          omega
        · intro x hx
          obtain ⟨i, hi, rfl⟩ := List.mem_map.mp hx
          exact wd_num (hs i hi).1
theorem len_use {u : Use} (h : US u) : (lineOf (useW u)).length ≤ 200 := by
  have e := j_use (a := (u.1 : Nat)) h.ne
  have e2 : lineOf (useW u) = ("row " : Str) ++ numS (u.1 : Nat) ++ (" at " : Str) ++ lineOf (u.2.map numS) := e.symm
  have a := numS_len (i := (u.1 : Nat)) (by omega) h.nr
  have b := line_nums h.sm h.len
  have l1 : ("row " : Str).length = 4 := by decide +kernel
  have l2 : (" at " : Str).length = 4 := by decide +kernel
  rw [e2, len_app, len_app, len_app, l1, l2]
  omega
theorem lt_puz (P : Int) (us : List Use) (h1 : 0 ≤ P) (h2 : P ≤ 60) (hl : us.length ≤ 20) (hu : ∀ u ∈ us, US u) : Lt (puzWs P us.length us) ∧ Ok1 14000 (textOf (puzWs P us.length us)) := by
  refine lt_small (m := 21) (n := 200) (by simp [puzWs]) (by simp [puzWs]; omega) ?_ (by decide)
  intro l hm
  rcases List.mem_cons.mp hm with rfl | hm
  · have a := numS_len (i := P) (by omega) (by omega)
    have b := numS_len (i := (us.length : Nat)) (by omega) (by omega)
    exact ⟨by simp [hdP], wd5 (wd_lit (by decide +kernel)) (wd_lit (by decide +kernel)) (wd_lit (by decide +kernel)) (wd_num (by omega)) (wd_num (by omega)), Nat.le_trans (line5 (by decide +kernel) (by decide +kernel) (by decide +kernel) a.1 b.1) (by decide)⟩
  · obtain ⟨u, hu', rfl⟩ := List.mem_map.mp hm
    exact ⟨by simp [useW], wd_use (hu u hu'), len_use (hu u hu')⟩
/-! ### changes, one behind the other -/
def Bd3 : Nat → Nat
  | 0 => 14000
  | n + 1 => 3 * Bd3 n + 40
def lE (ns : List Int) (x1 : Option Sl) (F : Nat) (w : Int) (ts : List Tbl) (P : Int) (us : List Use) (x9 x10 x11 x12 x13 x14 x15 x16 : Option Sl) : En :=
  [some (.f (.scr ns)), x1, some (.f (.cell F)), some (.f (.int w)), some (.f (.lst (ts.map tabD))), some (.f (bobj w ts)), some (.f (.int P)), some (.f (.lst (us.map useD))), some (.f (.lst [.str (textOf (bookWs w ts)), .str (textOf (puzWs P us.length us))])), x9, x10, x11, x12, x13, x14, x15, x16]
theorem ch_loop (ns : List Int) (x1 : Option Sl) (F : Nat) (w : Int) (ts : List Tbl) (P : Int) (us : List Use) (x9 x10 x13 x14 x15 x16 : Option Sl) : ∀ (n j : Nat) (i : Int) (x : Str) (x12 : Option Sl) (c : Cs), j + n ≤ 3 → Ok1 (Bd3 j) x → Fd F c →
    ∃ x' y12 c', forD (gSet 12) (fSet 11 (fCall m__law_changed (aCons (fVar 2) (aCons (fVar 11) aNil)))) (rangeD i n) (lE ns x1 F w ts P us x9 x10 (some (.f (.str x))) x12 x13 x14 x15 x16) c = some (.nx, lE ns x1 F w ts P us x9 x10 (some (.f (.str x'))) y12 x13 x14 x15 x16, c') ∧ Ok1 (Bd3 (j + n)) x' ∧ FdTo F c c'
  | 0, j, i, x, x12, c, hj, hx, hc => ⟨x, x12, c, rfl, hx, .refl hc⟩
  | n + 1, j, i, x, x12, c, hj, hx, hc => by
    have hb : Bd3 j ≤ 130000 := by
      have : j = 0 ∨ j = 1 ∨ j = 2 := by omega
      rcases this with rfl | rfl | rfl <;> decide
    obtain ⟨x1', c1, e1, ok1, f1⟩ := s_changed c F x (Bd3 j) hx hb hc
    obtain ⟨x', y12, c', e2, ok2, f2⟩ := ch_loop ns x1 F w ts P us x9 x10 x13 x14 x15 x16 n (j + 1) (i + 1) x1' (some (.f (.int i))) c1 (by omega) ok1 f1.fd
    rw [show j + 1 + n = j + (n + 1) by omega] at ok2
    refine ⟨x', y12, c', ?_, ok2, f1.trans f2⟩
    rw [rangeD_succ]
    have st : fSet 11 (fCall m__law_changed (aCons (fVar 2) (aCons (fVar 11) aNil))) (lE ns x1 F w ts P us x9 x10 (some (.f (.str x))) (some (.f (.int i))) x13 x14 x15 x16) c = some (.nx, lE ns x1 F w ts P us x9 x10 (some (.f (.str x1'))) (some (.f (.int i))) x13 x14 x15 x16, c1) :=
      set_of ((call_of (aC rfl (aC rfl aN))).trans e1)
    have g : gSet 12 (.int i) (lE ns x1 F w ts P us x9 x10 (some (.f (.str x))) x12 x13 x14 x15 x16) = some (lE ns x1 F w ts P us x9 x10 (some (.f (.str x))) (some (.f (.int i))) x13 x14 x15 x16) := rfl
    exact (forD_step g st).trans e2
/-! ### one text -/
abbrev dueI : FS := (fIte (fNot (asB (fIsi (fun s => isaB s "int") (tc_none 3) (fVarQ 14))))
  (fSeq (fSet 15 (fIf (asB (fOp oEq (fVarQ 10) (fC (.int 0)))) (fCall m__law_lines_of (aCons (fOp oIx (fVarQ 14) (fC (.int 0))) (aCons (fOp oIx (fVarQ 14) (fC (.int 1))) aNil))) (fCall m__law_use_lines (aCons (fOp oIx (fVarQ 14) (fC (.int 0))) (aCons (fOp oIx (fVarQ 14) (fC (.int 1))) aNil)))))
  (fSet 14 (fMd "str" mJoin (fC (.str "\n")) (aCons (fVarQ 15) aNil))))
  fNx)
abbrev dueB : FS := (fSeq dueI
  (fSeq (fSet 16 (fCall m__law_told (aCons (fVar 10) (aCons (fVar 11) (aCons (fVar 5) aNil)))))
  (fIte (fOr (asB (fIsi (fun s => isaB s "bool") (tc_none 3) (fVarQ 16))) (asB (fOp oNe (fVarQ 16) (fVarQ 14))))
  (fRet (fC (.bl false)))
  fNx)))
theorem due0 (ns : List Int) (x1 : Option Sl) (F : Nat) (w : Int) (ts : List Tbl) (P : Int) (us : List Use) (ls : List (List Str)) (hL : Lt ls) (x9 x12 x13 x15 x16 : Option Sl) (c : Cs) :
    ∃ y14 y15 y16, dueB (lE ns x1 F w ts P us x9 (some (.f (.int 0))) (some (.f (.str (textOf ls)))) x12 x13 (some (.f (bookL ls))) x15 x16) c = some (.nx, lE ns x1 F w ts P us x9 (some (.f (.int 0))) (some (.f (.str (textOf ls)))) x12 x13 y14 y15 y16, c) := by
  have et := s_told0 ls hL (bobj w ts) c
  have z : oEq (.int 0) (.int 0) c = some (.bl true, c) := by rw [oEq_int]; rfl
  cases eb : bookP ls with
  | inl e =>
    have e1 : bookL ls = .int (e : Nat) := by unfold bookL; rw [eb]
    have e2 : bookT ls = .int (e : Nat) := by unfold bookT; rw [eb]
    rw [e2] at et
    rw [e1]
    have n1 : oNe (.int (e : Nat)) (.int (e : Nat)) c = some (.bl false, c) := by rw [oNe_int]; simp
    refine ⟨some (.f (.int (e : Nat))), x15, some (.f (.int (e : Nat))), (fSeq_nx ((fIte_f (c1 := c) (not_of (b := true) (asB_of (isi_of (x := .int (e : Nat)) (c1 := c) rfl rfl)))).trans rfl)).trans ?_⟩
    refine (fSeq_nx (set_of ((call_of (aC rfl (aC rfl (aC rfl aN)))).trans et))).trans ?_
    exact (fIte_f (c1 := c) ((or_f (c1 := c) (asB_of (isi_of (x := .int (e : Nat)) (c1 := c) rfl rfl))).trans (asB_of ((op_of rfl rfl).trans n1)))).trans rfl
  | inr q =>
    obtain ⟨w', ts'⟩ := q
    obtain ⟨h1, h2, hg, hls⟩ := bookP_spec eb
    have hL' : Lt (bookWs w' ts') := hls ▸ hL
    have e1 : bookL ls = .lst [.int w', .lst (ts'.map tabD)] := by unfold bookL; rw [eb]
    have e2 : bookT ls = .str (textOf (bookWs w' ts')) := by unfold bookT; rw [eb]
    rw [e2] at et
    rw [e1]
    have i0 : oIx (.lst [.int w', .lst (ts'.map tabD)]) (.int 0) c = some (.int w', c) := by simp only [oIx, ixD, deref, atI0]
    have i1 : oIx (.lst [.int w', .lst (ts'.map tabD)]) (.int 1) c = some (.lst (ts'.map tabD), c) := by simp only [oIx, ixD, deref, atI1]
    have e3 := s_lines_book w' ts' h1 h2 hg hL' c
    have e4 := hL'.join c
    have n1 : oNe (.str (textOf (bookWs w' ts'))) (.str (textOf (bookWs w' ts'))) c = some (.bl false, c) := by
      rw [oNe_str hL'.asc hL'.asc]; simp
    have s1 : dueI (lE ns x1 F w ts P us x9 (some (.f (.int 0))) (some (.f (.str (textOf ls)))) x12 x13 (some (.f (.lst [.int w', .lst (ts'.map tabD)]))) x15 x16) c = some (.nx, lE ns x1 F w ts P us x9 (some (.f (.int 0))) (some (.f (.str (textOf ls)))) x12 x13 (some (.f (.str (textOf (bookWs w' ts'))))) (some (.f (linesD (bookWs w' ts')))) x16, c) := by
      refine (fIte_t (c1 := c) (not_of (b := false) (asB_of (isi_of (x := .lst [.int w', .lst (ts'.map tabD)]) (c1 := c) rfl rfl)))).trans ?_
      refine (fSeq_nx (set_of ((if_t (c1 := c) (asB_of ((op_of rfl rfl).trans z))).trans ((call_of (aC ((op_of rfl rfl).trans i0) (aC ((op_of rfl rfl).trans i1) aN))).trans e3)))).trans ?_
      exact set_of ((md_of rfl rfl (aC rfl aN)).trans e4)
    refine ⟨some (.f (.str (textOf (bookWs w' ts')))), some (.f (linesD (bookWs w' ts'))), some (.f (.str (textOf (bookWs w' ts')))), (fSeq_nx s1).trans ?_⟩
    refine (fSeq_nx (set_of ((call_of (aC rfl (aC rfl (aC rfl aN)))).trans et))).trans ?_
    exact (fIte_f (c1 := c) ((or_f (c1 := c) (asB_of (isi_of (x := .str (textOf (bookWs w' ts'))) (c1 := c) rfl rfl))).trans (asB_of ((op_of rfl rfl).trans n1)))).trans rfl
theorem due1 (ns : List Int) (x1 : Option Sl) (F : Nat) (w : Int) (ts : List Tbl) (P : Int) (us : List Use) (hts : ts.length ≤ 1000) (hg : ∀ t ∈ ts, GT w t.1 t.2) (hw : w ≤ 3) (ls : List (List Str)) (hL : Lt ls) (x9 x12 x13 x15 x16 : Option Sl) (c : Cs) :
    ∃ y14 y15 y16, dueB (lE ns x1 F w ts P us x9 (some (.f (.int 1))) (some (.f (.str (textOf ls)))) x12 x13 (some (.f (puzL ls ts))) x15 x16) c = some (.nx, lE ns x1 F w ts P us x9 (some (.f (.int 1))) (some (.f (.str (textOf ls)))) x12 x13 y14 y15 y16, c) := by
  have et := s_told1 w ts hts hg hw ls hL c
  have z : oEq (.int 1) (.int 0) c = some (.bl false, c) := by rw [oEq_int]; rfl
  cases eb : puzzleP ls ts with
  | inl e =>
    have e1 : puzL ls ts = .int (e : Nat) := by unfold puzL; rw [eb]
    have e2 : puzT ls ts = .int (e : Nat) := by unfold puzT; rw [eb]
    rw [e2] at et
    rw [e1]
    have n1 : oNe (.int (e : Nat)) (.int (e : Nat)) c = some (.bl false, c) := by rw [oNe_int]; simp
    refine ⟨some (.f (.int (e : Nat))), x15, some (.f (.int (e : Nat))), (fSeq_nx ((fIte_f (c1 := c) (not_of (b := true) (asB_of (isi_of (x := .int (e : Nat)) (c1 := c) rfl rfl)))).trans rfl)).trans ?_⟩
    refine (fSeq_nx (set_of ((call_of (aC rfl (aC rfl (aC rfl aN)))).trans et))).trans ?_
    exact (fIte_f (c1 := c) ((or_f (c1 := c) (asB_of (isi_of (x := .int (e : Nat)) (c1 := c) rfl rfl))).trans (asB_of ((op_of rfl rfl).trans n1)))).trans rfl
  | inr q =>
    obtain ⟨P', us'⟩ := q
    obtain ⟨h1, h2, hu, hls⟩ := puzzleP_spec eb
    have hus : ∀ u ∈ us', US u := fun u h => (hu u h).1.us h2 hg hts
    have hL' : Lt (puzWs P' us'.length us') := hls ▸ hL
    have hlen : us'.length ≤ 500000 := by
      have := hL'.cnt
      simp only [puzWs, List.length_cons, List.length_map] at this
      omega
    have e1 : puzL ls ts = .lst [.int P', .lst (us'.map useD)] := by unfold puzL; rw [eb]
    have e2 : puzT ls ts = .str (textOf (puzWs P' us'.length us')) := by unfold puzT; rw [eb]
    rw [e2] at et
    rw [e1]
    have i0 : oIx (.lst [.int P', .lst (us'.map useD)]) (.int 0) c = some (.int P', c) := by simp only [oIx, ixD, deref, atI0]
    have i1 : oIx (.lst [.int P', .lst (us'.map useD)]) (.int 1) c = some (.lst (us'.map useD), c) := by simp only [oIx, ixD, deref, atI1]
    have e3 := s_use_lines P' us' h1 h2 hlen hus c
    have e4 := hL'.join c
    have n1 : oNe (.str (textOf (puzWs P' us'.length us'))) (.str (textOf (puzWs P' us'.length us'))) c = some (.bl false, c) := by
      rw [oNe_str hL'.asc hL'.asc]; simp
    have s1 : dueI (lE ns x1 F w ts P us x9 (some (.f (.int 1))) (some (.f (.str (textOf ls)))) x12 x13 (some (.f (.lst [.int P', .lst (us'.map useD)]))) x15 x16) c = some (.nx, lE ns x1 F w ts P us x9 (some (.f (.int 1))) (some (.f (.str (textOf ls)))) x12 x13 (some (.f (.str (textOf (puzWs P' us'.length us'))))) (some (.f (linesD (puzWs P' us'.length us')))) x16, c) := by
      refine (fIte_t (c1 := c) (not_of (b := false) (asB_of (isi_of (x := .lst [.int P', .lst (us'.map useD)]) (c1 := c) rfl rfl)))).trans ?_
      refine (fSeq_nx (set_of ((if_f (c1 := c) (asB_of ((op_of rfl rfl).trans z))).trans ((call_of (aC ((op_of rfl rfl).trans i0) (aC ((op_of rfl rfl).trans i1) aN))).trans e3)))).trans ?_
      exact set_of ((md_of rfl rfl (aC rfl aN)).trans e4)
    refine ⟨some (.f (.str (textOf (puzWs P' us'.length us')))), some (.f (linesD (puzWs P' us'.length us'))), some (.f (.str (textOf (puzWs P' us'.length us')))), (fSeq_nx s1).trans ?_⟩
    refine (fSeq_nx (set_of ((call_of (aC rfl (aC rfl (aC rfl aN)))).trans et))).trans ?_
    exact (fIte_f (c1 := c) ((or_f (c1 := c) (asB_of (isi_of (x := .str (textOf (puzWs P' us'.length us'))) (c1 := c) rfl rfl))).trans (asB_of ((op_of rfl rfl).trans n1)))).trans rfl
end M58
set_option Elab.async false
set_option linter.all false
set_option maxRecDepth 100000
set_option maxHeartbeats 0
namespace M58
open PySem PySem.Spec PyProof.Rows L2 Pd L58 Ma TL
abbrev turnB : FS := (fSeq (fSet 10 (fOp oMod (fVarQ 9) (fC (.int 2))))
  (fSeq (fSet 11 (fOp oIx (fVarQ 8) (fVarQ 10)))
  (fSeq (fFor (fRg1 (aCons (fCall m__law_pick (aCons (fVar 2) (aCons (fLst (aCons (fC (.int 1)) (aCons (fC (.int 1)) (aCons (fC (.int 2)) (aCons (fC (.int 3)) aNil))))) aNil))) aNil)) (gSet 12)
  (fSet 11 (fCall m__law_changed (aCons (fVar 2) (aCons (fVar 11) aNil)))))
  (fSeq (fSet 13 (fMd "str" mSplit (fVarQ 11) (aCons (fC (.str "\n")) aNil)))
  (fSeq (fSet 14 (fIf (asB (fOp oEq (fVarQ 10) (fC (.int 0)))) (fCall m__law_book_due (aCons (fVar 13) aNil)) (fCall m__law_puzzle_due (aCons (fVar 13) (aCons (fVar 4) aNil)))))
  dueB)))))
structure Gd (w : Int) (ts : List Tbl) (P : Int) (us : List Use) : Prop where
  w1 : 1 ≤ w
  w3 : w ≤ 3
  ts3 : ts.length ≤ 3
  gt : ∀ t ∈ ts, GT w t.1 t.2
  P0 : 0 ≤ P
  P60 : P ≤ 60
  us20 : us.length ≤ 20
  gu : ∀ u ∈ us, GU ts P u
theorem pick_n (F : Nat) (c : Cs) (hc : Fd F c) : ∃ (n : Nat) (c' : Cs), n ≤ 3 ∧ m__law_pick [.cell F, .lst [.int 1, .int 1, .int 2, .int 3]] c = some (.int (n : Nat), c') ∧ FdTo F c c' := by
  obtain ⟨x, c', hx, e, f⟩ := s_pick c F [.int 1, .int 1, .int 2, .int 3] hc (by simp) (by simp)
  simp only [List.mem_cons, List.not_mem_nil, or_false] at hx
  rcases hx with rfl | rfl | rfl | rfl
  · exact ⟨1, c', by omega, e, f⟩
  · exact ⟨1, c', by omega, e, f⟩
  · exact ⟨2, c', by omega, e, f⟩
  · exact ⟨3, c', by omega, e, f⟩
theorem s_text (ns : List Int) (x1 : Option Sl) (F : Nat) (w : Int) (ts : List Tbl) (P : Int) (us : List Use) (G : Gd w ts P us) (i : Nat) (x10 x11 x12 x13 x14 x15 x16 : Option Sl) (c : Cs) (hc : Fd F c) :
    ∃ y10 y11 y12 y13 y14 y15 y16 c', turnB (lE ns x1 F w ts P us (some (.f (.int (0 + (i : Nat))))) x10 x11 x12 x13 x14 x15 x16) c = some (.nx, lE ns x1 F w ts P us (some (.f (.int (0 + (i : Nat))))) y10 y11 y12 y13 y14 y15 y16, c') ∧ Fd F c' := by
  obtain ⟨lb, ob⟩ := lt_book w ts G.w1 G.w3 G.gt G.ts3
  have hus : ∀ u ∈ us, US u := fun u h => (G.gu u h).us G.P60 G.gt (by have := G.ts3; omega)
  obtain ⟨lp, op⟩ := lt_puz P us G.P0 G.P60 G.us20 hus
  have hts : ts.length ≤ 1000 := by have := G.ts3; omega
  obtain ⟨n, c1, hn, en, fn⟩ := pick_n F c hc
  have s1 : small62 ((n : Nat) : Int) = true := sm62 (by omega) (by omega)
  have s2 : ((n : Nat) : Int).toNat = n := by omega
  have l4 : 4 ≤ lim := by decide
  have em : oMod (.int (0 + (i : Nat))) (.int 2) c = some (.int (((i : Nat) : Int) % 2), c) := by
    rw [mod_p (by decide), Int.zero_add]
  have bnd : ∀ m ≤ 3, Bd3 m ≤ 499999 := by
    intro m hm
    have : m = 0 ∨ m = 1 ∨ m = 2 ∨ m = 3 := by omega
    rcases this with rfl | rfl | rfl | rfl <;> decide +kernel
  rcases (show ((i : Nat) : Int) % 2 = 0 ∨ ((i : Nat) : Int) % 2 = 1 by omega) with h | h
  · rw [h] at em
    have ix : oIx (.lst [.str (textOf (bookWs w ts)), .str (textOf (puzWs P us.length us))]) (.int 0) c = some (.str (textOf (bookWs w ts)), c) := by simp only [oIx, ixD, deref, atI0]
    obtain ⟨x', y12, c2, e2, ok2, f2⟩ := ch_loop ns x1 F w ts P us (some (.f (.int (0 + (i : Nat))))) (some (.f (.int 0))) x13 x14 x15 x16 n 0 0 (textOf (bookWs w ts)) x12 c1 (by omega) ob fn.fd
    obtain ⟨ls, hL, rfl⟩ := lt_of ok2.asc (Nat.le_trans ok2.len (bnd _ (by omega)))
    have sp : mSplit [.str (textOf ls), .str eol] c2 = some (linesD ls, c2) := by
      have := mSplit_of (x := textOf ls) (y := eol) (by decide +kernel) (lim_le (by have := hL.tlen; omega)) c2
      rw [hL.split] at this
      exact this
    have z : oEq (.int 0) (.int 0) c2 = some (.bl true, c2) := by rw [oEq_int]; rfl
    have ed := s_book_due ls hL c2
    obtain ⟨y14, y15, y16, e3⟩ := due0 ns x1 F w ts P us ls hL (some (.f (.int (0 + (i : Nat))))) y12 (some (.f (linesD ls))) x15 x16 c2
    refine ⟨some (.f (.int 0)), some (.f (.str (textOf ls))), y12, some (.f (linesD ls)), y14, y15, y16, c2, ?_, (fn.trans f2).fd⟩
    refine (fSeq_nx (set_of ((op_of rfl rfl).trans em))).trans ?_
    refine (fSeq_nx (set_of ((op_of rfl rfl).trans ix))).trans ?_
    refine (fSeq_nx ((fFor_of (fRg1_of (j := n) (k := n) (c1 := c1) (aC ((call_of (aC rfl (aC (lst_of (aC rfl (aC rfl (aC rfl (aC rfl aN)))) l4) aN))).trans en) aN) s1 s2)).trans e2)).trans ?_
    refine (fSeq_nx (set_of ((md_of rfl rfl (aC rfl aN)).trans sp))).trans ?_
    refine (fSeq_nx (set_of ((if_t (c1 := c2) (asB_of ((op_of rfl rfl).trans z))).trans ((call_of (aC rfl aN)).trans ed)))).trans ?_
    exact e3
  · rw [h] at em
    have ix : oIx (.lst [.str (textOf (bookWs w ts)), .str (textOf (puzWs P us.length us))]) (.int 1) c = some (.str (textOf (puzWs P us.length us)), c) := by simp only [oIx, ixD, deref, atI1]
    obtain ⟨x', y12, c2, e2, ok2, f2⟩ := ch_loop ns x1 F w ts P us (some (.f (.int (0 + (i : Nat))))) (some (.f (.int 1))) x13 x14 x15 x16 n 0 0 (textOf (puzWs P us.length us)) x12 c1 (by omega) op fn.fd
    obtain ⟨ls, hL, rfl⟩ := lt_of ok2.asc (Nat.le_trans ok2.len (bnd _ (by omega)))
    have sp : mSplit [.str (textOf ls), .str eol] c2 = some (linesD ls, c2) := by
      have := mSplit_of (x := textOf ls) (y := eol) (by decide +kernel) (lim_le (by have := hL.tlen; omega)) c2
      rw [hL.split] at this
      exact this
    have z : oEq (.int 1) (.int 0) c2 = some (.bl false, c2) := by rw [oEq_int]; rfl
    have ed := s_puzzle_due w ts hts G.gt ls hL c2
    obtain ⟨y14, y15, y16, e3⟩ := due1 ns x1 F w ts P us hts G.gt G.w3 ls hL (some (.f (.int (0 + (i : Nat))))) y12 (some (.f (linesD ls))) x15 x16 c2
    refine ⟨some (.f (.int 1)), some (.f (.str (textOf ls))), y12, some (.f (linesD ls)), y14, y15, y16, c2, ?_, (fn.trans f2).fd⟩
    refine (fSeq_nx (set_of ((op_of rfl rfl).trans em))).trans ?_
    refine (fSeq_nx (set_of ((op_of rfl rfl).trans ix))).trans ?_
    refine (fSeq_nx ((fFor_of (fRg1_of (j := n) (k := n) (c1 := c1) (aC ((call_of (aC rfl (aC (lst_of (aC rfl (aC rfl (aC rfl (aC rfl aN)))) l4) aN))).trans en) aN) s1 s2)).trans e2)).trans ?_
    refine (fSeq_nx (set_of ((md_of rfl rfl (aC rfl aN)).trans sp))).trans ?_
    refine (fSeq_nx (set_of ((if_f (c1 := c2) (asB_of ((op_of rfl rfl).trans z))).trans ((call_of (aC rfl (aC rfl aN))).trans ed)))).trans ?_
    exact e3
/-! ### values that are no texts -/
abbrev oddBd : FS := (fIte (asB (fOp oNe (fLst (aCons (fCall m__law_told (aCons (fC (.int 0)) (aCons (fVar 11) (aCons (fVar 5) aNil)))) (aCons (fCall m__law_told (aCons (fC (.int 1)) (aCons (fVar 11) (aCons (fVar 5) aNil)))) aNil))) (fLst (aCons (fC (.int 1)) (aCons (fC (.int 1)) aNil)))))
  (fRet (fC (.bl false)))
  fNx)
theorem odd_of (ns : List Int) (x1 : Option Sl) (F : Nat) (w : Int) (ts : List Tbl) (P : Int) (us : List Use) (x9 x10 x12 x13 x14 x15 x16 : Option Sl) (c : Cs) (d : D) (h0 : m__law_told [.int 0, d, bobj w ts] c = some (.int 1, c)) (h1 : m__law_told [.int 1, d, bobj w ts] c = some (.int 1, c)) :
    oddBd (lE ns x1 F w ts P us x9 x10 (some (.f d)) x12 x13 x14 x15 x16) c = some (.nx, lE ns x1 F w ts P us x9 x10 (some (.f d)) x12 x13 x14 x15 x16, c) := by
  have l2 : 2 ≤ lim := by decide
  have n1 : oNe (.lst [.int 1, .int 1]) (.lst [.int 1, .int 1]) c = some (.bl false, c) := oNe_self (p := .list [.int 1, .int 1]) (by rfl)
  exact (fIte_f (c1 := c) (asB_of ((op_of (lst_of (aC ((call_of (aC rfl (aC rfl (aC rfl aN)))).trans h0) (aC ((call_of (aC rfl (aC rfl (aC rfl aN)))).trans h1) aN)) l2) (lst_of (aC rfl (aC rfl aN)) l2)).trans n1))).trans rfl
theorem lt_empty : Lt [[Str.ofString ""]] := by
  refine ⟨by simp, ?_, ?_⟩
  · intro l hl
    rw [List.mem_singleton.mp hl]
    refine ⟨by simp, fun w hw => ?_⟩
    rw [List.mem_singleton.mp hw]
    exact wd_lit (by decide +kernel)
  · decide +kernel
theorem text_empty : textOf [[Str.ofString ""]] = Str.ofString "" := by
  apply ext_tl
  show tl (Txt.join eol [Txt.join blank [Str.ofString ""]]) = _
  rw [tl_joinT, List.map_cons, List.map_nil, joinL, tl_joinT]; rfl
theorem s_odds (ns : List Int) (x1 : Option Sl) (F : Nat) (w : Int) (ts : List Tbl) (P : Int) (us : List Use) (G : Gd w ts P us) (x9 x10 x11 x12 x13 x14 x15 x16 : Option Sl) (c : Cs) :
    ∃ y11, forD (gSet 11) oddBd [.non, .int 0, .bl true, .lst [], .lst [.str "book width 1 tables 0"], .tup [], .str ""] (lE ns x1 F w ts P us x9 x10 x11 x12 x13 x14 x15 x16) c = some (.nx, lE ns x1 F w ts P us x9 x10 y11 x12 x13 x14 x15 x16, c) := by
  have hts : ts.length ≤ 1000 := by have := G.ts3; omega
  have bad : ∀ d, isiD (fun s => isaB s "str") (tc_none 3) c d = some false → oddBd (lE ns x1 F w ts P us x9 x10 (some (.f d)) x12 x13 x14 x15 x16) c = some (.nx, lE ns x1 F w ts P us x9 x10 (some (.f d)) x12 x13 x14 x15 x16, c) := fun d h =>
    odd_of ns x1 F w ts P us x9 x10 x12 x13 x14 x15 x16 c d (s_told_bad0 d _ c h) (s_told_bad1 d _ c h)
  have em : oddBd (lE ns x1 F w ts P us x9 x10 (some (.f (.str (Str.ofString "")))) x12 x13 x14 x15 x16) c = some (.nx, lE ns x1 F w ts P us x9 x10 (some (.f (.str (Str.ofString "")))) x12 x13 x14 x15 x16, c) := by
    have a := s_told0 [[Str.ofString ""]] lt_empty (bobj w ts) c
    have b := s_told1 w ts hts G.gt G.w3 [[Str.ofString ""]] lt_empty c
    rw [text_empty] at a b
    exact odd_of ns x1 F w ts P us x9 x10 x12 x13 x14 x15 x16 c _ a b
  have g : ∀ (d : D) (y : Option Sl), gSet 11 d (lE ns x1 F w ts P us x9 x10 y x12 x13 x14 x15 x16) = some (lE ns x1 F w ts P us x9 x10 (some (.f d)) x12 x13 x14 x15 x16) := fun _ _ => rfl
  refine ⟨some (.f (.str (Str.ofString ""))), ?_⟩
  refine (forD_step (g _ _) (bad _ rfl)).trans ?_
  refine (forD_step (g _ _) (bad _ rfl)).trans ?_
  refine (forD_step (g _ _) (bad _ rfl)).trans ?_
  refine (forD_step (g _ _) (bad _ rfl)).trans ?_
  refine (forD_step (g _ _) (bad _ rfl)).trans ?_
  refine (forD_step (g _ _) (bad _ rfl)).trans ?_
  exact (forD_step (g _ _) em).trans rfl
/-! ### one cell -/
abbrev bodyL : FS := (fSeq (fSet 2 (fCall m__law_feed (aCons (fVar 0) (aCons (fVar 1) aNil))))
  (fSeq (fSet 3 (fCall m__law_width (aCons (fVar 2) aNil)))
  (fSeq (fSet 4 (fCall m__law_drawn_tables (aCons (fVar 2) (aCons (fVar 3) (aCons (fC (.int 3)) aNil)))))
  (fSeq (fPar 5 6 (xF (fCall m__law_program_book (aCons (fVar 3) (aCons (fVar 4) aNil)))) (xF (fCall m__law_take (aCons (fVar 2) (aCons (fC (.int 5)) aNil)))))
  (fSeq (fSet 7 (fCall m__law_uses (aCons (fVar 2) (aCons (fVar 4) (aCons (fVar 6) (aCons (fCall m__law_take (aCons (fVar 2) (aCons (fC (.int 5)) aNil))) aNil))))))
  (fSeq (fSet 8 (fLst (aCons (fMd "str" mJoin (fC (.str "\n")) (aCons (fCall m__law_lines_of (aCons (fVar 3) (aCons (fVar 4) aNil))) aNil)) (aCons (fMd "str" mJoin (fC (.str "\n")) (aCons (fCall m__law_use_lines (aCons (fVar 6) (aCons (fVar 7) aNil))) aNil)) aNil))))
  (fSeq (fFor (fRg1 (aCons (fC (.int 8)) aNil)) (gSet 9) turnB)
  (fFor (fIt (fTup (aCons (fC .non) (aCons (fC (.int 0)) (aCons (fC (.bl true)) (aCons (fLst aNil) (aCons (fLst (aCons (fC (.str "book width 1 tables 0")) aNil)) (aCons (fTup aNil) (aCons (fC (.str "")) aNil))))))))) (gSet 11) oddBd))))))))
def l0E (ns : List Int) (x1 x2 x3 x4 x5 x6 x7 x8 x9 x10 x11 x12 x13 x14 x15 x16 : Option Sl) : En := [some (.f (.scr ns)), x1, x2, x3, x4, x5, x6, x7, x8, x9, x10, x11, x12, x13, x14, x15, x16]
theorem s_cell (ns : List Int) (k : Nat) (c : Cs) (x2 x3 x4 x5 x6 x7 x8 x9 x10 x11 x12 x13 x14 x15 x16 : Option Sl) :
    ∃ (y2 y3 y4 y5 y6 y7 y8 y9 y10 y11 y12 y13 y14 y15 y16 : Option Sl) (c' : Cs), bodyL (l0E ns (some (.f (.int (0 + (k : Nat))))) x2 x3 x4 x5 x6 x7 x8 x9 x10 x11 x12 x13 x14 x15 x16) c = some (.nx, l0E ns (some (.f (.int (0 + (k : Nat))))) y2 y3 y4 y5 y6 y7 y8 y9 y10 y11 y12 y13 y14 y15 y16, c') := by
  obtain ⟨dg, st, e1⟩ := s_feed ns k c
  have e1' : m__law_feed [.scr ns, .int (0 + (k : Nat))] c = some (.cell c.length, c ++ [.lst [.int dg, .int st]]) := by
    rw [show (0 : Int) + (k : Nat) = (k : Nat) by omega]; exact e1
  have hf1 : Fd c.length (c ++ [.lst [.int dg, .int st]]) := ⟨dg, st, by simp⟩
  generalize c ++ [.lst [.int dg, .int st]] = c1 at e1' hf1
  generalize c.length = F at e1' hf1
  obtain ⟨w, c2, h1, h2, e2, f2⟩ := s_width c1 F hf1
  obtain ⟨ts, c3, e3, hl, hg, f3⟩ := s_drawn_tables c2 F w 3 f2.fd h1 h2 (by decide)
  have e4 := s_program_book w ts h1 h2 hg (by omega) c3
  obtain ⟨P, c4, P0, P1, e5, f5⟩ := s_take c3 F 5 f3.fd (by omega) (by omega)
  obtain ⟨m0, c5, m1, m2, e6, f6⟩ := s_take c4 F 5 f5.fd (by omega) (by omega)
  obtain ⟨m, hm⟩ := Int.eq_ofNat_of_zero_le m1
  obtain ⟨us, c6, e7, hu, gu, f7⟩ := s_uses c5 F w ts P m f6.fd P0 (by omega) hg (by omega) (by omega)
  rw [← hm] at e7
  have G : Gd w ts P us := ⟨h1, h2, hl, hg, P0, by omega, by omega, gu⟩
  have hus : ∀ u ∈ us, US u := fun u h => (gu u h).us (by omega) hg (by omega)
  obtain ⟨lb, _⟩ := lt_book w ts h1 h2 hg hl
  obtain ⟨lp, _⟩ := lt_puz P us P0 (by omega) (by omega) hus
  have e8 := s_lines_book w ts h1 h2 hg lb c6
  have e9 := lb.join c6
  have e10 := s_use_lines P us P0 (by omega) (by omega) hus c6
  have e11 := lp.join c6
  have l2 : 2 ≤ lim := by decide
  have key := forD_st (g := gSet 9) (fb := turnB) (h := fun i : Nat => D.int (0 + (i : Nat)))
    (fun pre env c' => (∃ y9 y10 y11 y12 y13 y14 y15 y16 : Option Sl, env = lE ns (some (.f (.int (0 + (k : Nat))))) F w ts P us y9 y10 y11 y12 y13 y14 y15 y16) ∧ Fd F c')
    (xs := List.range 8) (env := lE ns (some (.f (.int (0 + (k : Nat))))) F w ts P us x9 x10 x11 x12 x13 x14 x15 x16) (c := c6) ⟨⟨_, _, _, _, _, _, _, _, rfl⟩, f7.fd⟩
  have fin := key (by
    intro pre i post e env c' ⟨⟨y9, y10, y11, y12, y13, y14, y15, y16, he⟩, hc'⟩
    subst he
    obtain ⟨z10, z11, z12, z13, z14, z15, z16, c'', et, fc⟩ := s_text ns (some (.f (.int (0 + (k : Nat))))) F w ts P us G i y10 y11 y12 y13 y14 y15 y16 c' hc'
    exact ⟨_, _, c'', rfl, et, ⟨_, _, _, _, _, _, _, _, rfl⟩, fc⟩)
  obtain ⟨env', c7, ek, ⟨y9, y10, y11, y12, y13, y14, y15, y16, he⟩, _⟩ := fin
  subst he
  obtain ⟨z11, eo⟩ := s_odds ns (some (.f (.int (0 + (k : Nat))))) F w ts P us G y9 y10 y11 y12 y13 y14 y15 y16 c7
  have ct : fTup (aCons (fC .non) (aCons (fC (.int 0)) (aCons (fC (.bl true)) (aCons (fLst aNil) (aCons (fLst (aCons (fC (.str "book width 1 tables 0")) aNil)) (aCons (fTup aNil) (aCons (fC (.str "")) aNil))))))) (lE ns (some (.f (.int (0 + (k : Nat))))) F w ts P us y9 y10 y11 y12 y13 y14 y15 y16) c7 = some (.tup [.non, .int 0, .bl true, .lst [], .lst [.str "book width 1 tables 0"], .tup [], .str ""], c7) :=
    tup_of (aC rfl (aC rfl (aC rfl (aC (lst_of aN (by decide)) (aC (lst_of (aC rfl aN) (by decide)) (aC (tup_of aN (by decide)) (aC rfl aN))))))) (by decide)
  refine ⟨some (.f (.cell F)), some (.f (.int w)), some (.f (.lst (ts.map tabD))), some (.f (bobj w ts)), some (.f (.int P)), some (.f (.lst (us.map useD))), some (.f (.lst [.str (textOf (bookWs w ts)), .str (textOf (puzWs P us.length us))])), y9, y10, z11, y12, y13, y14, y15, y16, c7, ?_⟩
  refine (fSeq_nx (set_of ((call_of (aC rfl (aC rfl aN))).trans e1'))).trans ?_
  refine (fSeq_nx (set_of ((call_of (aC rfl aN)).trans e2))).trans ?_
  refine (fSeq_nx (set_of ((call_of (aC rfl (aC rfl (aC rfl aN)))).trans e3))).trans ?_
  refine (fSeq_nx (par_of (xF_of ((call_of (aC rfl (aC rfl aN))).trans e4)) (xF_of ((call_of (aC rfl (aC rfl aN))).trans e5)))).trans ?_
  refine (fSeq_nx (set_of ((call_of (aC rfl (aC rfl (aC rfl (aC ((call_of (aC rfl (aC rfl aN))).trans e6) aN))))).trans e7))).trans ?_
  refine (fSeq_nx (set_of (lst_of (aC ((md_of rfl rfl (aC ((call_of (aC rfl (aC rfl aN))).trans e8) aN)).trans e9) (aC ((md_of rfl rfl (aC ((call_of (aC rfl (aC rfl aN))).trans e10) aN)).trans e11) aN)) l2))).trans ?_
  refine (fSeq_nx ((fFor_of (fRg1_of (j := 8) (k := 8) (c1 := c6) (aC rfl aN) (by decide) (by decide))).trans ek)).trans ?_
  exact (fFor_of (it_tup ct)).trans eo
theorem law_says (ns : List Int) (hn : ns.length ≤ 63) : ∃ c', m_law [.scr ns] [] = some (.bl true, c') := by
  have m1 : bMin [.int 3, .int (ns.length : Nat)] [] = some (.int (if ((ns.length : Nat) : Int) < 3 then (ns.length : Nat) else 3), []) := rfl
  obtain ⟨K, hK, hK2⟩ : ∃ K : Nat, (if (if ((ns.length : Nat) : Int) < 3 then ((ns.length : Nat) : Int) else 3) > 1 then (if ((ns.length : Nat) : Int) < 3 then ((ns.length : Nat) : Int) else 3) else 1) = (K : Int) ∧ K ≤ 3 := by
    obtain ⟨q, hq, hq0, hq1⟩ : ∃ q : Int, (if ((ns.length : Nat) : Int) < 3 then ((ns.length : Nat) : Int) else 3) = q ∧ 0 ≤ q ∧ q ≤ 3 := ⟨_, rfl, by split <;> omega, by split <;> omega⟩
    rw [hq]
    refine ⟨(if q > 1 then q else 1).toNat, ?_, ?_⟩
    · split <;> omega
    · split <;> omega
  have m2 : bMax [.int 1, .int (if ((ns.length : Nat) : Int) < 3 then ((ns.length : Nat) : Int) else 3)] [] = some (.int K, []) := by
    rw [← hK]; rfl
  have s1 : small62 ((K : Nat) : Int) = true := small62_of (by omega) (by omega)
  have s2 : ((K : Nat) : Int).toNat = K := by omega
  have key := forD_st (g := gSet 1) (fb := bodyL) (h := fun i : Nat => D.int (0 + (i : Nat)))
    (fun pre env c1 => ∃ x1 x2 x3 x4 x5 x6 x7 x8 x9 x10 x11 x12 x13 x14 x15 x16 : Option Sl, env = l0E ns x1 x2 x3 x4 x5 x6 x7 x8 x9 x10 x11 x12 x13 x14 x15 x16)
    (xs := List.range K) (env := l0E ns none none none none none none none none none none none none none none none none) (c := []) ⟨_, _, _, _, _, _, _, _, _, _, _, _, _, _, _, _, rfl⟩
  have fin := key (by
    intro pre i post e env c1 ⟨x1, x2, x3, x4, x5, x6, x7, x8, x9, x10, x11, x12, x13, x14, x15, x16, he⟩
    subst he
    obtain ⟨y2, y3, y4, y5, y6, y7, y8, y9, y10, y11, y12, y13, y14, y15, y16, c2, e2⟩ := s_cell ns i c1 x2 x3 x4 x5 x6 x7 x8 x9 x10 x11 x12 x13 x14 x15 x16
    exact ⟨_, _, c2, rfl, e2, _, _, _, _, _, _, _, _, _, _, _, _, _, _, _, _, rfl⟩)
  obtain ⟨env', c', e, _⟩ := fin
  refine ⟨c', mOf_rt (env1 := env') rfl ?_⟩
  refine (fSeq_nx (f := fFor (fRg1 (aCons (fCall bMax (aCons (fC (.int 1)) (aCons (fCall bMin (aCons (fC (.int 3)) (aCons (fLenQ (fVarQ 0)) aNil))) aNil))) aNil)) (gSet 1) bodyL) ((fFor_of (fRg1_of (k := K) (c1 := []) (aC ((call_of (aC rfl (aC ((call_of (aC rfl (aC (lenQ_of rfl rfl) aN))).trans m1) aN))).trans m2) aN) s1 s2)).trans e)).trans ?_
  rfl
end M58
set_option Elab.async false
set_option linter.all false
set_option maxRecDepth 100000
set_option maxHeartbeats 0
open PySem PySem.Spec PyProof.Rows L2 Pd L58 H58 in
theorem FinH58_ok {K : PySem.W.Frag} {P : Program} {w : World} {mg : Str → Option Value} {base : Heap} {f : Addr} {fd : FuncData} (A : FnAt (tb K P w mg base) 9 f fd ps_law m_law) : FnOk P w K mg base CX0 9 f fd ["script"] (spLaw K) :=
  A.ok.imp fun vs H Q E h => by
    obtain ⟨a, ns, rfl, hl, hs, q⟩ := h
    obtain ⟨c', e⟩ := M58.law_says ns hl
    refine ⟨rfl, H, [], [], [.scr ns], .bl true, c', ⟨fun _ _ h => h, rfl, .nil, fun k a d h => ?_⟩, .cons (.scr hs) .nil, e, fun G' al' H' v _ _ r => ?_⟩
    · simp at h
    · rw [r.bl_inv]; exact q H'
open PySem PySem.W PySem.Calls PyProof.Rows
set_option maxRecDepth 100000 in
set_option maxHeartbeats 0 in
theorem PySem.Challenge.cw_nearsettled_k58_wrong_texts_holds : PySem.Challenge.rw_nearsettled_k58_wrong_texts.Holds := by
  w_on; o_law
  refine HandSHeadRun.head_any (r := OpenLaw.row PySem.Challenge.rw_nearsettled_k58_wrong_texts) (q := view (OpenLaw.row PySem.Challenge.rw_nearsettled_k58_wrong_texts).prog [62]) (H := H58.hk) (ob := H58.ob) (M := 20000) (loose := H58.names) (d := HandSHeadRun.topDef (OpenLaw.row PySem.Challenge.rw_nearsettled_k58_wrong_texts).prog 62) (kwd := []) H58.ob_eq
    (by kernel_rfl) (fun s => by kernel_rfl) H58.run (by kernel_rfl) (by kernel_rfl) (by kernel_rfl) (by rfl) (by first | assumption | decide +kernel) (by decide +kernel) ⟨rfl, rfl, rfl, rfl, rfl, by decide +kernel⟩ ?hw ?hc
  case hw => w_witness2
  case hc =>
    refine L2.walk_ofE (l := PySem.Challenge.rw_nearsettled_k58_wrong_texts) (n := 63) (k := 9) (x := "script") (CX := L2.CX0) rfl (by decide) (by kernel_rfl) ⟨rfl, by decide, by decide⟩ ?F (fun _ _ _ _ z => z)
    intro w mg fa h Y G hmg0
    obtain ⟨K, KX, c⟩ := Y
    have hmg : mg ("law" : PySem.Str) = some (.ref fa) := by
      have e : (HandSHeadRun.topDef (OpenLaw.row PySem.Challenge.rw_nearsettled_k58_wrong_texts).prog 62).name = ("law" : PySem.Str) := by kernel_rfl
      rw [← e]
      exact hmg0
    obtain ⟨fd, hb, hF⟩ := H58.A_lawS K (PySem.Challenge.rw_nearsettled_k58_wrong_texts).prog w mg ⟨⟨_, KX, G⟩, c⟩ hmg
    exact ⟨K, fd, H58.spLaw K, KX, hb, fun H a ns hl _ hS => ⟨a, ns, rfl, hl, hS, fun _ => rfl⟩, fun base _ _ => FinH58_ok (hF base)⟩
