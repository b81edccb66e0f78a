import PyProof.Rows.All
import Wide.All
import OpenK.AllK
import Wide.FinOn
import KE.KStateDown
import Lean
import HandS.Base
import HandS.Call
import HandS.List
import HandS.Comp
import HandS.Ends
import HandS.Dict
import HandS.Iter
import HandS.Text
import HandS.More
import HandS.Words
import HandS.WordsList
import HandS.WordsDict
import HandS.Walk
import HandS.Zip
import HandS.TupSets
import HandS.DictComp
import HandS.DictTup
import HandS.IsInst
import HandS.Deep
import HandS.Replace
import HandS.Defaults
import HandS.MakeKwOnly
import HandS.Wide
import HandS.Head0
import HandS.Head1
import HandS.Head2
import HandS.HeadEnd
import HandS.HeadHook1
import HandS.HeadHook2
import KE.GoesMore
import PyProof.InstNe
import HandS.ExcValue
import HandS.Strs
import HandS.Conv
import KE.KDictSum
import HandS.TupLe
import KE.DataMinMax
import PySem.Challenge.RW_onehand_k81_whole_symmetry_broken_by_one
set_option Elab.async false
set_option linter.all false
set_option maxRecDepth 100000
set_option autoImplicit false
set_option maxHeartbeats 4000000
/-! OhA: abstract values, worlds of heaps, what an expression evaluates to. -/
namespace Oh
open PySem L2

/-! ### plain data -/
abbrev Pl := Int × Int
abbrev T8 := Fin 8
abbrev D4 := Fin 4
abbrev Sd := Option (Pl × T8)
/-- a text by its codes -/
def tx (l : List Nat) : Str := ⟨l.toArray⟩
theorem tx_list (l : List Nat) : (tx l).cps.toList = l := rfl
theorem tx_size (l : List Nat) : (tx l).cps.size = l.length := rfl
theorem tx_len (l : List Nat) : (tx l).length = l.length := rfl
/-- the deeds' codes: u r d l -/
def dc (d : D4) : Nat := match d with
  | 0 => 117
  | 1 => 114
  | 2 => 100
  | 3 => 108
/-- what the turns make of the deeds -/
def tn (t : T8) (d : D4) : D4 := match t, d with
  | 0, d => d
  | 1, 0 => 1 | 1, 1 => 2 | 1, 2 => 3 | 1, 3 => 0
  | 2, 0 => 2 | 2, 1 => 3 | 2, 2 => 0 | 2, 3 => 1
  | 3, 0 => 3 | 3, 1 => 0 | 3, 2 => 1 | 3, 3 => 2
  | 4, 0 => 0 | 4, 1 => 3 | 4, 2 => 2 | 4, 3 => 1
  | 5, 0 => 2 | 5, 1 => 1 | 5, 2 => 0 | 5, 3 => 3
  | 6, 0 => 3 | 6, 1 => 2 | 6, 2 => 1 | 6, 3 => 0
  | 7, 0 => 1 | 7, 1 => 0 | 7, 2 => 3 | 7, 3 => 2
/-- a turn's text -/
def tt (t : T8) : List Nat := [dc (tn t 0), dc (tn t 1), dc (tn t 2), dc (tn t 3)]
def pS (l : List Nat) : PyData := .str (tx l)
def pI (i : Int) : PyData := .int i
def pP (p : Pl) : PyData := .tuple [.int p.1, .int p.2]
def pT (t : T8) : PyData := pS (tt t)
def pD (d : D4) : PyData := pS [dc d]
def pSd : Sd → PyData
  | none => .none
  | some (p, t) => .tuple [pP p, pT t]
/-- what a world holds -/
structure Wd where
  rows : List (List Nat)
  book : List (Nat × T8)
  goals : List Pl
  opening : Pl
  first : Sd
/-- abstract values -/
inductive Ab where
  | dat (d : PyData)
  | flo (rows : List (List Nat))
  | wor (w : Wd)
  | han (ws : List Wd)
  | wls (tup : Bool) (ws : List Wd)
  | src
  | book (kvs : List (Nat × T8))
  | land (rows : List (List Nat)) (start : Sd) (bk : List (Nat × T8)) (wished : List Pl)
  | sgn (kvs : List (Pl × Nat))
  | pt (p : Pl)
  | nl (ds : List PyData)
  | dct (kvs : List (Str × PyData))

/-! ### heaps that grow -/
def Nf : HO → Prop
  | .frz _ _ => False
  | _ => True
def Nd : HO → Prop
  | .dK _ => False
  | .dT _ => False
  | _ => True
/-- what is known stays known: all of it but that a dict may be locked -/
structure Ex (H H' : Hp) : Prop where
  rd : ∀ a u, Nf u → Rd H a u → Rd H' a u
  at_ : ∀ a u, Nd u → H a = some u → H' a = some u
  dom : ∀ a, H' a = none → H a = none
theorem Ex.refl (H : Hp) : Ex H H := ⟨fun _ _ _ h => h, fun _ _ _ h => h, fun _ h => h⟩
theorem Ex.trans {H H1 H2 : Hp} (a : Ex H H1) (b : Ex H1 H2) : Ex H H2 := ⟨fun x u n h => b.rd x u n (a.rd x u n h), fun x u n h => b.at_ x u n (a.at_ x u n h), fun x h => a.dom x (b.dom x h)⟩
theorem Ex.sl {K : PySem.W.Frag} {H H' : Hp} {a : Addr} {xs : List V} (e : Ex H H') (h : SqL K H a xs) : SqL K H' a xs := by
  rcases h with h | h
  · exact Or.inl (e.rd _ _ trivial h)
  · exact Or.inr h
theorem Ex.st {K : PySem.W.Frag} {H H' : Hp} {a : Addr} {xs : List V} (e : Ex H H') (h : SqT K H a xs) : SqT K H' a xs := by
  rcases h with h | h
  · exact Or.inl (e.rd _ _ trivial h)
  · exact Or.inr h
theorem Ex.dk {H H' : Hp} {a : Addr} {kvs : List (Key × V)} (e : Ex H H') (h : Rd H a (.dK kvs)) : Rd H' a (.dK kvs) := e.rd _ _ trivial h
theorem rd_none {H : Hp} {a : Addr} {u : HO} (h : Rd H a u) : H a ≠ none := by
  rcases h with h | ⟨o, h⟩ <;> rw [h] <;> exact fun z => by cases z
/-- a heap that differs at an address that the first does not know -/
theorem Ex.mut {H H' : Hp} {p : Addr} {o : HO} (e : Ex H H') (h : H p = none) : Ex H (upd H' p o) := by
  refine ⟨fun a u n r => ?_, fun a u n r => ?_, fun a r => ?_⟩
  · have hne : a ≠ p := fun z => rd_none r (by rw [z]; exact h)
    have q := e.rd a u n r
    unfold Rd at q ⊢
    rw [upd_ne hne]
    exact q
  · rw [upd_ne (ne_of_none r h)]
    exact e.at_ a u n r
  · by_cases hp : a = p
    · rw [hp]
      exact h
    · rw [upd_ne hp] at r
      exact e.dom a r
theorem Ex.new {H : Hp} {p : Addr} {o : HO} (h : H p = none) : Ex H (upd H p o) := (Ex.refl H).mut h
theorem Ex.back {H H' : Hp} {p : Addr} (e : Ex H H') (h : H' p = none) : H p = none := e.dom p h
/-- a dict locked -/
theorem Ex.lock {G H : Hp} {d : Addr} {u : HO} {o : Obj} (e : Ex G H) (h : H d = some u) (hn : ¬ Nd u) (hf : Nf u) : Ex G (upd H d (.frz o u)) := by
  refine ⟨fun a v n r => ?_, fun a v n r => ?_, fun a r => ?_⟩
  · have q := e.rd a v n r
    by_cases hd : a = d
    · subst hd
      have : v = u := by
        rcases q with q | ⟨o', q⟩
        · rw [h] at q
          exact (Option.some.inj q).symm
        · rw [h] at q
          rw [Option.some.inj q] at hf
          exact hf.elim
      subst this
      exact Or.inr ⟨o, upd_same⟩
    · unfold Rd at q ⊢
      rw [upd_ne hd]
      exact q
  · have q := e.at_ a v n r
    by_cases hd : a = d
    · subst hd
      rw [h] at q
      rw [← Option.some.inj q] at n
      exact (hn n).elim
    · rw [upd_ne hd]
      exact q
  · by_cases hd : a = d
    · subst hd
      rw [upd_same] at r
      cases r
    · rw [upd_ne hd] at r
      exact e.dom a r
mutual
theorem dp_up {K : PySem.W.Frag} {H H' : Hp} (e : Ex H H') : ∀ (d : PyData) (v : V), Dp K H v d → Dp K H' v d
  | .none, _, h => by
    cases h
    exact .non
  | .bool b, _, h => by
    cases h
    exact .bl b
  | .int i, _, h => by
    cases h
    exact .int i
  | .str x, _, h => by
    cases h
    exact .str x
  | .list ds, _, h => by
    cases h with
    | lst hs ha => exact .lst (e.sl hs) (dps_up e ds _ ha)
  | .tuple ds, _, h => by
    cases h with
    | tup hs ha => exact .tup (e.st hs) (dps_up e ds _ ha)
  | .dict _, _, h => by cases h
theorem dps_up {K : PySem.W.Frag} {H H' : Hp} (e : Ex H H') : ∀ (ds : List PyData) (vs : List V), DpAll K H vs ds → DpAll K H' vs ds
  | [], _, h => by
    cases h
    exact .nil
  | d :: ds, _, h => by
    cases h with
    | cons h1 h2 => exact .cons (dp_up e d _ h1) (dps_up e ds _ h2)
end
theorem Ex.dp {K : PySem.W.Frag} {H H' : Hp} {v : V} {d : PyData} (e : Ex H H') (h : Dp K H v d) : Dp K H' v d := dp_up e d v h
theorem Ex.dps {K : PySem.W.Frag} {H H' : Hp} {vs : List V} {ds : List PyData} (e : Ex H H') (h : DpAll K H vs ds) : DpAll K H' vs ds := dps_up e ds vs h

/-! ### the source of the draws: a list of three ints, whichever -/
def SrcP (a : Addr) (h : Heap) : Prop := ∃ (i j k : Int) (t1 t2 t3 : Tok) (n : Nat), h.get? a = some { cls := .type "list", data := .seq #[.int i t1, .int j t2, .int k t3] n }
def SrcO (a : Addr) : HO := .ext (SrcP a)

/-! ### what a value is -/
def CF (K : PySem.W.Frag) : Addr := He.ga K "Floor"
def CW (K : PySem.W.Frag) : Addr := He.ga K "World"
def CH (K : PySem.W.Frag) : Addr := He.ga K "Hand"
def bkK (kvs : List (Nat × T8)) : List (Key × V) := kvs.map fun p => (Sum.inr (tx [p.1]), V.str (tx (tt p.2)))
def IsB (H : Hp) (v : V) (kvs : List (Nat × T8)) : Prop := ∃ a, v = .ref a ∧ Rd H a (.dK (bkK kvs))
def floF (q : V) : List (Str × V) := [("texts", q)]
def worF (g pg go op fi : V) : List (Str × V) := [("ground", g), ("pages", pg), ("goals", go), ("opening", op), ("first", fi)]
def hanF (q : V) : List (Str × V) := [("ones", q)]
def IsF (K : PySem.W.Frag) (H : Hp) (v : V) (rows : List (List Nat)) : Prop := ∃ a dx q, v = .ref a ∧ H a = some (.ins (CF K) dx (floF q)) ∧ Dp K H q (.tuple (rows.map pS))
def IsW (K : PySem.W.Frag) (H : Hp) (v : V) (w : Wd) : Prop := ∃ a dx g pg go op fi, v = .ref a ∧ H a = some (.ins (CW K) dx (worF g pg go op fi)) ∧
  IsF K H g w.rows ∧ IsB H pg w.book ∧ Dp K H go (.tuple (w.goals.map pP)) ∧ Dp K H op (pP w.opening) ∧ Dp K H fi (pSd w.first)
def IsWs (K : PySem.W.Frag) (H : Hp) : List V → List Wd → Prop
  | [], [] => True
  | v :: vs, w :: ws => IsW K H v w ∧ IsWs K H vs ws
  | _, _ => False
def landK (r s b w : V) : List (Key × V) := [(Sum.inr "rows", r), (Sum.inr "start", s), (Sum.inr "book", b), (Sum.inr "wished", w)]
def dctK (kvs : List (Str × PyData)) (vs : List V) : List (Key × V) := (kvs.zip vs).map fun p => (Sum.inr p.1.1, p.2)
def Is (K : PySem.W.Frag) (H : Hp) (v : V) : Ab → Prop
  | .dat d => Dp K H v d
  | .flo rows => IsF K H v rows
  | .wor w => IsW K H v w
  | .han ws => ∃ a dx q vs, v = .ref a ∧ H a = some (.ins (CH K) dx (hanF (.ref q))) ∧ SqT K H q vs ∧ IsWs K H vs ws
  | .wls true ws => ∃ q vs, v = .ref q ∧ SqT K H q vs ∧ IsWs K H vs ws
  | .wls false ws => ∃ q vs, v = .ref q ∧ SqL K H q vs ∧ IsWs K H vs ws
  | .src => ∃ a, v = .ref a ∧ H a = some (SrcO a)
  | .book kvs => IsB H v kvs
  | .land rows st bk ws => ∃ a r s b w, v = .ref a ∧ Rd H a (.dK (landK r s b w)) ∧ Dp K H r (.list (rows.map pS)) ∧ Dp K H s (pSd st) ∧ IsB H b bk ∧ Dp K H w (.list (ws.map pP))
  | .sgn kvs => ∃ a, v = .ref a ∧ Rd H a (.dT (kvs.map fun p => ([Sum.inl p.1.1, Sum.inl p.1.2], V.str (tx [p.2]))))
  | .pt p => ∃ a, v = .ref a ∧ H a = some (.tup [.int p.1, .int p.2])
  | .nl ds => ∃ a vs, v = .ref a ∧ H a = some (.lst vs) ∧ DpAll K H vs ds
  | .dct kvs => ∃ a vs, v = .ref a ∧ Rd H a (.dK (dctK kvs vs)) ∧ DpAll K H vs (kvs.map Prod.snd)
section
variable {K : PySem.W.Frag} {H H' : Hp} {v : V}
theorem isB_up (e : Ex H H') {kvs} (h : IsB H v kvs) : IsB H' v kvs := let ⟨a, h1, h2⟩ := h; ⟨a, h1, e.rd _ _ trivial h2⟩
theorem isF_up (e : Ex H H') {rows} (h : IsF K H v rows) : IsF K H' v rows := let ⟨a, dx, q, h1, h2, h3⟩ := h; ⟨a, dx, q, h1, e.at_ _ _ trivial h2, e.dp h3⟩
theorem isW_up (e : Ex H H') {w} (h : IsW K H v w) : IsW K H' v w :=
  let ⟨a, dx, g, pg, go, op, fi, h1, h2, h3, h4, h5, h6, h7⟩ := h
  ⟨a, dx, g, pg, go, op, fi, h1, e.at_ _ _ trivial h2, isF_up e h3, isB_up e h4, e.dp h5, e.dp h6, e.dp h7⟩
theorem isWs_up (e : Ex H H') : ∀ {vs : List V} {ws : List Wd}, IsWs K H vs ws → IsWs K H' vs ws
  | [], [], h => h
  | [], _ :: _, h => h.elim
  | _ :: _, [], h => h.elim
  | _ :: _, _ :: _, h => ⟨isW_up e h.1, isWs_up e h.2⟩
theorem is_up (e : Ex H H') : ∀ {a : Ab}, Is K H v a → Is K H' v a
  | .dat d, h => e.dp (K := K) (show Dp K H v d from h)
  | .flo rows, h => isF_up (K := K) e h
  | .wor w, h => isW_up (K := K) e h
  | .han ws, h => let ⟨a, dx, q, vs, h1, h2, h3, h4⟩ := (show ∃ a dx q vs, v = .ref a ∧ H a = some (.ins (CH K) dx (hanF (.ref q))) ∧ SqT K H q vs ∧ IsWs K H vs ws from h); ⟨a, dx, q, vs, h1, e.at_ _ _ trivial h2, e.st h3, isWs_up e h4⟩
  | .wls true ws, h => let ⟨q, vs, h1, h3, h4⟩ := (show ∃ q vs, v = .ref q ∧ SqT K H q vs ∧ IsWs K H vs ws from h); ⟨q, vs, h1, e.st h3, isWs_up e h4⟩
  | .wls false ws, h => let ⟨q, vs, h1, h3, h4⟩ := (show ∃ q vs, v = .ref q ∧ SqL K H q vs ∧ IsWs K H vs ws from h); ⟨q, vs, h1, e.sl h3, isWs_up e h4⟩
  | .src, h => let ⟨a, h1, h2⟩ := (show ∃ a, v = .ref a ∧ H a = some (SrcO a) from h); ⟨a, h1, e.at_ _ _ trivial h2⟩
  | .book kvs, h => isB_up e h
  | .land rows st bk ws, h =>
    let ⟨a, r, s, b, w, h1, h2, h3, h4, h5, h6⟩ := (show ∃ a r s b w, v = .ref a ∧ Rd H a (.dK (landK r s b w)) ∧ Dp K H r (.list (rows.map pS)) ∧ Dp K H s (pSd st) ∧ IsB H b bk ∧ Dp K H w (.list (ws.map pP)) from h)
    ⟨a, r, s, b, w, h1, e.rd _ _ trivial h2, e.dp h3, e.dp h4, isB_up e h5, e.dp h6⟩
  | .sgn kvs, h => let ⟨a, h1, h2⟩ := (show ∃ a, v = .ref a ∧ Rd H a (.dT (kvs.map fun p => ([Sum.inl p.1.1, Sum.inl p.1.2], V.str (tx [p.2])))) from h); ⟨a, h1, e.rd _ _ trivial h2⟩
  | .pt p, h => let ⟨a, h1, h2⟩ := (show ∃ a, v = .ref a ∧ H a = some (.tup [.int p.1, .int p.2]) from h); ⟨a, h1, e.at_ _ _ trivial h2⟩
  | .nl ds, h => let ⟨a, vs, h1, h2, h3⟩ := (show ∃ a vs, v = .ref a ∧ H a = some (.lst vs) ∧ DpAll K H vs ds from h); ⟨a, vs, h1, e.at_ _ _ trivial h2, e.dps h3⟩
  | .dct kvs, h => let ⟨a, vs, h1, h2, h3⟩ := (show ∃ a vs, v = .ref a ∧ Rd H a (.dK (dctK kvs vs)) ∧ DpAll K H vs (kvs.map Prod.snd) from h); ⟨a, vs, h1, e.rd _ _ trivial h2, e.dps h3⟩
end

/-! ### worlds of heaps: what is known (G) of what is there (H) -/
/-- what a def may own alone -/
def Pv : HO → Prop
  | .lst _ => True
  | .dK _ => True
  | .dT _ => True
  | .ins _ _ _ => True
  | _ => False
structure Nx (G H G' H' : Hp) : Prop where
  e : Ex H H'
  g : Ex G G'
  s : Ex G' H'
  n : ∀ b o, Pv o → G b = none → H b = some o → G' b = none ∧ H' b = some o
theorem Nx.refl {G H : Hp} (h : Ex G H) : Nx G H G H := ⟨Ex.refl _, Ex.refl _, h, fun _ _ _ z y => ⟨z, y⟩⟩
theorem Nx.trans {G H G1 H1 G2 H2 : Hp} (a : Nx G H G1 H1) (b : Nx G1 H1 G2 H2) : Nx G H G2 H2 :=
  ⟨a.e.trans b.e, a.g.trans b.g, b.s, fun c o hp h1 h2 => let ⟨k1, k2⟩ := a.n c o hp h1 h2; b.n c o hp k1 k2⟩
theorem ex_upd {G H : Hp} (h : Ex G H) {p : Addr} {o : HO} (hg : G p = none) (hp : H p = some o) : Ex (upd G p o) H := by
  refine ⟨fun a u n r => ?_, fun a u n r => ?_, fun a r => ?_⟩
  · by_cases ha : a = p
    · subst ha
      unfold Rd at r ⊢
      rw [upd_same] at r
      rw [hp]
      exact r
    · refine h.rd a u n ?_
      unfold Rd at r ⊢
      rw [upd_ne ha] at r
      exact r
  · by_cases ha : a = p
    · subst ha
      rw [upd_same] at r
      rw [hp]
      exact r
    · rw [upd_ne ha] at r
      exact h.at_ a u n r
  · by_cases ha : a = p
    · subst ha
      rw [hp] at r
      cases r
    · rw [upd_ne ha]
      exact h.dom a r
/-- a new object, unknown so far, is known from now on -/
theorem Nx.pub {G H G' H' : Hp} (x : Nx G H G' H') {p : Addr} {o : HO} (h0 : H p = none) (hg : G' p = none) (hp : H' p = some o) : Nx G H (upd G' p o) H' :=
  ⟨x.e, x.g.trans (Ex.new hg), ex_upd x.s hg hp, fun b u hv h1 h2 => by
    have hb : b ≠ p := ne_of_none h2 h0
    rw [upd_ne hb]
    exact x.n b u hv h1 h2⟩
/-- a new object of which nothing is said -/
theorem Nx.hid {G H : Hp} (h : Ex G H) {p : Addr} {o : HO} (hp : H p = none) : Nx G H G (upd H p o) :=
  ⟨Ex.new hp, Ex.refl _, h.mut (h.back hp), fun b u _ h1 h2 => ⟨h1, by rw [upd_ne (ne_of_none h2 hp)]; exact h2⟩⟩
theorem Nx.new {G H : Hp} (h : Ex G H) {p : Addr} {o : HO} (hp : H p = none) : Nx G H (upd G p o) (upd H p o) := (Nx.hid h hp).pub hp (h.back hp) upd_same
/-- what H does not know changes -/
theorem Nx.mut {G H G' H' : Hp} (x : Nx G H G' H') {p : Addr} {o : HO} (h0 : H p = none) (hg : G' p = none) : Nx G H G' (upd H' p o) :=
  ⟨x.e.mut h0, x.g, x.s.mut hg, fun b u hv h1 h2 => by
    rw [upd_ne (ne_of_none h2 h0)]
    exact x.n b u hv h1 h2⟩
theorem ex_put {G H : Hp} (h : Ex G H) {p : Addr} {o : HO} (hn : Nd o) (hp : H p = some o) : Ex (upd G p o) H := by
  refine ⟨fun a u n r => ?_, fun a u n r => ?_, fun a r => ?_⟩
  · by_cases ha : a = p
    · subst ha
      unfold Rd at r ⊢
      rw [upd_same] at r
      rw [hp]
      exact r
    · refine h.rd a u n ?_
      unfold Rd at r ⊢
      rw [upd_ne ha] at r
      exact r
  · by_cases ha : a = p
    · subst ha
      rw [upd_same] at r
      rw [hp]
      exact r
    · rw [upd_ne ha] at r
      exact h.at_ a u n r
  · by_cases ha : a = p
    · subst ha
      rw [hp] at r
      cases r
    · rw [upd_ne ha]
      exact h.dom a r
/-- a known dict is locked -/
theorem Nx.lock {G H : Hp} (h : Ex G H) {d : Addr} {u : HO} {o : Obj} (hg : G d = some u) (hd : H d = some u) (hn : ¬ Nd u) (hf : Nf u) : Nx G H (upd G d (.frz o u)) (upd H d (.frz o u)) :=
  ⟨(Ex.refl H).lock hd hn hf, (Ex.refl G).lock hg hn hf, ex_put (h.lock hd hn hf) trivial upd_same, fun b v _ h1 h2 => by
    have hb : b ≠ d := fun z => by rw [z, hg] at h1; cases h1
    rw [upd_ne hb, upd_ne hb]
    exact ⟨h1, h2⟩⟩
/-- .. that was locked -/
theorem Nx.seen {G H : Hp} (h : Ex G H) {d : Addr} {u : HO} {o : Obj} (hg : G d = some u) (hd : H d = some (.frz o u)) (hn : ¬ Nd u) (hf : Nf u) : Nx G H (upd G d (.frz o u)) H :=
  ⟨Ex.refl H, (Ex.refl G).lock hg hn hf, ex_put h trivial hd, fun b v _ h1 h2 => by
    have hb : b ≠ d := fun z => by rw [z, hg] at h1; cases h1
    rw [upd_ne hb]
    exact ⟨h1, h2⟩⟩
/-- a tuple that stands there becomes known -/
theorem Nx.tup {G H : Hp} (h : Ex G H) {q : Addr} {xs : List V} (hq : H q = some (.tup xs)) : ∃ G', Nx G H G' H ∧ G' q = some (.tup xs) := by
  cases e : G q with
  | some u =>
    refine ⟨G, Nx.refl h, ?_⟩
    by_cases hn : Nd u
    · rw [h.at_ q u hn e] at hq
      rw [e, hq]
    · have hf : Nf u := by
        cases u <;> first | trivial | exact (hn trivial).elim
      rcases h.rd q u hf (Or.inl e) with z | ⟨o, z⟩
      · rw [hq] at z
        rw [← Option.some.inj z] at hn
        exact (hn trivial).elim
      · rw [hq] at z
        cases z
  | none =>
    refine ⟨upd G q (.tup xs), ⟨Ex.refl H, Ex.new e, ex_upd h e hq, fun b v hv h1 h2 => ?_⟩, upd_same⟩
    have hb : b ≠ q := fun z => by
      rw [z, hq] at h2
      rw [← Option.some.inj h2] at hv
      exact hv
    rw [upd_ne hb]
    exact ⟨h1, h2⟩

/-! ### lists of values -/
def IsA (K : PySem.W.Frag) (G : Hp) : List V → List Ab → Prop
  | [], [] => True
  | v :: vs, a :: as => Is K G v a ∧ IsA K G vs as
  | _, _ => False
theorem isA_up {K : PySem.W.Frag} {G G' : Hp} (e : Ex G G') : ∀ {vs : List V} {as : List Ab}, IsA K G vs as → IsA K G' vs as
  | [], [], h => h
  | [], _ :: _, h => h.elim
  | _ :: _, [], h => h.elim
  | _ :: _, _ :: _, h => ⟨is_up e h.1, isA_up e h.2⟩
theorem IsA.len {K : PySem.W.Frag} {G : Hp} : ∀ {vs : List V} {as : List Ab}, IsA K G vs as → vs.length = as.length
  | [], [], _ => rfl
  | [], _ :: _, h => h.elim
  | _ :: _, [], h => h.elim
  | _ :: _, _ :: _, h => congrArg Nat.succ (IsA.len h.2)

/-! ### abstract states -/
/-- what a def owns alone while it fills it: a list of data, a dict by texts, a list of own lists of signs -/
inductive Ow where
  | ol (ds : List PyData)
  | od (kvs : List (Str × Ab))
  | oc (rows : List (List Nat))
  | oi (x Cl : Addr) (fs : List (Str × Ab))
structure AS where
  ts : List (Option Ab)
  ow : Option (Nat × Ow) := none
def insK (ks : List (Str × Ab)) (vs : List V) : List (Str × V) := (ks.zip vs).map fun p => (p.1.1, p.2)
def odK (ks : List (Str × Ab)) (vs : List V) : List (Key × V) := (ks.zip vs).map fun p => (Sum.inr p.1.1, p.2)
def signs (r : List Nat) : List V := r.map fun c => V.str (tx [c])
def CellsAt (H0 G H : Hp) : List Addr → List (List Nat) → Prop
  | [], [] => True
  | q :: qs, r :: rs => (H0 q = none ∧ G q = none ∧ H q = some (.lst (signs r))) ∧ CellsAt H0 G H qs rs
  | _, _ => False
def OwIs (K : PySem.W.Frag) (H0 G H : Hp) (p : Addr) : Ow → Prop
  | .ol ds => ∃ vs, H p = some (.lst vs) ∧ DpAll K G vs ds
  | .od kvs => ∃ vs, H p = some (.dK (odK kvs vs)) ∧ IsA K G vs (kvs.map Prod.snd)
  | .oc rows => ∃ qs : List Addr, H p = some (.lst (qs.map V.ref)) ∧ CellsAt H0 G H qs rows ∧ qs.Nodup ∧ p ∉ qs
  | .oi x Cl fs => p = x ∧ ∃ dx vs, H p = some (.ins Cl dx (insK fs vs)) ∧ IsA K G vs (fs.map Prod.snd)
theorem OwIs.some {K : PySem.W.Frag} {H0 G H : Hp} {p : Addr} {o : Ow} (h : OwIs K H0 G H p o) : H p ≠ none := by
  cases o with
  | ol ds =>
    obtain ⟨vs, h5, _⟩ := h
    rw [h5]
    exact fun z => by cases z
  | od kvs =>
    obtain ⟨vs, h5, _⟩ := h
    rw [h5]
    exact fun z => by cases z
  | oc rows =>
    obtain ⟨vs, h5, _⟩ := h
    rw [h5]
    exact fun z => by cases z
  | oi y Cl fs =>
    obtain ⟨_, dx, vs, h5, _⟩ := h
    rw [h5]
    exact fun z => by cases z
theorem cells_up {H0 G H G' H' : Hp} (x : Nx G H G' H') : ∀ {qs : List Addr} {rows : List (List Nat)}, CellsAt H0 G H qs rows → CellsAt H0 G' H' qs rows
  | [], [], h => h
  | [], _ :: _, h => h.elim
  | _ :: _, [], h => h.elim
  | _ :: _, _ :: _, h => ⟨⟨h.1.1, x.n _ _ (by exact trivial) h.1.2.1 h.1.2.2⟩, cells_up x h.2⟩
theorem OwIs.up {K : PySem.W.Frag} {H0 G H G' H' : Hp} {p : Addr} {o : Ow} (h : OwIs K H0 G H p o) (hg : G p = none) (x : Nx G H G' H') : OwIs K H0 G' H' p o := by
  cases o with
  | ol ds =>
    obtain ⟨vs, h5, h6⟩ := h
    exact ⟨vs, (x.n _ _ (by exact trivial) hg h5).2, x.g.dps h6⟩
  | od kvs =>
    obtain ⟨vs, h5, h6⟩ := h
    exact ⟨vs, (x.n _ _ (by exact trivial) hg h5).2, isA_up x.g h6⟩
  | oc rows =>
    obtain ⟨qs, h5, h6, h7⟩ := h
    exact ⟨qs, (x.n _ _ (by exact trivial) hg h5).2, cells_up x h6, h7⟩
  | oi y Cl fs =>
    obtain ⟨hy, dx, vs, h5, h6⟩ := h
    exact ⟨hy, dx, vs, (x.n _ _ (by exact trivial) hg h5).2, isA_up x.g h6⟩
theorem OwIs.un {K : PySem.W.Frag} {H0 G H G' H' : Hp} {p : Addr} {o : Ow} (h : OwIs K H0 G H p o) (hg : G p = none) (x : Nx G H G' H') : G' p = none := by
  cases o with
  | ol ds =>
    obtain ⟨vs, h5, h6⟩ := h
    exact (x.n _ _ (by exact trivial) hg h5).1
  | od kvs =>
    obtain ⟨vs, h5, h6⟩ := h
    exact (x.n _ _ (by exact trivial) hg h5).1
  | oc rows =>
    obtain ⟨qs, h5, h6, h7⟩ := h
    exact (x.n _ _ (by exact trivial) hg h5).1
  | oi y Cl fs =>
    obtain ⟨_, dx, vs, h5, h6⟩ := h
    exact (x.n _ _ (by exact trivial) hg h5).1
def OwM (K : PySem.W.Frag) (H0 : Hp) (σ : St) (G H : Hp) : Option (Nat × Ow) → Prop
  | none => True
  | some (i, o) => ∃ p, σ[i]? = some (some (.ref p)) ∧ H0 p = none ∧ G p = none ∧ OwIs K H0 G H p o
structure M (K : PySem.W.Frag) (A : AS) (H0 : Hp) (σ : St) (G H : Hp) : Prop where
  len : σ.length = A.ts.length
  at_ : ∀ (i : Nat) (a : Ab), A.ts[i]? = some (some a) → ∃ v, σ[i]? = some (some v) ∧ Is K G v a
  own : OwM K H0 σ G H A.ow
theorem M.up {K : PySem.W.Frag} {A : AS} {H0 : Hp} {σ : St} {G H G' H' : Hp} (m : M K A H0 σ G H) (x : Nx G H G' H') : M K A H0 σ G' H' := by
  refine ⟨m.len, fun i a h => ?_, ?_⟩
  · obtain ⟨v, h1, h2⟩ := m.at_ i a h
    exact ⟨v, h1, is_up x.g h2⟩
  · have q := m.own
    cases e : A.ow with
    | none => exact trivial
    | some io =>
      obtain ⟨i, o⟩ := io
      rw [e] at q
      obtain ⟨p, h1, h2, h3, h4⟩ := q
      exact ⟨p, h1, h2, h4.un h3 x, h4.up h3 x⟩

/-! ### what readings come to -/
def Ev (K : PySem.W.Frag) (te : TE) (A : AS) (S : Ab → Prop) : Prop := ∀ (H0 : Hp) (σ : St) (G H : Hp), Ex G H → M K A H0 σ G H → ∀ Q : VK, (∀ v G' H' a, Nx G H G' H' → S a → Is K G' v a → Q v H') → te σ H Q
def EvT (K : PySem.W.Frag) (t : TT) (A : AS) (S : Bool → Prop) : Prop := ∀ (H0 : Hp) (σ : St) (G H : Hp), Ex G H → M K A H0 σ G H → ∀ Q : Bool → Hp → Prop, (∀ b G' H', Nx G H G' H' → S b → Q b H') → t σ H Q
def EvA (K : PySem.W.Frag) (ta : TA) (A : AS) (S : List Ab → Prop) : Prop := ∀ (H0 : Hp) (σ : St) (G H : Hp), Ex G H → M K A H0 σ G H → ∀ Q : List V → Hp → Prop, (∀ vs G' H' as, Nx G H G' H' → S as → IsA K G' vs as → Q vs H') → ta σ H Q

/-! ### contexts by what matters of them -/
structure Ga where
  P : Program
  w : World
  K : PySem.W.Frag
  mg : Str → Option Value
  base : Heap
structure Ct where
  ga : Ga
  N : List Str
  sc : Scope
  k : Nat
  fn : Str → Bool
structure Ct.On (C : Ct) (X : Cx) : Prop where
  prog : X.prog = C.ga.P
  w : X.w = C.ga.w
  K : X.K = C.ga.K
  mg : X.mg = C.ga.mg
  base : X.base = C.ga.base
  N : X.N = C.N
  sc : X.env.scope = C.sc
  calm : X.calm = true
  fn : X.fn = C.fn
  room : Room C.k X.A
  nd : X.N.Nodup
  xe : X.xe = fun _ _ => False
abbrev Ct.K (C : Ct) : PySem.W.Frag := C.ga.K
def Ct.blk (C : Ct) (scope : Scope) : Ct := ⟨C.ga, C.N, relS scope C.sc, C.k, fun x => scope.names.lookup x == some .cell⟩
theorem Ct.On.blk {C : Ct} {X : Cx} (h : C.On X) (scope : Scope) (s : Shared) (H : Hp) (Cc : Addr) (cl : List (Str × Addr)) (fp : List Addr) : (C.blk scope).On (X.blk s H scope (compEnvC scope cl Cc X.env) fp) :=
  ⟨h.prog, h.w, h.K, h.mg, h.base, h.N, show relS scope X.env.scope = relS scope C.sc from by rw [h.sc], h.calm, rfl, h.room, h.nd, rfl⟩

/-! ### the judgements -/
def Xe (C : Ct) (e : Expr) (A : AS) (S : Ab → Prop) : Prop := ∃ te, (∀ X, C.On X → PE X e te) ∧ Ev C.K te A S
def Xt (C : Ct) (e : Expr) (A : AS) (S : Bool → Prop) : Prop := ∃ t, (∀ X, C.On X → PT X e t) ∧ EvT C.K t A S
def Xa (C : Ct) (es : List Expr) (A : AS) (S : List Ab → Prop) : Prop := ∃ t, (∀ X, C.On X → PA X es t) ∧ EvA C.K t A S
/-- a value that is sure -/
abbrev Xd (C : Ct) (e : Expr) (A : AS) (a : Ab) : Prop := Xe C e A (fun b => b = a)
abbrev Xb (C : Ct) (e : Expr) (A : AS) (b : Bool) : Prop := Xt C e A (fun c => c = b)
abbrev Xs (C : Ct) (es : List Expr) (A : AS) (as : List Ab) : Prop := Xa C es A (fun bs => bs = as)
end Oh
set_option maxHeartbeats 4000000
/-! OhB: expressions. -/
namespace Oh
open PySem L2

/-! ### names -/
def visB (sc : Scope) (x : Str) : Bool := match sc.names.lookup x with
  | some .local => true
  | some .cell => true
  | some .free => true
  | _ => false
theorem visB_ok {sc : Scope} {x : Str} (h : visB sc x = true) : Vis sc x := by
  unfold visB at h
  unfold Vis
  split at h
  · exact Or.inl (by assumption)
  · exact Or.inr (Or.inl (by assumption))
  · exact Or.inr (Or.inr (by assumption))
  · cases h
def locB (sc : Scope) (x : Str) : Bool := match sc.names.lookup x with
  | some .local => true
  | some .cell => true
  | _ => false
theorem locB_ok {sc : Scope} {x : Str} (h : locB sc x = true) : L2.Loc sc x := by
  unfold locB at h
  unfold L2.Loc
  split at h
  · exact Or.inl (by assumption)
  · exact Or.inr (by assumption)
  · cases h
def gloB (sc : Scope) (x : Str) : Bool := match sc.names.lookup x with
  | some .globalImplicit => true
  | _ => false
theorem gloB_ok {sc : Scope} {x : Str} (h : gloB sc x = true) : sc.names.lookup x = some .globalImplicit := by
  unfold gloB at h
  split at h
  · assumption
  · cases h
/-- what a store of a name asks -/
def stoB (sc : Scope) (fn : Str → Bool) (x : Str) : Bool := match sc.names.lookup x with
  | some .local => true
  | some .cell => fn x
  | _ => false
theorem stoB_loc {sc : Scope} {fn : Str → Bool} {x : Str} (h : stoB sc fn x = true) : L2.Loc sc x := by
  unfold stoB at h
  unfold L2.Loc
  split at h
  · exact Or.inl (by assumption)
  · exact Or.inr (by assumption)
  · cases h
theorem stoB_fn {sc : Scope} {fn : Str → Bool} {x : Str} (h : stoB sc fn x = true) : fn x = true ∨ sc.names.lookup x = some .local := by
  unfold stoB at h
  split at h
  · exact Or.inr (by assumption)
  · exact Or.inl h
  · cases h
theorem Ct.On.gl {C : Ct} {X : Cx} (h : C.On X) {x : Str} (hg : gloB C.sc x = true) : Gl X x := by
  show X.env.scope.names.lookup x = some .globalImplicit
  rw [h.sc]
  exact gloB_ok hg
theorem Ct.On.vis {C : Ct} {X : Cx} (h : C.On X) {x : Str} (hg : visB C.sc x = true) : Vis X.env.scope x := by
  rw [h.sc]
  exact visB_ok hg

/-! ### no stars -/
def isStar : Expr → Bool
  | .Starred _ _ => true
  | _ => false
def noStars : List Expr → Bool
  | [] => true
  | e :: es => !isStar e && noStars es
theorem star_one {e : Expr} {es : List Expr} {env : Env} (h : isStar e = false) : starEach (e :: es) env = (false, eval e env) :: starEach es env := by
  cases e <;> first | rfl | (cases h)
theorem noStars_cons {e : Expr} {es : List Expr} (h : noStars (e :: es) = true) : isStar e = false ∧ noStars es = true := by
  have h' : (!isStar e && noStars es) = true := h
  simpa using h'
theorem noStars_any {env : Env} : ∀ {es : List Expr}, noStars es = true → (starEach es env).any (·.1) = false
  | [], _ => rfl
  | e :: es, h => by
    obtain ⟨h1, h2⟩ := noStars_cons h
    rw [star_one h1]
    show (false || (starEach es env).any (·.1)) = false
    rw [noStars_any h2] <;> rfl
theorem backTo_any {pos : Pos} : ∀ {l : List (Bool × Sem Value)}, l.any (·.1) = false → (backTo pos l).any (·.1) = false := by
  intro l h
  unfold backTo
  rw [List.any_map]
  exact h

/-! ### plain data, seen -/
section
variable {K : PySem.W.Frag} {G : Hp} {v : V}
theorem is_int {i : Int} (h : Is K G v (.dat (.int i))) : v = .int i := by
  cases h
  rfl
theorem is_str {x : Str} (h : Is K G v (.dat (.str x))) : v = .str x := by
  cases h
  rfl
theorem is_bool {b : Bool} (h : Is K G v (.dat (.bool b))) : v = .bl b := by
  cases h
  rfl
theorem is_none (h : Is K G v (.dat .none)) : v = .non := by
  cases h
  rfl
theorem is_list {ds : List PyData} (h : Is K G v (.dat (.list ds))) : ∃ p vs, v = .ref p ∧ SqL K G p vs ∧ DpAll K G vs ds := by
  cases h with
  | lst h1 h2 => exact ⟨_, _, rfl, h1, h2⟩
theorem is_tup {ds : List PyData} (h : Is K G v (.dat (.tuple ds))) : ∃ p vs, v = .ref p ∧ SqT K G p vs ∧ DpAll K G vs ds := by
  cases h with
  | tup h1 h2 => exact ⟨_, _, rfl, h1, h2⟩
theorem mk_int {i : Int} : Is K G (.int i) (.dat (.int i)) := .int i
theorem mk_str {x : Str} : Is K G (.str x) (.dat (.str x)) := .str x
theorem mk_bool {b : Bool} : Is K G (.bl b) (.dat (.bool b)) := .bl b
theorem mk_none : Is K G .non (.dat .none) := .non
theorem dps_len : ∀ {ds : List PyData} {vs : List V}, DpAll K G vs ds → vs.length = ds.length
  | [], _, h => by
    cases h
    rfl
  | d :: ds, _, h => by
    cases h with
    | cons h1 h2 => exact congrArg Nat.succ (dps_len h2)
theorem dps_get : ∀ {ds : List PyData} {vs : List V} {i : Nat} {d : PyData}, DpAll K G vs ds → ds[i]? = some d → ∃ v, vs[i]? = some v ∧ Dp K G v d
  | [], _, i, d, _, e => by simp at e
  | c :: ds, _, 0, d, h, e => by
    cases h with
    | cons h1 h2 =>
      simp at e
      subst e
      exact ⟨_, rfl, h1⟩
  | c :: ds, _, i + 1, d, h, e => by
    cases h with
    | cons h1 h2 =>
      simp at e
      obtain ⟨v, e1, e2⟩ := dps_get h2 e
      exact ⟨v, by simpa using e1, e2⟩
theorem dps_app : ∀ {ds es : List PyData} {vs ws : List V}, DpAll K G vs ds → DpAll K G ws es → DpAll K G (vs ++ ws) (ds ++ es)
  | [], _, _, _, h, k => by
    cases h
    exact k
  | d :: ds, _, _, _, h, k => by
    cases h with
    | cons h1 h2 => exact .cons h1 (dps_app h2 k)
theorem dps_one {d : PyData} (h : Dp K G v d) : DpAll K G [v] [d] := .cons h .nil
theorem dps_set : ∀ {ds : List PyData} {vs : List V} {d : PyData} (i : Nat), DpAll K G vs ds → Dp K G v d → DpAll K G (vs.set i v) (ds.set i d)
  | [], _, d, i, h, k => by
    cases h
    exact .nil
  | c :: ds, _, d, 0, h, k => by
    cases h with
    | cons h1 h2 => exact .cons k h2
  | c :: ds, _, d, i + 1, h, k => by
    cases h with
    | cons h1 h2 => exact .cons h1 (dps_set i h2 k)
theorem dps_take : ∀ {ds : List PyData} {vs : List V} (n : Nat), DpAll K G vs ds → DpAll K G (vs.take n) (ds.take n)
  | _, _, 0, _ => by
    simp
    exact .nil
  | [], _, n + 1, h => by
    cases h
    exact .nil
  | d :: ds, _, n + 1, h => by
    cases h with
    | cons h1 h2 => exact .cons h1 (dps_take n h2)
theorem dps_drop : ∀ {ds : List PyData} {vs : List V} (n : Nat), DpAll K G vs ds → DpAll K G (vs.drop n) (ds.drop n)
  | _, _, 0, h => by simpa using h
  | [], _, n + 1, h => by
    cases h
    exact .nil
  | d :: ds, _, n + 1, h => by
    cases h with
    | cons h1 h2 => exact dps_drop n h2
theorem dps_strs : ∀ {ls : List (List Nat)} {vs : List V}, DpAll K G vs (ls.map pS) → vs = (ls.map tx).map V.str
  | [], _, h => by
    cases h
    rfl
  | l :: ls, _, h => by
    cases h with
    | cons h1 h2 =>
      cases h1
      rw [dps_strs h2] <;> rfl
theorem dps_of_strs : ∀ (ls : List (List Nat)), DpAll K G ((ls.map tx).map V.str) (ls.map pS)
  | [] => .nil
  | l :: ls => .cons (.str _) (dps_of_strs ls)
theorem dps_bools : ∀ {bs : List Bool} {vs : List V}, DpAll K G vs (bs.map PyData.bool) → vs = bs.map V.bl
  | [], _, h => by
    cases h
    rfl
  | b :: bs, _, h => by
    cases h with
    | cons h1 h2 =>
      cases h1
      rw [dps_bools h2] <;> rfl
theorem dps_ints : ∀ {is : List Int} {vs : List V}, DpAll K G vs (is.map PyData.int) → vs = is.map V.int
  | [], _, h => by
    cases h
    rfl
  | b :: bs, _, h => by
    cases h with
    | cons h1 h2 =>
      cases h1
      rw [dps_ints h2] <;> rfl
end

/-! ### composing readings -/
section
variable {K : PySem.W.Frag} {A : AS} {ta tb : TE} {Sa Sb S S' : Ab → Prop}
theorem Ev.imp (h : Ev K ta A S) (k : ∀ a, S a → S' a) : Ev K ta A S' := fun H0 σ G H x m Q q => h H0 σ G H x m Q fun v G' H' a n s i => q v G' H' a n (k a s) i
def RV (K : PySem.W.Frag) (r : R2) (a b : Ab) (S : Ab → Prop) : Prop := ∀ (x y : V) (G H : Hp), Ex G H → Is K G x a → Is K G y b → ∀ Q : VK, (∀ v G' H' c, Nx G H G' H' → S c → Is K G' v c → Q v H') → r x y H Q
theorem ev_op {r : R2} (ha : Ev K ta A Sa) (hb : Ev K tb A Sb) (hr : ∀ a b, Sa a → Sb b → RV K r a b S) : Ev K (tOp r ta tb) A S := fun H0 σ G H x m Q q =>
  ha H0 σ G H x m _ fun v G1 H1 a n1 s1 i1 => hb H0 σ G1 H1 n1.s (m.up n1) _ fun u G2 H2 b n2 s2 i2 =>
    hr a b s1 s2 v u G2 H2 n2.s (is_up n2.g i1) i2 Q fun w G3 H3 c n3 s3 i3 => q w G3 H3 c ((n1.trans n2).trans n3) s3 i3
def RC (K : PySem.W.Frag) (r : List V → Hp → VK → Prop) (as : List Ab) (S : Ab → Prop) : Prop := ∀ (vs : List V) (G H : Hp), Ex G H → IsA K G vs as → ∀ Q : VK, (∀ v G' H' c, Nx G H G' H' → S c → Is K G' v c → Q v H') → r vs H Q
theorem ev_cb {r : List V → Hp → VK → Prop} {t : TA} {St : List Ab → Prop} (ha : EvA K t A St) (hr : ∀ as, St as → RC K r as S) : Ev K (tCB r t) A S := fun H0 σ G H x m Q q =>
  ha H0 σ G H x m _ fun vs G1 H1 as n1 s1 i1 => hr as s1 vs G1 H1 n1.s i1 Q fun w G3 H3 c n3 s3 i3 => q w G3 H3 c (n1.trans n3) s3 i3
theorem ea_nil : EvA K tNil A (fun as => as = []) := fun H0 σ G H x m Q q => q [] G H [] (Nx.refl x) rfl trivial
theorem ea_cons {t : TA} {St S2 : List Ab → Prop} (ha : Ev K ta A Sa) (hr : EvA K t A St) (hs : ∀ a as, Sa a → St as → S2 (a :: as)) : EvA K (tCons ta t) A S2 := fun H0 σ G H x m Q q =>
  ha H0 σ G H x m _ fun v G1 H1 a n1 s1 i1 => hr H0 σ G1 H1 n1.s (m.up n1) _ fun vs G2 H2 as n2 s2 i2 => q (v :: vs) G2 H2 (a :: as) (n1.trans n2) (hs a as s1 s2) ⟨is_up n2.g i1, i2⟩
/-- the end of a reading whose value is there -/
theorem fin {G H : Hp} (x : Ex G H) {Q : VK} {v : V} {a : Ab} (q : ∀ v G' H' c, Nx G H G' H' → S c → Is K G' v c → Q v H') (s : S a) (i : Is K G v a) : Q v H := q v G H a (Nx.refl x) s i
end

/-- comparisons: as a value and as a test -/
def Xc (C : Ct) (e : Expr) (A : AS) (S : Ab → Prop) : Prop := ∃ te, (∀ X, C.On X → PE X e te ∧ PT X e (tTest te)) ∧ Ev C.K te A S
abbrev Xdc (C : Ct) (e : Expr) (A : AS) (a : Ab) : Prop := Xc C e A (fun b => b = a)
theorem Xc.e {C : Ct} {e : Expr} {A : AS} {S : Ab → Prop} (h : Xc C e A S) : Xe C e A S := let ⟨te, h1, h2⟩ := h; ⟨te, fun X hX => (h1 X hX).1, h2⟩
/-- a test whatever the whole -/
def Xw (C : Ct) (e : Expr) (A : AS) (S : Bool → Prop) : Prop := ∃ t, (∀ X, C.On X → PW X e t) ∧ EvT C.K t A S
/-! ### expressions -/
section
variable {C : Ct} {A : AS} {S S' Sa Sb : Ab → Prop} {a b e o : Expr} {es : List Expr} {pos p apos : Pos} {x f : Str} {j : Nat}
theorem Xe.imp (h : Xe C e A S) (k : ∀ a, S a → S' a) : Xe C e A S' := let ⟨te, h1, h2⟩ := h; ⟨te, h1, h2.imp k⟩
theorem xd_var (i : Nat) {c : Ab} (ha : A.ts[i]? = some (some c)) (hN : C.N[i]? = some x := by rfl) (hv : visB C.sc x = true := by (try dsimp only [Ct.blk]); decide +kernel) (hd : (x == ("__debug__" : Str)) = false := by decide +kernel) (hcd : (x == ("__classdict__" : Str)) = false := by decide +kernel) : Xd C (.Name x pos) A c :=
  ⟨tVar i, fun X hX => pe_var (by rw [hX.N]; exact hN) (hX.vis hv) hd hcd, fun H0 σ G H x m Q q => by
    obtain ⟨v, h1, h2⟩ := m.at_ i c ha
    exact ⟨v, h1, fin x q rfl h2⟩⟩
theorem xd_int {i : Int} : Xd C (.Constant (.int i) j pos) A (.dat (.int i)) := ⟨_, fun _ _ => pe_int, fun H0 σ G H x m Q q => fin x q rfl mk_int⟩
theorem xd_bl {i : Bool} : Xd C (.Constant (.bool i) j pos) A (.dat (.bool i)) := ⟨_, fun _ _ => pe_bl, fun H0 σ G H x m Q q => fin x q rfl mk_bool⟩
theorem xd_non : Xd C (.Constant .none j pos) A (.dat .none) := ⟨_, fun _ _ => pe_non, fun H0 σ G H x m Q q => fin x q rfl mk_none⟩
theorem xd_str0 {z : Str} : Xd C (.Constant (.str z) j pos) A (.dat (.str z)) := ⟨_, fun _ _ => pe_str, fun H0 σ G H x m Q q => fin x q rfl mk_str⟩
theorem xd_str {z : Str} (l : List Nat) (h : z = tx l := by decide +kernel) : Xd C (.Constant (.str z) j pos) A (.dat (pS l)) := by
  subst h
  exact xd_str0
/-- a name of the module -/
theorem xd_glob {u : Value} {v : V} {c : Ab} (hm : C.ga.mg x = some u) (r : RelV v u) (hi : ∀ G, Is C.K G v c) (hg : gloB C.sc x = true := by (try dsimp only [Ct.blk]); decide +kernel) (hd : (x == ("__debug__" : Str)) = false := by decide +kernel) : Xd C (.Name x pos) A c :=
  ⟨tC v, fun X hX => pe_glob (hX.gl hg) (by rw [hX.mg]; exact hm) r hd, fun H0 σ G H x m Q q => fin x q rfl (hi G)⟩
theorem xe_bin {op : Operator} {r : R2} (ho : ∀ X, C.On X → OpR X (binaryOp op) r) (ha : Xe C a A Sa) (hb : Xe C b A Sb) (hr : ∀ c d, Sa c → Sb d → RV C.K r c d S) : Xe C (.BinOp a op b pos) A S :=
  let ⟨ta, a1, a2⟩ := ha
  let ⟨tb, b1, b2⟩ := hb
  ⟨tOp r ta tb, fun X hX => pe_op (ho X hX) (a1 X hX) (b1 X hX), ev_op a2 b2 hr⟩
theorem xe_cmp {op : CmpOp} {r : R2} (ho : ∀ X, C.On X → OpR X (compareOp op) r) (ha : Xe C a A Sa) (hb : Xe C b A Sb) (hr : ∀ c d, Sa c → Sb d → RV C.K r c d S)
    (hm : behindInMarks op b = false := by first | exact nobehind _ (by decide) (by decide) | rfl) : Xc C (.Compare a [op] [b] pos) A S :=
  let ⟨ta, a1, a2⟩ := ha
  let ⟨tb, b1, b2⟩ := hb
  ⟨tOp r ta tb, fun X hX => ⟨pe_cmpR (ho X hX) (a1 X hX) (b1 X hX) hm, pt_cmpR (ho X hX) (a1 X hX) (b1 X hX) hm⟩, ev_op a2 b2 hr⟩
/-- two values that are sure -/
theorem rv_d {r : R2} {c d : Ab} {S : Ab → Prop} (h : RV C.K r c d S) : ∀ c' d', c' = c → d' = d → RV C.K r c' d' S := fun _ _ e1 e2 => by
  rw [e1, e2]
  exact h
theorem rv_Ii {D : Int → Int → Prop} {g : Int → Int → Int} {i k : Int} (h : D i k) : RV C.K (rI D fun i j => .int (g i j)) (.dat (.int i)) (.dat (.int k)) (fun z => z = .dat (.int (g i k))) := fun x y G H e h1 h2 Q q =>
  ⟨i, k, is_int h1, is_int h2, h, fin e q rfl mk_int⟩
theorem rv_I0 {g : Int → Int → Int} {i k : Int} : RV C.K (rI0 fun i j => .int (g i j)) (.dat (.int i)) (.dat (.int k)) (fun z => z = .dat (.int (g i k))) := fun x y G H e h1 h2 Q q =>
  ⟨i, k, is_int h1, is_int h2, fin e q rfl mk_int⟩
theorem rv_B0 {g : Int → Int → Bool} {i k : Int} : RV C.K (rI0 fun i j => .bl (g i j)) (.dat (.int i)) (.dat (.int k)) (fun z => z = .dat (.bool (g i k))) := fun x y G H e h1 h2 Q q =>
  ⟨i, k, is_int h1, is_int h2, fin e q rfl mk_bool⟩
theorem xd_add {i k : Int} (ha : Xd C a A (.dat (.int i))) (hb : Xd C b A (.dat (.int k))) : Xd C (.BinOp a .Add b pos) A (.dat (.int (i + k))) := xe_bin (fun _ _ => op_add) ha hb (rv_d rv_I0)
theorem xd_sub {i k : Int} (ha : Xd C a A (.dat (.int i))) (hb : Xd C b A (.dat (.int k))) : Xd C (.BinOp a .Sub b pos) A (.dat (.int (i - k))) := xe_bin (fun _ _ => op_sub) ha hb (rv_d rv_I0)
theorem xd_mul {i k : Int} (ha : Xd C a A (.dat (.int i))) (hb : Xd C b A (.dat (.int k))) (h : CMul i k) : Xd C (.BinOp a .Mult b pos) A (.dat (.int (i * k))) := xe_bin (fun _ _ => op_mul) ha hb (rv_d (rv_Ii h))
theorem xd_mod {i k : Int} (ha : Xd C a A (.dat (.int i))) (hb : Xd C b A (.dat (.int k))) (h : 0 < k) : Xd C (.BinOp a .Mod b pos) A (.dat (.int (i % k))) := xe_bin (fun _ _ => op_mod) ha hb (rv_d (rv_Ii h))
theorem xd_fdiv {i k : Int} (ha : Xd C a A (.dat (.int i))) (hb : Xd C b A (.dat (.int k))) (h : CDivW i k) : Xd C (.BinOp a .FloorDiv b pos) A (.dat (.int (i / k))) := xe_bin (fun _ _ => op_fdivW) ha hb (rv_d (rv_Ii h))
theorem xc_lt {i k : Int} (ha : Xd C a A (.dat (.int i))) (hb : Xd C b A (.dat (.int k))) : Xdc C (.Compare a [.Lt] [b] pos) A (.dat (.bool (decide (i < k)))) := xe_cmp (fun _ _ => op_lt) ha hb (rv_d rv_B0)
theorem xc_le {i k : Int} (ha : Xd C a A (.dat (.int i))) (hb : Xd C b A (.dat (.int k))) : Xdc C (.Compare a [.LtE] [b] pos) A (.dat (.bool (decide (i ≤ k)))) := xe_cmp (fun _ _ => op_le) ha hb (rv_d rv_B0)
theorem xc_gt {i k : Int} (ha : Xd C a A (.dat (.int i))) (hb : Xd C b A (.dat (.int k))) : Xdc C (.Compare a [.Gt] [b] pos) A (.dat (.bool (decide (k < i)))) := xe_cmp (fun _ _ => op_gt) ha hb (rv_d rv_B0)
theorem xc_ge {i k : Int} (ha : Xd C a A (.dat (.int i))) (hb : Xd C b A (.dat (.int k))) : Xdc C (.Compare a [.GtE] [b] pos) A (.dat (.bool (decide (k ≤ i)))) := xe_cmp (fun _ _ => op_ge) ha hb (rv_d rv_B0)
theorem xc_eqI {i k : Int} (ha : Xd C a A (.dat (.int i))) (hb : Xd C b A (.dat (.int k))) : Xdc C (.Compare a [.Eq] [b] pos) A (.dat (.bool (decide (i = k)))) :=
  xe_cmp (fun _ _ => op_eq) ha hb (rv_d fun x y G H e h1 h2 Q q => by
    rw [is_int h1, is_int h2]
    refine ⟨rfl, fin e q rfl ?_⟩
    rw [show decide (V.int i = V.int k) = decide (i = k) from by simp]
    exact mk_bool)
theorem xc_neI {i k : Int} (ha : Xd C a A (.dat (.int i))) (hb : Xd C b A (.dat (.int k))) : Xdc C (.Compare a [.NotEq] [b] pos) A (.dat (.bool (!decide (i = k)))) :=
  xe_cmp (fun _ _ => op_ne) ha hb (rv_d fun x y G H e h1 h2 Q q => by
    rw [is_int h1, is_int h2]
    refine ⟨rfl, fin e q rfl ?_⟩
    rw [show decide (V.int i = V.int k) = decide (i = k) from by simp]
    exact mk_bool)
theorem xc_neB {i k : Bool} (ha : Xd C a A (.dat (.bool i))) (hb : Xd C b A (.dat (.bool k))) : Xdc C (.Compare a [.NotEq] [b] pos) A (.dat (.bool (!decide (i = k)))) :=
  xe_cmp (fun _ _ => op_ne) ha hb (rv_d fun x y G H e h1 h2 Q q => by
    rw [is_bool h1, is_bool h2]
    refine ⟨rfl, fin e q rfl ?_⟩
    rw [show decide (V.bl i = V.bl k) = decide (i = k) from by simp]
    exact mk_bool)
theorem tx_inj {l m : List Nat} (h : tx l = tx m) : l = m := by
  have e := congrArg (fun z : Str => z.cps.toList) h
  exact e
theorem tx_dec {l m : List Nat} : decide (V.str (tx l) = V.str (tx m)) = decide (l = m) := by
  by_cases h : l = m
  · rw [h]
    simp
  · rw [decide_eq_false h]
    exact decide_eq_false fun e => h (tx_inj (V.str.inj e))
theorem xc_eqS {l m : List Nat} (ha : Xd C a A (.dat (pS l))) (hb : Xd C b A (.dat (pS m))) : Xdc C (.Compare a [.Eq] [b] pos) A (.dat (.bool (decide (l = m)))) :=
  xe_cmp (fun _ _ => op_eq) ha hb (rv_d fun x y G H e h1 h2 Q q => by
    rw [is_str h1, is_str h2]
    refine ⟨rfl, fin e q rfl ?_⟩
    rw [tx_dec]
    exact mk_bool)
theorem xc_neS {l m : List Nat} (ha : Xd C a A (.dat (pS l))) (hb : Xd C b A (.dat (pS m))) : Xdc C (.Compare a [.NotEq] [b] pos) A (.dat (.bool (!decide (l = m)))) :=
  xe_cmp (fun _ _ => op_ne) ha hb (rv_d fun x y G H e h1 h2 Q q => by
    rw [is_str h1, is_str h2]
    refine ⟨rfl, fin e q rfl ?_⟩
    rw [tx_dec]
    exact mk_bool)
/-- one sign in a text -/
theorem xc_inS {c : Nat} {l : List Nat} (ha : Xd C a A (.dat (pS [c]))) (hb : Xd C b A (.dat (pS l))) (hm : behindInMarks .In b = false := by rfl) : Xdc C (.Compare a [.In] [b] pos) A (.dat (.bool (decide (c ∈ l)))) :=
  xe_cmp (fun _ _ => op_in_sign) ha hb (rv_d fun x y G H e h1 h2 Q q => ⟨c, tx l, is_str h1, is_str h2, fin e q rfl mk_bool⟩) hm
theorem xc_ninS {c : Nat} {l : List Nat} (ha : Xd C a A (.dat (pS [c]))) (hb : Xd C b A (.dat (pS l))) (hm : behindInMarks .NotIn b = false := by rfl) : Xdc C (.Compare a [.NotIn] [b] pos) A (.dat (.bool (!decide (c ∈ l)))) :=
  xe_cmp (fun _ _ => op_notIn_sign) ha hb (rv_d fun x y G H e h1 h2 Q q => ⟨c, tx l, is_str h1, is_str h2, fin e q rfl mk_bool⟩) hm
/-- data -/
theorem xc_eqD {d d' : PyData} (ha : Xd C a A (.dat d)) (hb : Xd C b A (.dat d')) (h1 : SeqAt.shaped d = true) (h2 : SeqAt.shaped d' = true) : Xdc C (.Compare a [.Eq] [b] pos) A (.dat (.bool (PyData.eqv d d'))) :=
  xe_cmp (r := rEqD C.K) (fun X hX => by have q := op_eqD (X := X) hX.room.units; rw [hX.K] at q; exact q) ha hb (rv_d fun x y G H e i1 i2 Q q =>
    ⟨d, d', Ex.dp e i1, Ex.dp e i2, h1, h2, fin e q rfl mk_bool⟩)
theorem xc_neD {d d' : PyData} (ha : Xd C a A (.dat d)) (hb : Xd C b A (.dat d')) (h1 : SeqAt.shaped d = true) (h2 : SeqAt.shaped d' = true) : Xdc C (.Compare a [.NotEq] [b] pos) A (.dat (.bool (!PyData.eqv d d'))) :=
  xe_cmp (r := rNeD C.K) (fun X hX => by have q := op_neD (X := X) hX.room.units; rw [hX.K] at q; exact q) ha hb (rv_d fun x y G H e i1 i2 Q q =>
    ⟨d, d', Ex.dp e i1, Ex.dp e i2, h1, h2, fin e q rfl mk_bool⟩)
/-- is None -/
def isN : Ab → Bool
  | .dat .none => true
  | _ => false
theorem is_ref {K : PySem.W.Frag} {G : Hp} {v : V} : ∀ {c : Ab}, Is K G v c → isN c = false → v ≠ .non
  | .dat d, h, hn => by
    intro e
    subst e
    have h' : Dp K G .non d := h
    cases h'
    cases hn
  | .flo _, h, _ => by
    obtain ⟨_, _, _, e, _⟩ := h
    rw [e]
    exact fun z => nomatch z
  | .wor _, h, _ => by
    obtain ⟨_, _, _, _, _, _, _, e, _⟩ := h
    rw [e]
    exact fun z => nomatch z
  | .han _, h, _ => by
    obtain ⟨_, _, _, _, e, _⟩ := h
    rw [e]
    exact fun z => nomatch z
  | .wls true _, h, _ => by
    obtain ⟨_, _, e, _⟩ := h
    rw [e]
    exact fun z => nomatch z
  | .wls false _, h, _ => by
    obtain ⟨_, _, e, _⟩ := h
    rw [e]
    exact fun z => nomatch z
  | .src, h, _ => by
    obtain ⟨_, e, _⟩ := h
    rw [e]
    exact fun z => nomatch z
  | .book _, h, _ => by
    obtain ⟨_, e, _⟩ := h
    rw [e]
    exact fun z => nomatch z
  | .land .., h, _ => by
    obtain ⟨_, _, _, _, _, e, _⟩ := h
    rw [e]
    exact fun z => nomatch z
  | .sgn _, h, _ => by
    obtain ⟨_, e, _⟩ := h
    rw [e]
    exact fun z => nomatch z
  | .pt _, h, _ => by
    obtain ⟨_, e, _⟩ := h
    rw [e]
    exact fun z => nomatch z
  | .nl _, h, _ => by
    obtain ⟨_, _, e, _⟩ := h
    rw [e]
    exact fun z => nomatch z
  | .dct _, h, _ => by
    obtain ⟨_, _, e, _⟩ := h
    rw [e]
    exact fun z => nomatch z
theorem isN_dec {K : PySem.W.Frag} {G : Hp} {v : V} {c : Ab} (h : Is K G v c) : decide (v = .non) = isN c := by
  cases e : isN c with
  | false => exact decide_eq_false (is_ref h e)
  | true =>
    have : c = .dat .none := by
      unfold isN at e
      split at e
      · rfl
      · cases e
    subst this
    rw [is_none h]
    rfl
theorem xc_isN {c : Ab} {i : Nat} {p2 : Pos} (ha : Xd C a A c) : Xdc C (.Compare a [.Is] [.Constant .none i p2] pos) A (.dat (.bool (isN c))) :=
  xe_cmp (fun _ _ => op_isN) ha xd_non (rv_d fun x y G H e i1 i2 Q q => ⟨is_none i2, fin e q rfl (by rw [isN_dec i1]; exact mk_bool)⟩)
theorem xc_notN {c : Ab} {i : Nat} {p2 : Pos} (ha : Xd C a A c) : Xdc C (.Compare a [.IsNot] [.Constant .none i p2] pos) A (.dat (.bool (!isN c))) :=
  xe_cmp (fun _ _ => op_notN) ha xd_non (rv_d fun x y G H e i1 i2 Q q => ⟨is_none i2, fin e q rfl (by rw [isN_dec i1]; exact mk_bool)⟩)

/-! ### and, or, not, if, tests -/
theorem pe_nev {X : Cx} {e : Expr} : PE X e (fun _ _ _ => False) := ⟨fun _ _ _ _ _ _ h => h.elim⟩
theorem pt_nev {X : Cx} {e : Expr} : PT X e (fun _ _ _ => False) := ⟨fun _ _ _ _ _ _ h => h.elim⟩
theorem pw_nev {X : Cx} {e : Expr} : PW X e (fun _ _ _ => False) := ⟨fun _ _ _ _ _ _ _ h => h.elim⟩
theorem xe_one {op : BoolOp} (h : Xe C a A S) : Xe C (.BoolOp op [a] pos) A S := let ⟨t, h1, h2⟩ := h; ⟨t, fun X hX => pe_one (h1 X hX), h2⟩
theorem xe_and {rest : List Expr} {i : Bool} (ha : Xd C a A (.dat (.bool i))) (hb : i = true → Xe C (.BoolOp .And (b :: rest) pos) A S) (hf : i = false → S (.dat (.bool false))) : Xe C (.BoolOp .And (a :: b :: rest) pos) A S := by
  obtain ⟨ta, a1, a2⟩ := ha
  cases i with
  | true =>
    obtain ⟨tb, b1, b2⟩ := hb rfl
    refine ⟨tAndV ta tb, fun X hX => pe_and (a1 X hX) (b1 X hX), fun H0 σ G H x m Q q => a2 H0 σ G H x m _ fun v G1 H1 c n1 s1 i1 => ?_⟩
    subst s1
    refine ⟨true, is_bool i1, ?_⟩
    rw [if_pos rfl]
    exact b2 H0 σ G1 H1 n1.s (m.up n1) Q fun w G2 H2 d n2 s2 i2 => q w G2 H2 d (n1.trans n2) s2 i2
  | false =>
    refine ⟨tAndV ta _, fun X hX => pe_and (a1 X hX) pe_nev, fun H0 σ G H x m Q q => a2 H0 σ G H x m _ fun v G1 H1 c n1 s1 i1 => ?_⟩
    subst s1
    refine ⟨false, is_bool i1, ?_⟩
    rw [if_neg (by decide)]
    exact q _ G1 H1 _ n1 (hf rfl) mk_bool
theorem xd_and {rest : List Expr} {i k : Bool} (ha : Xd C a A (.dat (.bool i))) (hb : i = true → Xd C (.BoolOp .And (b :: rest) pos) A (.dat (.bool k))) : Xd C (.BoolOp .And (a :: b :: rest) pos) A (.dat (.bool (i && k))) :=
  xe_and ha (fun e => (hb e).imp fun z hz => by rw [hz, e]; rfl) fun e => by rw [e]; rfl
theorem xd_not {i : Bool} (ha : Xd C a A (.dat (.bool i))) : Xd C (.UnaryOp .Not a pos) A (.dat (.bool (!i))) := by
  obtain ⟨ta, a1, a2⟩ := ha
  refine ⟨tNotV ta, fun X hX => pe_not (a1 X hX), fun H0 σ G H x m Q q => a2 H0 σ G H x m _ fun v G1 H1 c n1 s1 i1 => ?_⟩
  subst s1
  exact ⟨i, is_bool i1, q _ G1 H1 _ n1 rfl mk_bool⟩
/-- a test that is a comparison -/
theorem xt_cS {T : Bool → Prop} (h : Xc C e A S) (hs : ∀ z, S z → ∃ b, z = .dat (.bool b) ∧ T b) : Xt C e A T := by
  obtain ⟨te, h1, h2⟩ := h
  refine ⟨tTest te, fun X hX => (h1 X hX).2, fun H0 σ G H x m Q q => h2 H0 σ G H x m _ fun v G1 H1 c n1 s1 i1 => ?_⟩
  obtain ⟨b, rfl, hb⟩ := hs c s1
  exact ⟨b, is_bool i1, q b G1 H1 n1 hb⟩
theorem xt_c {i : Bool} (h : Xdc C e A (.dat (.bool i))) : Xb C e A i := xt_cS h fun z hz => ⟨i, hz, rfl⟩
/-- a test that is a plain expression -/
theorem xt_vS {T : Bool → Prop} (h : Xe C e A S) (hs : ∀ z, S z → ∃ b, z = .dat (.bool b) ∧ T b) (he : ∀ (env : Env) (whole : Sem Value), isTrue e env whole = (do let v ← whole; standAt e.pos; holding [v] (truthy v)) := by intro _ _; rfl) : Xt C e A T := by
  obtain ⟨te, h1, h2⟩ := h
  refine ⟨tB te, fun X hX => pt_val (h1 X hX) (he _), fun H0 σ G H x m Q q => h2 H0 σ G H x m _ fun v G1 H1 c n1 s1 i1 => ?_⟩
  obtain ⟨b, rfl, hb⟩ := hs c s1
  exact ⟨b, is_bool i1, q b G1 H1 n1 hb⟩
theorem xt_v {i : Bool} (h : Xd C e A (.dat (.bool i))) (he : ∀ (env : Env) (whole : Sem Value), isTrue e env whole = (do let v ← whole; standAt e.pos; holding [v] (truthy v)) := by intro _ _; rfl) : Xb C e A i := xt_vS h (fun z hz => ⟨i, hz, rfl⟩) he
theorem xt_not {i : Bool} (ha : Xb C a A i) : Xb C (.UnaryOp .Not a pos) A (!i) := by
  obtain ⟨t, a1, a2⟩ := ha
  exact ⟨tNot t, fun X hX => pt_not (a1 X hX), fun H0 σ G H x m Q q => a2 H0 σ G H x m _ fun v G1 H1 n1 s1 => q _ G1 H1 n1 (by rw [s1])⟩
theorem xt_w {T : Bool → Prop} (h : Xw C e A T) : Xt C e A T := let ⟨t, h1, h2⟩ := h; ⟨t, fun X hX => (h1 X hX).pt, h2⟩
theorem xw_and1 {T : Bool → Prop} (h : Xt C a A T) : Xw C (.BoolOp .And [a] pos) A T := let ⟨t, h1, h2⟩ := h; ⟨t, fun X hX => pw_and1 (h1 X hX), h2⟩
theorem xw_or1 {T : Bool → Prop} (h : Xt C a A T) : Xw C (.BoolOp .Or [a] pos) A T := let ⟨t, h1, h2⟩ := h; ⟨t, fun X hX => pw_or1 (h1 X hX), h2⟩
theorem xw_andS {rest : List Expr} {i : Bool} {T : Bool → Prop} (ha : Xb C a A i) (hb : i = true → Xw C (.BoolOp .And (b :: rest) pos) A T) (hf : i = false → T false) : Xw C (.BoolOp .And (a :: b :: rest) pos) A T := by
  obtain ⟨ta, a1, a2⟩ := ha
  cases i with
  | true =>
    obtain ⟨tb, b1, b2⟩ := hb rfl
    refine ⟨tAnd ta tb, fun X hX => pw_and (a1 X hX) (b1 X hX), fun H0 σ G H x m Q q => a2 H0 σ G H x m _ fun v G1 H1 n1 s1 => ?_⟩
    subst s1
    rw [if_pos rfl]
    exact b2 H0 σ G1 H1 n1.s (m.up n1) Q fun w G2 H2 n2 s2 => q w G2 H2 (n1.trans n2) s2
  | false =>
    refine ⟨tAnd ta _, fun X hX => pw_and (a1 X hX) pw_nev, fun H0 σ G H x m Q q => a2 H0 σ G H x m _ fun v G1 H1 n1 s1 => ?_⟩
    subst s1
    rw [if_neg (by decide)]
    exact q _ G1 H1 n1 (hf rfl)
theorem xw_and {rest : List Expr} {i k : Bool} (ha : Xb C a A i) (hb : i = true → Xw C (.BoolOp .And (b :: rest) pos) A (fun c => c = k)) : Xw C (.BoolOp .And (a :: b :: rest) pos) A (fun c => c = (i && k)) :=
  xw_andS ha (fun e => let ⟨t, h1, h2⟩ := hb e; ⟨t, h1, fun H0 σ G H x m Q q => h2 H0 σ G H x m Q fun c G1 H1 n s => q c G1 H1 n (by rw [s, e]; rfl)⟩) fun e => by rw [e]; rfl
theorem xw_or {rest : List Expr} {i k : Bool} (ha : Xb C a A i) (hb : i = false → Xw C (.BoolOp .Or (b :: rest) pos) A (fun c => c = k)) : Xw C (.BoolOp .Or (a :: b :: rest) pos) A (fun c => c = (i || k)) := by
  obtain ⟨ta, a1, a2⟩ := ha
  cases i with
  | false =>
    obtain ⟨tb, b1, b2⟩ := hb rfl
    refine ⟨tOr ta tb, fun X hX => pw_or (a1 X hX) (b1 X hX), fun H0 σ G H x m Q q => a2 H0 σ G H x m _ fun v G1 H1 n1 s1 => ?_⟩
    subst s1
    rw [if_neg (by decide)]
    exact b2 H0 σ G1 H1 n1.s (m.up n1) Q fun w G2 H2 n2 s2 => q w G2 H2 (n1.trans n2) s2
  | true =>
    refine ⟨tOr ta _, fun X hX => pw_or (a1 X hX) pw_nev, fun H0 σ G H x m Q q => a2 H0 σ G H x m _ fun v G1 H1 n1 s1 => ?_⟩
    subst s1
    rw [if_pos rfl]
    exact q _ G1 H1 n1 rfl
/-- a if t else b -/
theorem xe_if {c : Expr} {i : Bool} (hc : Xb C c A i) (h1 : i = true → Xe C a A S) (h2 : i = false → Xe C b A S) : Xe C (.IfExp c a b pos) A S := by
  obtain ⟨tc, c1, c2⟩ := hc
  cases i with
  | true =>
    obtain ⟨ta, a1, a2⟩ := h1 rfl
    refine ⟨tIf tc ta _, fun X hX => pe_ifExp (c1 X hX) (a1 X hX) pe_nev, fun H0 σ G H x m Q q => c2 H0 σ G H x m _ fun v G1 H1 n1 s1 => ?_⟩
    subst s1
    rw [if_pos rfl]
    exact a2 H0 σ G1 H1 n1.s (m.up n1) Q fun w G2 H2 d n2 s2 i2 => q w G2 H2 d (n1.trans n2) s2 i2
  | false =>
    obtain ⟨ta, a1, a2⟩ := h2 rfl
    refine ⟨tIf tc _ ta, fun X hX => pe_ifExp (c1 X hX) pe_nev (a1 X hX), fun H0 σ G H x m Q q => c2 H0 σ G H x m _ fun v G1 H1 n1 s1 => ?_⟩
    subst s1
    rw [if_neg (by decide)]
    exact a2 H0 σ G1 H1 n1.s (m.up n1) Q fun w G2 H2 d n2 s2 i2 => q w G2 H2 d (n1.trans n2) s2 i2
/-- a chain of two comparisons of ints -/
theorem xc_chain {c : Expr} {op op' : CmpOp} {g g' : Int → Int → Bool} {i k l : Int} (ho : ∀ X, C.On X → OpR X (compareOp op) (rI0 fun i j => .bl (g i j))) (ho' : ∀ X, C.On X → OpR X (compareOp op') (rI0 fun i j => .bl (g' i j)))
    (ha : Xd C a A (.dat (.int i))) (hb : Xd C b A (.dat (.int k))) (hc : Xd C c A (.dat (.int l))) (hm : lastMarks [op, op'] [b, c] = false := by with_unfolding_all rfl) : Xdc C (.Compare a [op, op'] [b, c] pos) A (.dat (.bool (g i k && g' k l))) := by
  obtain ⟨ta, a1, a2⟩ := ha
  obtain ⟨tb, b1, b2⟩ := hb
  obtain ⟨tc, c1, c2⟩ := hc
  refine ⟨tChain _ _ ta tb tc, fun X hX => ⟨pe_chain (ho X hX) (ho' X hX) (a1 X hX) (b1 X hX) (c1 X hX) hm, pt_chain (ho X hX) (ho' X hX) (a1 X hX) (b1 X hX) (c1 X hX) hm⟩, fun H0 σ G H x m Q q => ?_⟩
  refine a2 H0 σ G H x m _ fun v G1 H1 z n1 s1 i1 => b2 H0 σ G1 H1 n1.s (m.up n1) _ fun u G2 H2 z2 n2 s2 i2 => ?_
  subst s1 s2
  refine ⟨i, k, is_int i1, is_int i2, g i k, rfl, ?_⟩
  cases e : g i k with
  | false =>
    rw [if_neg (by decide)]
    refine q _ G2 H2 _ (n1.trans n2) ?_ mk_bool
    rw [e]
    rfl
  | true =>
    rw [if_pos rfl]
    refine c2 H0 σ G2 H2 (n1.trans n2).s (m.up (n1.trans n2)) _ fun w G3 H3 z3 n3 s3 i3 => ?_
    subst s3
    refine ⟨k, l, is_int i2, is_int i3, q _ G3 H3 _ ((n1.trans n2).trans n3) ?_ mk_bool⟩
    rw [e]
    rfl

/-! ### arguments -/
theorem xa_nil : Xa C [] A (fun as => as = []) := ⟨tNil, fun _ _ => pa_nil, ea_nil⟩
theorem xs_nil : Xs C [] A [] := xa_nil
theorem xa_cons {St S2 : List Ab → Prop} (ha : Xe C e A Sa) (hr : Xa C es A St) (hs : ∀ c cs, Sa c → St cs → S2 (c :: cs)) (hn : isStar e = false := by rfl) : Xa C (e :: es) A S2 :=
  let ⟨ta, a1, a2⟩ := ha
  let ⟨tr, b1, b2⟩ := hr
  ⟨tCons ta tr, fun X hX => pa_cons (a1 X hX) (b1 X hX) (star_one hn), ea_cons a2 b2 hs⟩
theorem xs_cons {c : Ab} {cs : List Ab} (ha : Xd C e A c) (hr : Xs C es A cs) (hn : isStar e = false := by rfl) : Xs C (e :: es) A (c :: cs) := xa_cons ha hr (fun _ _ e1 e2 => by rw [e1, e2]) hn
/-- lists of data as arguments -/
theorem isA_dps {K : PySem.W.Frag} {G : Hp} : ∀ {ds : List PyData} {vs : List V}, IsA K G vs (ds.map Ab.dat) → DpAll K G vs ds
  | [], [], _ => .nil
  | [], _ :: _, h => h.elim
  | _ :: _, [], h => h.elim
  | _ :: _, _ :: _, h => .cons h.1 (isA_dps h.2)
theorem small_le {n : Nat} (h : n ≤ 100000) : n ≤ sizeLine := Nat.le_trans h (by decide)
theorem small_lt {n : Nat} (h : n < 100000) : n < sizeLine := Nat.lt_of_lt_of_le h (by decide)
/-- (a, b, ..), [a, b, ..] of data -/
theorem xe_tup {k : Nat} {St : List Ab → Prop} (h : Xa C es A St) (hs : ∀ as, St as → ∃ ds, as = ds.map Ab.dat ∧ S (.dat (.tuple ds)) ∧ ds.length ≤ 100000) : Xe C (.Tuple es k pos) A S := by
  obtain ⟨t, h1, h2⟩ := h
  refine ⟨tTup t, fun X hX => pe_tup (h1 X hX), fun H0 σ G H x m Q q => h2 H0 σ G H x m _ fun vs G1 H1 as n1 s1 i1 => ?_⟩
  obtain ⟨ds, rfl, hS, hl⟩ := hs as s1
  have hd := isA_dps i1
  refine ⟨small_le (by rw [dps_len hd]; exact hl), fun p hp => ?_⟩
  refine q _ _ _ _ (n1.trans (Nx.new (o := .tup vs) n1.s hp)) hS ?_
  exact Dp.tup (SqT.of upd_same) ((Ex.new (n1.s.back hp)).dps hd)
theorem xd_tup {k : Nat} {ds : List PyData} (h : Xs C es A (ds.map Ab.dat)) (hl : ds.length ≤ 100000 := by exact Nat.le_of_ble_eq_true rfl) : Xd C (.Tuple es k pos) A (.dat (.tuple ds)) := xe_tup h fun as e => ⟨ds, e, rfl, hl⟩
theorem xe_nl {St : List Ab → Prop} (h : Xa C es A St) (hs : ∀ as, St as → ∃ ds, as = ds.map Ab.dat ∧ S (.nl ds) ∧ ds.length ≤ 100000) : Xe C (.List es pos) A S := by
  obtain ⟨t, h1, h2⟩ := h
  refine ⟨tLst t, fun X hX => pe_lst (h1 X hX), fun H0 σ G H x m Q q => h2 H0 σ G H x m _ fun vs G1 H1 as n1 s1 i1 => ?_⟩
  obtain ⟨ds, rfl, hS, hl⟩ := hs as s1
  have hd := isA_dps i1
  refine ⟨small_le (by rw [dps_len hd]; exact hl), fun p hp => ?_⟩
  exact q _ _ _ _ (n1.trans (Nx.new (o := .lst vs) n1.s hp)) hS ⟨p, vs, rfl, upd_same, (Ex.new (n1.s.back hp)).dps hd⟩
theorem Xe.nl (h : Xe C e A S) (k : ∀ z, S z → ∃ ds, z = .nl ds ∧ S' (.dat (.list ds))) : Xe C e A S' := by
  obtain ⟨te, h1, h2⟩ := h
  refine ⟨te, h1, fun H0 σ G H x m Q q => h2 H0 σ G H x m Q fun v G' H' z n s i => ?_⟩
  obtain ⟨ds, rfl, hS⟩ := k z s
  obtain ⟨a, vs, rfl, e1, e2⟩ := i
  exact q _ G' H' _ n hS (Dp.lst (SqL.of e1) e2)
theorem xd_nl {ds : List PyData} (h : Xd C e A (.nl ds)) : Xd C e A (.dat (.list ds)) := h.nl fun z hz => ⟨ds, hz, rfl⟩
theorem xd_lst {ds : List PyData} (h : Xs C es A (ds.map Ab.dat)) (hl : ds.length ≤ 100000 := by exact Nat.le_of_ble_eq_true rfl) : Xd C (.List es pos) A (.dat (.list ds)) := xd_nl (xe_nl h fun as e => ⟨ds, e, rfl, hl⟩)
theorem xn_lst {ds : List PyData} (h : Xs C es A (ds.map Ab.dat)) (hl : ds.length ≤ 100000 := by exact Nat.le_of_ble_eq_true rfl) : Xd C (.List es pos) A (.nl ds) := xe_nl h fun as e => ⟨ds, e, rfl, hl⟩
theorem xn_cat {ds ds' : List PyData} (ha : Xd C a A (.nl ds)) (hb : Xd C b A (.nl ds')) (hl : ds.length + ds'.length ≤ 100000) : Xd C (.BinOp a .Add b pos) A (.nl (ds ++ ds')) :=
  xe_bin (fun _ _ => op_cat) ha hb (rv_d fun x y G H e i1 i2 Q q => by
    obtain ⟨p, vs, rfl, h1, h2⟩ := i1
    obtain ⟨p', vs', rfl, h1', h2'⟩ := i2
    refine ⟨p, p', vs, vs', rfl, rfl, e.at_ _ _ trivial h1, e.at_ _ _ trivial h1', small_le (by rw [dps_len h2, dps_len h2']; exact hl), fun r hr => ?_⟩
    exact q _ _ _ _ (Nx.new (o := .lst (vs ++ vs')) e hr) rfl ⟨r, _, rfl, upd_same, (Ex.new (e.back hr)).dps (dps_app h2 h2')⟩)

/-! ### subscripts -/
theorem xe_ix {r : R2} (ho : ∀ X, C.On X → IxR X r) (ha : Xe C a A Sa) (hb : Xe C b A Sb) (hr : ∀ c d, Sa c → Sb d → RV C.K r c d S) (hs : PlainIx b := by exact fun _ _ => rfl) : Xe C (.Subscript a b pos) A S :=
  let ⟨ta, a1, a2⟩ := ha
  let ⟨tb, b1, b2⟩ := hb
  ⟨tOp r ta tb, fun X hX => pe_ix (ho X hX) (a1 X hX) (b1 X hX) hs, ev_op a2 b2 hr⟩
theorem atI_ix {α β : Type} {xs : List α} {ys : List β} {i : Int} {y : β} (hl : xs.length = ys.length) (h : atI ys i = some y) : ∃ (j : Nat) (x : α), atI xs i = some x ∧ ys[j]? = some y ∧ xs[j]? = some x := by
  unfold atI at h ⊢
  rw [hl]
  cases e : ixN ys.length i with
  | none =>
    rw [e] at h
    cases h
  | some j =>
    rw [e] at h
    have h' : ys[j]? = some y := h
    have hj : j < ys.length := (List.getElem?_eq_some_iff.mp h').1
    exact ⟨j, xs[j], by show xs[j]? = _; exact List.getElem?_eq_getElem (by omega), h', List.getElem?_eq_getElem (by omega)⟩
theorem atI_dps {K : PySem.W.Frag} {G : Hp} {ds : List PyData} {vs : List V} {i : Int} {d : PyData} (h : DpAll K G vs ds) (e : atI ds i = some d) : ∃ v, atI vs i = some v ∧ Dp K G v d := by
  obtain ⟨j, x, h1, h2, h3⟩ := atI_ix (xs := vs) (dps_len h) e
  obtain ⟨v, e1, e2⟩ := dps_get h h2
  rw [h3] at e1
  cases e1
  exact ⟨x, h1, e2⟩
theorem rv_ixL {ds : List PyData} {i : Int} {d : PyData} (e : atI ds i = some d) : RV C.K (rIxL C.K) (.dat (.list ds)) (.dat (.int i)) (fun z => z = .dat d) := fun x y G H ex i1 i2 Q q => by
  obtain ⟨p, vs, rfl, h1, h2⟩ := is_list i1
  obtain ⟨v, e1, e2⟩ := atI_dps h2 e
  exact ⟨p, vs, i, v, rfl, is_int i2, ex.sl h1, e1, fin ex q rfl e2⟩
theorem rv_ixT {ds : List PyData} {i : Int} {d : PyData} (e : atI ds i = some d) : RV C.K (rIxT C.K) (.dat (.tuple ds)) (.dat (.int i)) (fun z => z = .dat d) := fun x y G H ex i1 i2 Q q => by
  obtain ⟨p, vs, rfl, h1, h2⟩ := is_tup i1
  obtain ⟨v, e1, e2⟩ := atI_dps h2 e
  exact ⟨p, vs, i, v, rfl, is_int i2, ex.st h1, e1, fin ex q rfl e2⟩
theorem on_ixL : ∀ X, C.On X → IxR X (rIxL C.K) := fun X hX => by
  have q := ix_list (X := X)
  rw [hX.K] at q
  exact q
theorem on_ixT : ∀ X, C.On X → IxR X (rIxT C.K) := fun X hX => by
  have q := ix_tup (X := X)
  rw [hX.K] at q
  exact q
theorem xd_ixL {ds : List PyData} {i : Int} {d : PyData} (ha : Xd C a A (.dat (.list ds))) (hb : Xd C b A (.dat (.int i))) (e : atI ds i = some d) (hs : PlainIx b := by exact fun _ _ => rfl) : Xd C (.Subscript a b pos) A (.dat d) := xe_ix on_ixL ha hb (rv_d (rv_ixL e)) hs
theorem xd_ixT {ds : List PyData} {i : Int} {d : PyData} (ha : Xd C a A (.dat (.tuple ds))) (hb : Xd C b A (.dat (.int i))) (e : atI ds i = some d) (hs : PlainIx b := by exact fun _ _ => rfl) : Xd C (.Subscript a b pos) A (.dat d) := xe_ix on_ixT ha hb (rv_d (rv_ixT e)) hs
theorem xd_ixS {l : List Nat} {i : Int} {c : Nat} (ha : Xd C a A (.dat (pS l))) (hb : Xd C b A (.dat (.int i))) (e : atI l i = some c) (hl : l.length ≤ 100000) (hs : PlainIx b := by exact fun _ _ => rfl) : Xd C (.Subscript a b pos) A (.dat (pS [c])) :=
  xe_ix (fun _ _ => ix_str) ha hb (rv_d fun x y G H ex i1 i2 Q q => ⟨tx l, i, c, is_str i1, is_int i2, small_le hl, e, fin ex q rfl mk_str⟩) hs

/-! ### calls of built-ins -/
theorem xe_callB {id : String} {r : List V → Hp → VK → Prop} {St : List Ab → Prop} (hc : ∀ X, C.On X → CallR X (.builtin id) r) (hm : C.ga.mg x = none) (hv : bootBuiltins x = some (.builtin id)) (ha : Xa C (e :: es) A St) (hr : ∀ as, St as → RC C.K r as S)
    (hg : gloB C.sc x = true := by (try dsimp only [Ct.blk]); decide +kernel) (hst : noStars (e :: es) = true := by rfl) (hn : x ≠ "__name__" := by decide +kernel) (hdb : (x == ("__debug__" : Str)) = false := by decide +kernel) : Xe C (.Call (.Name x p) (e :: es) [] pos) A S :=
  let ⟨t, a1, a2⟩ := ha
  ⟨tCB r t, fun X hX => pe_callB (hc X hX) (hX.gl hg) (by rw [hX.mg]; exact hm) hv (a1 X hX) hn hdb (star_one (noStars_cons hst).1) (backTo_any (noStars_any (noStars_cons hst).2)), ev_cb a2 hr⟩
theorem xe_callTy {T : String} {r : List V → Hp → VK → Prop} {St : List Ab → Prop} (hc : ∀ X, C.On X → CallR X (.type T) r) (hm : C.ga.mg x = none) (hv : bootBuiltins x = some (.type T)) (ha : Xa C (e :: es) A St) (hr : ∀ as, St as → RC C.K r as S)
    (hg : gloB C.sc x = true := by (try dsimp only [Ct.blk]); decide +kernel) (hst : noStars (e :: es) = true := by rfl) (hn : x ≠ "__name__" := by decide +kernel) (hdb : (x == ("__debug__" : Str)) = false := by decide +kernel) : Xe C (.Call (.Name x p) (e :: es) [] pos) A S :=
  let ⟨t, a1, a2⟩ := ha
  ⟨tCB r t, fun X hX => pe_callTy (hc X hX) (hX.gl hg) (by rw [hX.mg]; exact hm) hv (a1 X hX) hn hdb (star_one (noStars_cons hst).1) (backTo_any (noStars_any (noStars_cons hst).2)), ev_cb a2 hr⟩
end
end Oh
set_option maxHeartbeats 4000000
/-! OhC: contracts, calls, attributes; built-ins. -/
namespace Oh
open PySem L2

/-! ### contracts -/
structure Con where
  α : Type
  pre : α → Prop
  args : α → List Ab
  res : α → Ab → Prop
/-- what a def that keeps the contract promises -/
def spC (K : PySem.W.Frag) (c : Con) : Sp := fun vs H Q _ => ∃ (g : c.α) (G : Hp), c.pre g ∧ Ex G H ∧ IsA K G vs (c.args g) ∧ ∀ v G' H' a, Nx G H G' H' → c.res g a → Is K G' v a → Q v H'
/-- a contract whose value is sure -/
abbrev conD {α : Type} (pre : α → Prop) (args : α → List Ab) (val : α → Ab) : Con := ⟨α, pre, args, fun g a => a = val g⟩
def HasF (Γ : Ga) (k : Nat) (x : Str) (c : Con) : Prop := ∃ (f : Addr) (fd : FuncData) (ps : List Str), FnOk Γ.P Γ.w Γ.K Γ.mg Γ.base CX0 k f fd ps (spC Γ.K c) ∧ Γ.mg x = some (.ref f) ∧ PySem.W.keepIn Γ.K (.ref f) = true ∧ Binds Γ.K fd ps []
def HasM (Γ : Ga) (k : Nat) (C : Addr) (m : Str) (c : Con) : Prop := ∃ (f : Addr) (fd : FuncData) (ps : List Str), FnOk Γ.P Γ.w Γ.K Γ.mg Γ.base CX0 k f fd ps (spC Γ.K c) ∧ Meth Γ.K C m f ∧ Binds Γ.K fd ps []
section
variable {C : Ct} {A : AS} {S S' Sa Sb : Ab → Prop} {a b e o : Expr} {es : List Expr} {pos p apos : Pos} {x f m : Str} {j k : Nat} {c : Con}
theorem On_fn {X : Cx} (hX : C.On X) {k : Nat} {f : Addr} {fd : FuncData} {ps : List Str} {sp : Sp} (F : FnOk C.ga.P C.ga.w C.ga.K C.ga.mg C.ga.base CX0 k f fd ps sp) : FnOk X.prog X.w X.K X.mg X.base CX0 k f fd ps sp := by
  rw [hX.prog, hX.w, hX.K, hX.mg, hX.base]
  exact F
theorem xe_call (F : HasF C.ga k x c) (hk : k ≤ C.k) (g : c.α) (hp : c.pre g) (ha : Xs C (e :: es) A (c.args g)) (hg : gloB C.sc x = true := by (try dsimp only [Ct.blk]); decide +kernel) (hst : noStars (e :: es) = true := by rfl) (hdb : (x == ("__debug__" : Str)) = false := by decide +kernel) :
    Xe C (.Call (.Name x p) (e :: es) [] pos) A (c.res g) := by
  obtain ⟨f, fd, ps, F, hm, hkp, hb⟩ := F
  obtain ⟨t, a1, a2⟩ := ha
  refine ⟨tCall (spC C.K c) [] E0 t, fun X hX => ?_, fun H0 σ G H x m Q q => a2 H0 σ G H x m _ fun vs G1 H1 as n1 s1 i1 => ?_⟩
  · refine pe_call (On_fn hX F) (hX.room.mono hk) (hX.gl hg) (by rw [hX.mg]; exact hm) (by rw [hX.K]; exact hkp) (by rw [hX.K]; exact hb) .nil pass0 (a1 X hX) hdb (star_one (noStars_cons hst).1) (backTo_any (noStars_any (noStars_cons hst).2))
  · subst s1
    show spC C.K c (vs ++ []) H1 Q E0
    rw [List.append_nil]
    exact ⟨g, G1, hp, n1.s, i1, fun v G' H' z n s i => q v G' H' z (n1.trans n) s i⟩
/-- arguments of which not all is sure -/
theorem xe_callS {St : List Ab → Prop} (F : HasF C.ga k x c) (hk : k ≤ C.k) (ha : Xa C (e :: es) A St) (hs : ∀ as, St as → ∃ g, c.pre g ∧ as = c.args g ∧ ∀ z, c.res g z → S z) (hg : gloB C.sc x = true := by (try dsimp only [Ct.blk]); decide +kernel) (hst : noStars (e :: es) = true := by rfl)
    (hdb : (x == ("__debug__" : Str)) = false := by decide +kernel) : Xe C (.Call (.Name x p) (e :: es) [] pos) A S := by
  obtain ⟨f, fd, ps, F, hm, hkp, hb⟩ := F
  obtain ⟨t, a1, a2⟩ := ha
  refine ⟨tCall (spC C.K c) [] E0 t, fun X hX => ?_, fun H0 σ G H x m Q q => a2 H0 σ G H x m _ fun vs G1 H1 as n1 s1 i1 => ?_⟩
  · refine pe_call (On_fn hX F) (hX.room.mono hk) (hX.gl hg) (by rw [hX.mg]; exact hm) (by rw [hX.K]; exact hkp) (by rw [hX.K]; exact hb) .nil pass0 (a1 X hX) hdb (star_one (noStars_cons hst).1) (backTo_any (noStars_any (noStars_cons hst).2))
  · obtain ⟨g, hp, rfl, hS⟩ := hs as s1
    show spC C.K c (vs ++ []) H1 Q E0
    rw [List.append_nil]
    exact ⟨g, G1, hp, n1.s, i1, fun v G' H' z n s i => q v G' H' z (n1.trans n) (hS z s) i⟩
def plB (o : Expr) (env : Env) : Sem Bool := do return (← importBound o env).getD true
/-- the instance that an abstract value is -/
def InsAt (K : PySem.W.Frag) (G : Hp) (v : V) (Cl : Addr) (fs : List (Str × V)) : Prop := ∃ a dx, v = .ref a ∧ G a = some (.ins Cl dx fs)
/-- an abstract value is an instance of Cl without an own m -/
def Inst (K : PySem.W.Frag) (c : Ab) (Cl : Addr) (m : Str) : Prop := ∀ G v, Is K G v c → ∃ a dx fs, v = .ref a ∧ G a = some (.ins Cl dx fs) ∧ fs.lookup m = none
theorem xe_meth {Cl : Addr} {c0 : Ab} {as : List Ab} (F : HasM C.ga k Cl m c) (hk : k ≤ C.k) (hcl : Cls C.K Cl) (ho : Xd C o A c0) (hi : Inst C.K c0 Cl m) (g : c.α) (hp : c.pre g) (hc : c.args g = c0 :: as) (ha : Xs C (e :: es) A as)
    (hst : noStars (e :: es) = true := by rfl)
    (ht : ∀ env : Env, eval (.Call (.Attribute o m apos) (e :: es) [] pos) env = (do let ov ← eval o env; standAt apos.atName; let (f, first) ← holding [ov] (getMethod ov m (plB o env)); callWith pos f first (backTo pos (starEach (e :: es) env)) (backToKw pos (keywordEach [] env))) := by intro _; rfl) :
    Xe C (.Call (.Attribute o m apos) (e :: es) [] pos) A (c.res g) := by
  obtain ⟨f, fd, ps, F, hm, hb⟩ := F
  obtain ⟨to, o1, o2⟩ := ho
  obtain ⟨t, a1, a2⟩ := ha
  refine ⟨tMeth Cl m (spC C.K c) [] E0 to t, fun X hX => ?_, fun H0 σ G H x m Q q => o2 H0 σ G H x m _ fun v G1 H1 z n1 s1 i1 => ?_⟩
  · exact pe_meth (o1 X hX) (by rw [hX.K]; exact hcl) (by rw [hX.K]; exact hm) (On_fn hX F) (hX.room.mono hk) (by rw [hX.K]; exact hb) .nil pass0 (a1 X hX) (star_one (noStars_cons hst).1) (backTo_any (noStars_any (noStars_cons hst).2)) (ht X.env)
  · subst s1
    obtain ⟨a, dx, fs, rfl, h1, h2⟩ := hi G1 v i1
    refine ⟨a, dx, fs, rfl, n1.s.at_ _ _ trivial h1, h2, a2 H0 σ G1 H1 n1.s (m.up n1) _ fun vs G2 H2 bs n2 s2 i2 => ?_⟩
    subst s2
    show spC C.K c (V.ref a :: (vs ++ [])) H2 Q E0
    rw [List.append_nil]
    refine ⟨g, G2, hp, n2.s, ?_, fun v G' H' z n s i => q v G' H' z ((n1.trans n2).trans n) s i⟩
    rw [hc]
    exact ⟨is_up n2.g i1, i2⟩
theorem xe_meth0 {Cl : Addr} {c0 : Ab} (F : HasM C.ga k Cl m c) (hk : k ≤ C.k) (hcl : Cls C.K Cl) (ho : Xd C o A c0) (hi : Inst C.K c0 Cl m) (g : c.α) (hp : c.pre g) (hc : c.args g = [c0])
    (ht : ∀ env : Env, eval (.Call (.Attribute o m apos) [] [] pos) env = (do let ov ← eval o env; standAt apos.atName; let (f, first) ← holding [ov] (getMethod ov m (plB o env)); callWith pos f first (backTo pos (starEach [] env)) (backToKw pos (keywordEach [] env))) := by intro _; rfl) :
    Xe C (.Call (.Attribute o m apos) [] [] pos) A (c.res g) := by
  obtain ⟨f, fd, ps, F, hm, hb⟩ := F
  obtain ⟨to, o1, o2⟩ := ho
  refine ⟨tMeth Cl m (spC C.K c) [] E0 to tNil, fun X hX => ?_, fun H0 σ G H x m Q q => o2 H0 σ G H x m _ fun v G1 H1 z n1 s1 i1 => ?_⟩
  · exact pe_meth0 (o1 X hX) (by rw [hX.K]; exact hcl) (by rw [hX.K]; exact hm) (On_fn hX F) (hX.room.mono hk) (by rw [hX.K]; exact hb) .nil pass0 (ht X.env)
  · subst s1
    obtain ⟨a, dx, fs, rfl, h1, h2⟩ := hi G1 v i1
    refine ⟨a, dx, fs, rfl, n1.s.at_ _ _ trivial h1, h2, ?_⟩
    refine ⟨g, G1, hp, n1.s, ?_, fun v G' H' z n s i => q v G' H' z (n1.trans n) s i⟩
    rw [hc]
    exact ⟨i1, trivial⟩
/-- an attribute -/
theorem xd_fld {Cl : Addr} {c0 c1 : Ab} (hcl : Cls C.K Cl) (hn : NoAttr C.K Cl f) (ho : Xd C o A c0) (hf : ∀ G v, Is C.K G v c0 → ∃ a dx fs u, v = .ref a ∧ G a = some (.ins Cl dx fs) ∧ fs.lookup f = some u ∧ Is C.K G u c1)
    (hb : ∀ env : Env, attributeBase o f env (eval o env) = eval o env := by intro _; rfl) : Xd C (.Attribute o f pos) A c1 := by
  obtain ⟨to, o1, o2⟩ := ho
  refine ⟨tFld C.K to f, fun X hX => by have q := pe_fld (pos := pos) (f := f) (o1 X hX) (hb X.env); rw [hX.K] at q; exact q, fun H0 σ G H x m Q q => o2 H0 σ G H x m _ fun v G1 H1 z n1 s1 i1 => ?_⟩
  subst s1
  obtain ⟨a, dx, fs, u, rfl, h1, h2, h3⟩ := hf G1 v i1
  exact ⟨a, Cl, dx, fs, u, rfl, n1.s.at_ _ _ trivial h1, hcl, hn, h2, q u G1 H1 c1 n1 rfl h3⟩

/-! ### what the module's top has made: classes, built-ins, constants -/
/-- what isinstance sees of an instance of the class at C -/
structure InsF (K : PySem.W.Frag) (C : Addr) : Prop where
  ha : PySem.W.findIn K (.ref C) "__class__" = some (some (.builtin "object.__class__"))
  hn : PySem.W.specialIn K (.builtin "object.__class__") "__get__" = some (some (.builtin "getset_descriptor.__get__"))
  htk : PySem.W.takesIn K (.builtin "object.__class__") = some true
  hm : PySem.W.mroIn K C (.type "object") = some true
class Gx (Γ : Ga) : Prop where
  iF : InsF Γ.K (CF Γ.K)
  iW : InsF Γ.K (CW Γ.K)
  iH : InsF Γ.K (CH Γ.K)
  clF : Cls Γ.K (CF Γ.K)
  clW : Cls Γ.K (CW Γ.K)
  clH : Cls Γ.K (CH Γ.K)
  aTexts : NoAttr Γ.K (CF Γ.K) "texts"
  aGround : NoAttr Γ.K (CW Γ.K) "ground"
  aPages : NoAttr Γ.K (CW Γ.K) "pages"
  aGoals : NoAttr Γ.K (CW Γ.K) "goals"
  aOpening : NoAttr Γ.K (CW Γ.K) "opening"
  aFirst : NoAttr Γ.K (CW Γ.K) "first"
  aOnes : NoAttr Γ.K (CH Γ.K) "ones"
  mgF : Γ.mg "Floor" = some (.ref (CF Γ.K))
  mgW : Γ.mg "World" = some (.ref (CW Γ.K))
  mgH : Γ.mg "Hand" = some (.ref (CH Γ.K))
  bLen : Γ.mg "len" = none
  bIsi : Γ.mg "isinstance" = none
  bAll : Γ.mg "all" = none
  bAny : Γ.mg "any" = none
  bRange : Γ.mg "range" = none
  bEnum : Γ.mg "enumerate" = none
  bZip : Γ.mg "zip" = none
  bSorted : Γ.mg "sorted" = none
  bSet : Γ.mg "set" = none
  bDict : Γ.mg "dict" = none
  bList : Γ.mg "list" = none
  bTuple : Γ.mg "tuple" = none
  bMax : Γ.mg "max" = none
  bMin : Γ.mg "min" = none
  bInt : Γ.mg "int" = none
  bBool : Γ.mg "bool" = none
  bStr : Γ.mg "str" = none
  cDeeds : ∃ t, Γ.mg "DEEDS" = some (.str (tx [117, 114, 100, 108]) t)
  cWall : ∃ t, Γ.mg "WALL" = some (.str (tx [35]) t)
  cIce : ∃ t, Γ.mg "ICE" = some (.str (tx [126]) t)
  cPit : ∃ t, Γ.mg "PIT" = some (.str (tx [120]) t)
  cLetters : ∃ t, Γ.mg "LETTERS" = some (.str (tx [97, 98, 99, 100]) t)
  cOpen : ∃ t, Γ.mg "OPEN" = some (.str (tx [46, 97, 98, 99, 100]) t)
  cSigns : ∃ t, Γ.mg "SIGNS" = some (.str (tx [35, 126, 120, 46, 97, 98, 99, 100]) t)
  cMost : ∃ t, Γ.mg "MOST" = some (.int 6 t)
  cMostW : ∃ t, Γ.mg "MOST_WORLDS" = some (.int 4 t)
  cTurns : ∃ a, Γ.mg "TURNS" = some (.ref a) ∧ ∀ H, SqT Γ.K H a (((List.finRange 8).map tt).map fun l => V.str (tx l))
  cSteps : ∃ a a0 a1 a2 a3, Γ.mg "STEPS" = some (.ref a) ∧ (∀ H, SqT Γ.K H a [.ref a0, .ref a1, .ref a2, .ref a3]) ∧ (∀ H, SqT Γ.K H a0 [.int (-1), .int 0]) ∧ (∀ H, SqT Γ.K H a1 [.int 0, .int 1]) ∧
    (∀ H, SqT Γ.K H a2 [.int 1, .int 0]) ∧ (∀ H, SqT Γ.K H a3 [.int 0, .int (-1)])
variable [g : Gx C.ga]
theorem ins_flo {rows : List (List Nat)} {m : Str} (h : (floF V.non).lookup m = none := by decide +kernel) : Inst C.K (.flo rows) (CF C.K) m := fun G v i => by
  obtain ⟨a, dx, q, h1, h2, h3⟩ := i
  refine ⟨a, dx, _, h1, h2, ?_⟩
  have h' : (match m == ("texts" : Str) with | true => some V.non | false => none) = none := h
  show (match m == ("texts" : Str) with | true => some q | false => none) = none
  cases e : m == ("texts" : Str) with
  | true =>
    rw [e] at h'
    cases h'
  | false => rfl

theorem lk_ne {x y : Str} {v : V} {r : List (Str × V)} (h : (x == y) = false) : List.lookup x ((y, v) :: r) = r.lookup x := by
  show (match x == y with | true => some v | false => r.lookup x) = _
  rw [h]
theorem lk_eq {x : Str} {v : V} {r : List (Str × V)} : List.lookup x ((x, v) :: r) = some v := by
  show (match x == x with | true => some v | false => r.lookup x) = _
  rw [beq_self_eq_true]
theorem lk_pages {g pg go op fi : V} : (worF g pg go op fi).lookup ("pages" : Str) = some pg := by
  unfold worF
  rw [lk_ne (by decide +kernel), lk_eq]
theorem lk_goals {g pg go op fi : V} : (worF g pg go op fi).lookup ("goals" : Str) = some go := by
  unfold worF
  rw [lk_ne (by decide +kernel), lk_ne (by decide +kernel), lk_eq]
theorem lk_opening {g pg go op fi : V} : (worF g pg go op fi).lookup ("opening" : Str) = some op := by
  unfold worF
  rw [lk_ne (by decide +kernel), lk_ne (by decide +kernel), lk_ne (by decide +kernel), lk_eq]
theorem lk_first {g pg go op fi : V} : (worF g pg go op fi).lookup ("first" : Str) = some fi := by
  unfold worF
  rw [lk_ne (by decide +kernel), lk_ne (by decide +kernel), lk_ne (by decide +kernel), lk_ne (by decide +kernel), lk_eq]
theorem ins_wor {w : Wd} {m : Str} (h : (worF V.non V.non V.non V.non V.non).lookup m = none := by decide +kernel) : Inst C.K (.wor w) (CW C.K) m := fun G v i => by
  obtain ⟨a, dx, g, pg, go, op, fi, h1, h2, _⟩ := i
  refine ⟨a, dx, _, h1, h2, ?_⟩
  have k : ∀ (u g pg go op fi : V), (worF u u u u u).lookup m = none → (worF g pg go op fi).lookup m = none := by
    intro u g pg go op fi h
    unfold worF at h ⊢
    simp only [List.lookup] at h ⊢
    repeat' (split at h <;> first | (cases h) | skip)
    all_goals simp_all
  exact k _ _ _ _ _ _ h
theorem ins_han {ws : List Wd} {m : Str} (h : (hanF V.non).lookup m = none := by decide +kernel) : Inst C.K (.han ws) (CH C.K) m := fun G v i => by
  obtain ⟨a, dx, q, vs, h1, h2, _⟩ := i
  refine ⟨a, dx, _, h1, h2, ?_⟩
  have h' : (match m == ("ones" : Str) with | true => some V.non | false => none) = none := h
  show (match m == ("ones" : Str) with | true => some (V.ref q) | false => none) = none
  cases e : m == ("ones" : Str) with
  | true =>
    rw [e] at h'
    cases h'
  | false => rfl
/-! ### attributes -/
theorem xd_texts {rows : List (List Nat)} (ho : Xd C o A (.flo rows)) (hb : ∀ env : Env, attributeBase o "texts" env (eval o env) = eval o env := by intro _; rfl) : Xd C (.Attribute o "texts" pos) A (.dat (.tuple (rows.map pS))) :=
  xd_fld g.clF g.aTexts ho (fun G v i => by
    obtain ⟨a, dx, q, h1, h2, h3⟩ := i
    exact ⟨a, dx, _, q, h1, h2, rfl, h3⟩) hb
theorem xd_ground {w : Wd} (ho : Xd C o A (.wor w)) (hb : ∀ env : Env, attributeBase o "ground" env (eval o env) = eval o env := by intro _; rfl) : Xd C (.Attribute o "ground" pos) A (.flo w.rows) :=
  xd_fld g.clW g.aGround ho (fun G v i => by
    obtain ⟨a, dx, g, pg, go, op, fi, h1, h2, h3, h4, h5, h6, h7⟩ := i
    exact ⟨a, dx, _, g, h1, h2, rfl, h3⟩) hb
theorem xd_pages {w : Wd} (ho : Xd C o A (.wor w)) (hb : ∀ env : Env, attributeBase o "pages" env (eval o env) = eval o env := by intro _; rfl) : Xd C (.Attribute o "pages" pos) A (.book w.book) :=
  xd_fld g.clW g.aPages ho (fun G v i => by
    obtain ⟨a, dx, g, pg, go, op, fi, h1, h2, h3, h4, h5, h6, h7⟩ := i
    exact ⟨a, dx, _, pg, h1, h2, lk_pages, h4⟩) hb
theorem xd_goals {w : Wd} (ho : Xd C o A (.wor w)) (hb : ∀ env : Env, attributeBase o "goals" env (eval o env) = eval o env := by intro _; rfl) : Xd C (.Attribute o "goals" pos) A (.dat (.tuple (w.goals.map pP))) :=
  xd_fld g.clW g.aGoals ho (fun G v i => by
    obtain ⟨a, dx, g, pg, go, op, fi, h1, h2, h3, h4, h5, h6, h7⟩ := i
    exact ⟨a, dx, _, go, h1, h2, lk_goals, h5⟩) hb
theorem xd_opening {w : Wd} (ho : Xd C o A (.wor w)) (hb : ∀ env : Env, attributeBase o "opening" env (eval o env) = eval o env := by intro _; rfl) : Xd C (.Attribute o "opening" pos) A (.dat (pP w.opening)) :=
  xd_fld g.clW g.aOpening ho (fun G v i => by
    obtain ⟨a, dx, g, pg, go, op, fi, h1, h2, h3, h4, h5, h6, h7⟩ := i
    exact ⟨a, dx, _, op, h1, h2, lk_opening, h6⟩) hb
theorem xd_first {w : Wd} (ho : Xd C o A (.wor w)) (hb : ∀ env : Env, attributeBase o "first" env (eval o env) = eval o env := by intro _; rfl) : Xd C (.Attribute o "first" pos) A (.dat (pSd w.first)) :=
  xd_fld g.clW g.aFirst ho (fun G v i => by
    obtain ⟨a, dx, g, pg, go, op, fi, h1, h2, h3, h4, h5, h6, h7⟩ := i
    exact ⟨a, dx, _, fi, h1, h2, lk_first, h7⟩) hb
theorem xd_ones {ws : List Wd} (ho : Xd C o A (.han ws)) (hb : ∀ env : Env, attributeBase o "ones" env (eval o env) = eval o env := by intro _; rfl) : Xd C (.Attribute o "ones" pos) A (.wls true ws) :=
  xd_fld g.clH g.aOnes ho (fun G v i => by
    obtain ⟨a, dx, q, vs, h1, h2, h3, h4⟩ := i
    exact ⟨a, dx, _, .ref q, h1, h2, rfl, q, vs, rfl, h3, h4⟩) hb

/-! ### built-ins -/
theorem isA_one {K : PySem.W.Frag} {G : Hp} {vs : List V} {c : Ab} (h : IsA K G vs [c]) : ∃ v, vs = [v] ∧ Is K G v c := by
  match vs, h with
  | [v], h => exact ⟨v, rfl, h.1⟩
theorem isA_two {K : PySem.W.Frag} {G : Hp} {vs : List V} {c d : Ab} (h : IsA K G vs [c, d]) : ∃ v u, vs = [v, u] ∧ Is K G v c ∧ Is K G u d := by
  match vs, h with
  | [v, u], h => exact ⟨v, u, rfl, h.1, h.2.1⟩
/-- a list of sure arguments -/
theorem rc_d {r : List V → Hp → VK → Prop} {as : List Ab} {S : Ab → Prop} (h : RC C.K r as S) : ∀ bs, bs = as → RC C.K r bs S := fun _ e => by
  rw [e]
  exact h
theorem isWs_len {K : PySem.W.Frag} {G : Hp} : ∀ {vs : List V} {ws : List Wd}, IsWs K G vs ws → vs.length = ws.length
  | [], [], _ => rfl
  | [], _ :: _, h => h.elim
  | _ :: _, [], h => h.elim
  | _ :: _, _ :: _, h => congrArg Nat.succ (isWs_len h.2)
theorem call_lenR {X : Cx} : CallR X (.builtin "len") (fun xs H Q => ∃ a kvs, xs = [V.ref a] ∧ Rd H a (.dK kvs) ∧ Q (.int kvs.length) H) := by
  intro pins s σ H xs us Q I r h
  obtain ⟨a, kvs, rfl, ha, q⟩ := h
  obtain ⟨u, rfl, ru⟩ := vals1 r
  cases ru
  exact d_len I ha fun t s' I' => ⟨.int kvs.length, H, I', ⟨t, rfl⟩, q⟩
def lenA : Ab → Option Nat
  | .dat (.str x) => if x.length ≤ 100000 then some x.length else none
  | .dat (.list ds) => some ds.length
  | .dat (.tuple ds) => some ds.length
  | .wls _ ws => some ws.length
  | _ => none
theorem on_len : ∀ X, C.On X → CallR X (.builtin "len") (fun xs H Q => ∃ x n, xs = [x] ∧ LenV C.K x H n ∧ Q (.int n) H) := fun X hX => by
  have q := call_len (X := X)
  rw [hX.K] at q
  exact q
theorem xd_len {c : Ab} {n : Nat} (ha : Xd C e A c) (hn : lenA c = some n) (hg : gloB C.sc "len" = true := by (try dsimp only [Ct.blk]); decide +kernel) (hst : noStars [e] = true := by rfl) : Xd C (.Call (.Name "len" p) [e] [] pos) A (.dat (.int n)) :=
  xe_callB on_len g.bLen PySem.boot_len (xs_cons ha xs_nil (noStars_cons hst).1) (rc_d fun vs G H x ia Q q => by
    obtain ⟨v, rfl, i⟩ := isA_one ia
    refine ⟨v, n, rfl, ?_, fin x q rfl mk_int⟩
    unfold lenA at hn
    split at hn
    · split at hn
      · rename_i hl
        cases hn
        rw [is_str i]
        exact ⟨small_le hl, rfl⟩
      · cases hn
    · cases hn
      obtain ⟨p, vs, rfl, h1, h2⟩ := is_list i
      exact Or.inl ⟨vs, x.sl h1, (dps_len h2).symm⟩
    · cases hn
      obtain ⟨p, vs, rfl, h1, h2⟩ := is_tup i
      exact Or.inr ⟨vs, x.st h1, (dps_len h2).symm⟩
    · cases hn
      rename_i i0 t ws
      cases t with
      | true =>
        obtain ⟨p, vs, rfl, h1, h2⟩ := i
        exact Or.inr ⟨vs, x.st h1, (isWs_len h2).symm⟩
      | false =>
        obtain ⟨p, vs, rfl, h1, h2⟩ := i
        exact Or.inl ⟨vs, x.sl h1, (isWs_len h2).symm⟩
    · cases hn) hg hst
theorem xd_lenB {kvs : List (Nat × T8)} (ha : Xd C e A (.book kvs)) (hg : gloB C.sc "len" = true := by (try dsimp only [Ct.blk]); decide +kernel) (hst : noStars [e] = true := by rfl) : Xd C (.Call (.Name "len" p) [e] [] pos) A (.dat (.int kvs.length)) :=
  xe_callB (fun _ _ => call_lenR) g.bLen PySem.boot_len (xs_cons ha xs_nil (noStars_cons hst).1) (rc_d fun vs G H x ia Q q => by
    obtain ⟨v, rfl, a, rfl, h2⟩ := isA_one ia
    refine ⟨a, _, rfl, x.dk h2, ?_⟩
    unfold bkK
    rw [List.length_map]
    exact fin x q rfl mk_int) hg hst
/-- all(..), any(..) of a list of truths -/
theorem on_all : ∀ X, C.On X → CallR X (.builtin "all") (rAll C.K) := fun X hX => by
  have q := cr_all (X := X) hX.calm
  rw [hX.K] at q
  exact q
theorem on_any : ∀ X, C.On X → CallR X (.builtin "any") (rAny C.K) := fun X hX => by
  have q := cr_any (X := X) hX.calm
  rw [hX.K] at q
  exact q
theorem xd_all {bs : List Bool} (ha : Xd C e A (.dat (.list (bs.map PyData.bool)))) (hg : gloB C.sc "all" = true := by (try dsimp only [Ct.blk]); decide +kernel) (hst : noStars [e] = true := by rfl) : Xd C (.Call (.Name "all" p) [e] [] pos) A (.dat (.bool (bs.all id))) :=
  xe_callB on_all g.bAll (by decide +kernel) (xs_cons ha xs_nil (noStars_cons hst).1) (rc_d fun vs G H x ia Q q => by
    obtain ⟨v, rfl, i⟩ := isA_one ia
    obtain ⟨p, vs, rfl, h1, h2⟩ := is_list i
    exact ⟨p, bs, rfl, by rw [← dps_bools h2]; exact x.sl h1, fin x q rfl mk_bool⟩) hg hst
theorem xd_any {bs : List Bool} (ha : Xd C e A (.dat (.list (bs.map PyData.bool)))) (hg : gloB C.sc "any" = true := by (try dsimp only [Ct.blk]); decide +kernel) (hst : noStars [e] = true := by rfl) : Xd C (.Call (.Name "any" p) [e] [] pos) A (.dat (.bool (bs.any id))) :=
  xe_callB on_any g.bAny (by decide +kernel) (xs_cons ha xs_nil (noStars_cons hst).1) (rc_d fun vs G H x ia Q q => by
    obtain ⟨v, rfl, i⟩ := isA_one ia
    obtain ⟨p, vs, rfl, h1, h2⟩ := is_list i
    exact ⟨p, bs, rfl, by rw [← dps_bools h2]; exact x.sl h1, fin x q rfl mk_bool⟩) hg hst
/-- int of a truth -/
theorem xd_intB {b : Bool} (ha : Xe C e A (fun z => z = .dat (.bool b))) (hg : gloB C.sc "int" = true := by (try dsimp only [Ct.blk]); decide +kernel) (hst : noStars [e] = true := by rfl) : Xd C (.Call (.Name "int" p) [e] [] pos) A (.dat (.int (if b then 1 else 0))) :=
  xe_callTy (fun _ _ => call_int1) g.bInt (by decide +kernel) (xs_cons ha xs_nil (noStars_cons hst).1) (rc_d fun vs G H x ia Q q => by
    obtain ⟨v, rfl, i⟩ := isA_one ia
    rw [is_bool i]
    exact Or.inr ⟨b, rfl, fin x q rfl mk_int⟩) hg hst
theorem xd_min2 {i k : Int} (ha : Xd C a A (.dat (.int i))) (hb : Xd C b A (.dat (.int k))) (hg : gloB C.sc "min" = true := by (try dsimp only [Ct.blk]); decide +kernel) (hst : noStars [a, b] = true := by rfl) : Xd C (.Call (.Name "min" p) [a, b] [] pos) A (.dat (.int (if k < i then k else i))) :=
  xe_callB (fun X hX => call_min2 (X := X) hX.calm) g.bMin (by decide +kernel) (xs_cons ha (xs_cons hb xs_nil (noStars_cons (noStars_cons hst).2).1) (noStars_cons hst).1) (rc_d fun vs G H x ia Q q => by
    obtain ⟨v, u, rfl, i1, i2⟩ := isA_two ia
    rw [is_int i1, is_int i2]
    exact ⟨_, _, rfl, fin x q rfl mk_int⟩) hg hst
/-- list(..), tuple(..) of data -/
theorem on_list : ∀ X, C.On X → CallR X (.type "list") (fun xs H Q => ∃ p ys, xs = [.ref p] ∧ (SqL C.K H p ys ∨ SqT C.K H p ys) ∧ ∀ l, H l = none → Q (.ref l) (upd H l (.lst ys))) := fun X hX => by
  have q := call_list_of (X := X)
  rw [hX.K] at q
  exact q
theorem on_tuple : ∀ X, C.On X → CallR X (.type "tuple") (fun xs H Q => ∃ p ys, xs = [.ref p] ∧ ((SqL C.K H p ys ∧ ∀ l, H l = none → Q (.ref l) (upd H l (.tup ys))) ∨ (SqT C.K H p ys ∧ Q (.ref p) H))) := fun X hX => by
  have q := call_tuple_of (X := X)
  rw [hX.K] at q
  exact q
def seqA : Ab → Option (List PyData)
  | .dat (.list ds) => some ds
  | .dat (.tuple ds) => some ds
  | _ => none
theorem is_seq {K : PySem.W.Frag} {G : Hp} {v : V} {c : Ab} {ds : List PyData} (h : seqA c = some ds) (i : Is K G v c) : ∃ p vs, v = .ref p ∧ (SqL K G p vs ∨ SqT K G p vs) ∧ DpAll K G vs ds := by
  unfold seqA at h
  split at h
  · cases h
    obtain ⟨p, vs, h1, h2, h3⟩ := is_list i
    exact ⟨p, vs, h1, Or.inl h2, h3⟩
  · cases h
    obtain ⟨p, vs, h1, h2, h3⟩ := is_tup i
    exact ⟨p, vs, h1, Or.inr h2, h3⟩
  · cases h
theorem xn_list {c : Ab} {ds : List PyData} (ha : Xd C e A c) (hs : seqA c = some ds) (hg : gloB C.sc "list" = true := by (try dsimp only [Ct.blk]); decide +kernel) (hst : noStars [e] = true := by rfl) : Xd C (.Call (.Name "list" p) [e] [] pos) A (.nl ds) :=
  xe_callTy on_list g.bList (by decide +kernel) (xs_cons ha xs_nil (noStars_cons hst).1) (rc_d fun vs G H x ia Q q => by
    obtain ⟨v, rfl, i⟩ := isA_one ia
    obtain ⟨p, vs, rfl, h1, h2⟩ := is_seq hs i
    exact ⟨p, vs, rfl, h1.elim (fun h => Or.inl (x.sl h)) (fun h => Or.inr (x.st h)), fun l hl => q _ _ _ _ (Nx.new (o := .lst vs) x hl) rfl ⟨l, vs, rfl, upd_same, (Ex.new (x.back hl)).dps h2⟩⟩) hg hst
theorem xd_tuple {c : Ab} {ds : List PyData} (ha : Xd C e A c) (hs : seqA c = some ds) (hg : gloB C.sc "tuple" = true := by (try dsimp only [Ct.blk]); decide +kernel) (hst : noStars [e] = true := by rfl) : Xd C (.Call (.Name "tuple" p) [e] [] pos) A (.dat (.tuple ds)) :=
  xe_callTy on_tuple g.bTuple (by decide +kernel) (xs_cons ha xs_nil (noStars_cons hst).1) (rc_d fun vs G H x ia Q q => by
    obtain ⟨v, rfl, i⟩ := isA_one ia
    obtain ⟨p, vs, rfl, h1, h2⟩ := is_seq hs i
    refine ⟨p, vs, rfl, ?_⟩
    rcases h1 with h1 | h1
    · exact Or.inl ⟨x.sl h1, fun l hl => q _ _ _ _ (Nx.new (o := .tup vs) x hl) rfl (Dp.tup (SqT.of upd_same) ((Ex.new (x.back hl)).dps h2))⟩
    · exact Or.inr ⟨x.st h1, fin x q rfl (Dp.tup h1 h2)⟩) hg hst
/-- dict(book) -/
theorem xd_dictB {kvs : List (Nat × T8)} (ha : Xd C e A (.book kvs)) (hg : gloB C.sc "dict" = true := by (try dsimp only [Ct.blk]); decide +kernel) (hst : noStars [e] = true := by rfl) : Xd C (.Call (.Name "dict" p) [e] [] pos) A (.book kvs) :=
  xe_callTy (fun _ _ => call_dictD) g.bDict (by decide +kernel) (xs_cons ha xs_nil (noStars_cons hst).1) (rc_d fun vs G H x ia Q q => by
    obtain ⟨v, rfl, a, rfl, h2⟩ := isA_one ia
    exact ⟨a, _, rfl, x.dk h2, fun l hl => q _ _ _ _ (Nx.new (o := .dK (bkK kvs)) x hl) rfl ⟨l, rfl, Rd.of upd_same⟩⟩) hg hst

/-! ### texts -/
theorem xd_cat {l m : List Nat} (ha : Xd C a A (.dat (pS l))) (hb : Xd C b A (.dat (pS m))) (hl : l.length + m.length ≤ 100000) : Xd C (.BinOp a .Add b pos) A (.dat (pS (l ++ m))) :=
  xe_bin (fun _ _ => op_add_str) ha hb (rv_d fun x y G H e i1 i2 Q q => by
    refine ⟨tx l, tx m, is_str i1, is_str i2, small_le hl, ?_⟩
    rw [show tx l ++ tx m = tx (l ++ m) from by show (⟨l.toArray ++ m.toArray⟩ : Str) = ⟨(l ++ m).toArray⟩; simp]
    exact fin e q rfl mk_str)
theorem joinL_nil : ∀ ls : List (List Nat), TL.joinL [] ls = ls.flatten
  | [] => rfl
  | [l] => by simp [TL.joinL]
  | l :: m :: r => by
    show l ++ ([] ++ TL.joinL [] (m :: r)) = _
    rw [joinL_nil (m :: r)]
    rfl
theorem join_nil (ls : List (List Nat)) : Txt.join (tx []) (ls.map tx) = tx ls.flatten := by
  rw [TL.join_eq]
  have h := TL.tl_join (tx []) (ls.map tx)
  rw [List.map_map, show TL.tl (tx []) = [] from rfl, joinL_nil, show (ls.map (TL.tl ∘ tx)) = ls from by rw [show (TL.tl ∘ tx) = id from rfl]; simp] at h
  have e : ∀ z : Str, z = tx (TL.tl z) := fun z => rfl
  rw [e (Str.join (tx []) (ls.map tx)), h]
theorem sum_lens : ∀ ls : List (List Nat), ((ls.map tx).map (·.length)).sum = ls.flatten.length
  | [] => rfl
  | l :: ls => by
    show (tx l).length + ((ls.map tx).map (·.length)).sum = (l ++ ls.flatten).length
    rw [sum_lens ls, List.length_append, tx_len]
theorem xd_join {ls : List (List Nat)} (ho : Xd C o A (.dat (pS []))) (ha : Xd C e A (.dat (.list (ls.map pS)))) (hl : ls.flatten.length ≤ 1000000) (hst : isStar e = false := by rfl) (hbase : ∀ env : Env, attributeBase o "join" env (eval o env) = eval o env := by intro _; rfl) (hline : (apos.endLine == pos.line) = true := by rfl) :
    Xd C (.Call (.Attribute o "join" apos) [e] [] pos) A (.dat (pS ls.flatten)) := by
  obtain ⟨to, o1, o2⟩ := ho
  obtain ⟨te, a1, a2⟩ := ha
  refine ⟨tM1 (fun x xs H Q => ∃ a p, ∃ ys : List Str, x = .str a ∧ xs = [.ref p] ∧ (SqL C.K H p (ys.map V.str) ∨ SqT C.K H p (ys.map V.str)) ∧ (ys.map (·.length)).sum + ys.length * a.length ≤ 16777216 ∧ Q (.str (Txt.join a ys)) H) to te, fun X hX => ?_, fun H0 σ G H x m Q q => ?_⟩
  · have z := pe_join (o1 X hX) (a1 X hX) (star_one hst) (hbase X.env) hline
    rw [hX.K] at z
    exact z
  · refine o2 H0 σ G H x m _ fun v G1 H1 c n1 s1 i1 => ?_
    subst s1
    refine ⟨⟨_, is_str i1⟩, a2 H0 σ G1 H1 n1.s (m.up n1) _ fun u G2 H2 c n2 s2 i2 => ?_⟩
    subst s2
    obtain ⟨p, vs, rfl, h1, h2⟩ := is_list i2
    refine ⟨tx [], p, ls.map tx, is_str i1, rfl, Or.inl (by rw [← dps_strs h2]; exact n2.s.sl h1), ?_, ?_⟩
    · rw [sum_lens]
      show _ + _ * 0 ≤ _
      omega
    · rw [join_nil]
      exact q _ G2 H2 _ (n1.trans n2) rfl mk_str
theorem xd_index {l : List Nat} {c : Nat} {i : Nat} {r : List Nat} (ho : Xd C o A (.dat (pS l))) (ha : Xd C e A (.dat (pS [c]))) (hr : Builtin.Str.occurrences (tx l) (tx [c]) 0 l.length 1 = i :: r) (hst : isStar e = false := by rfl) (hbase : ∀ env : Env, attributeBase o "index" env (eval o env) = eval o env := by intro _; rfl)
    (hline : (apos.endLine == pos.line) = true := by rfl) : Xd C (.Call (.Attribute o "index" apos) [e] [] pos) A (.dat (.int i)) := by
  obtain ⟨to, o1, o2⟩ := ho
  obtain ⟨te, a1, a2⟩ := ha
  refine ⟨tM1 _ to te, fun X hX => pe_m1 (id := "str.index") F.slot_str_index F.type_str_index mt_sindex (o1 X hX) (a1 X hX) (star_one hst) (hbase X.env) hline, fun H0 σ G H x m Q q => ?_⟩
  refine o2 H0 σ G H x m _ fun v G1 H1 c n1 s1 i1 => ?_
  subst s1
  refine ⟨⟨_, is_str i1⟩, a2 H0 σ G1 H1 n1.s (m.up n1) _ fun u G2 H2 c n2 s2 i2 => ?_⟩
  subst s2
  refine ⟨tx l, tx [_], i, r, is_str i1, ?_, hr, q _ G2 H2 _ (n1.trans n2) rfl mk_int⟩
  rw [is_str i2]
end
end Oh
set_option maxHeartbeats 4000000
/-! OhD: statements, sources, loops, comprehensions, defs. -/
namespace Oh
open PySem L2

/-! ### one reading for all -/
def UE (C : Ct) (e : Expr) : TE := fun σ H Q => ∃ te, (∀ X, C.On X → PE X e te) ∧ te σ H Q
def UT (C : Ct) (e : Expr) : TT := fun σ H Q => ∃ t, (∀ X, C.On X → PT X e t) ∧ t σ H Q
def UU (C : Ct) (sts : List Stmt) : TS := fun D σ H => ∃ t, (∀ X, C.On X → PSs X sts t) ∧ t D σ H
def UQ (C : Ct) (st : Stmt) : TS := fun D σ H => ∃ t, (∀ X, C.On X → PS X st t) ∧ t D σ H
section
variable {C : Ct} {X : Cx} {A : AS} {S : Ab → Prop} {e : Expr} {sts : List Stmt} {st : Stmt}
theorem pe_UE (hX : C.On X) : PE X e (UE C e) := ⟨fun pins s σ H Q I h => let ⟨_, h1, h2⟩ := h; (h1 X hX).run pins s σ H Q I h2⟩
theorem pt_UT (hX : C.On X) : PT X e (UT C e) := ⟨fun pins s σ H Q I h => let ⟨_, h1, h2⟩ := h; (h1 X hX).run pins s σ H Q I h2⟩
theorem pss_UU (hX : C.On X) : PSs X sts (UU C sts) := ⟨fun pins s σ H D I h => let ⟨_, h1, h2⟩ := h; (h1 X hX).run pins s σ H D I h2⟩
theorem ps_UQ (hX : C.On X) : PS X st (UQ C st) := ⟨fun pins s σ H D I h => let ⟨_, h1, h2⟩ := h; (h1 X hX).run pins s σ H D I h2⟩
theorem Xe.ev (h : Xe C e A S) : Ev C.K (UE C e) A S := let ⟨te, h1, h2⟩ := h; fun H0 σ G H x m Q q => ⟨te, h1, h2 H0 σ G H x m Q q⟩
theorem Xt.ev {T : Bool → Prop} (h : Xt C e A T) : EvT C.K (UT C e) A T := let ⟨te, h1, h2⟩ := h; fun H0 σ G H x m Q q => ⟨te, h1, h2 H0 σ G H x m Q q⟩
end

/-! ### statements -/
structure AE where
  nx : AS → Prop
  rt : Ab → Prop
  bk : AS → Prop := fun _ => False
  ct : AS → Prop := fun _ => False
structure EndOk (K : PySem.W.Frag) (E : AE) (G0 H0 : Hp) (D : Ends) : Prop where
  nx : ∀ A σ G H, E.nx A → Nx G0 H0 G H → M K A H0 σ G H → D.nx σ H
  rt : ∀ a v G H, E.rt a → Nx G0 H0 G H → Is K G v a → D.rt v H
  bk : ∀ A σ G H, E.bk A → Nx G0 H0 G H → M K A H0 σ G H → D.bk σ H
  ct : ∀ A σ G H, E.ct A → Nx G0 H0 G H → M K A H0 σ G H → D.ct σ H
def Xp (C : Ct) (sts : List Stmt) (A : AS) (E : AE) : Prop := ∀ (D : Ends) (G0 H0 : Hp), EndOk C.K E G0 H0 D → ∀ (σ : L2.St) (G H : Hp), Nx G0 H0 G H → M C.K A H0 σ G H → UU C sts D σ H
def Xq (C : Ct) (st : Stmt) (A : AS) (E : AE) : Prop := ∀ (D : Ends) (G0 H0 : Hp), EndOk C.K E G0 H0 D → ∀ (σ : L2.St) (G H : Hp), Nx G0 H0 G H → M C.K A H0 σ G H → UQ C st D σ H
def AS.set (A : AS) (i : Nat) (a : Ab) : AS := { A with ts := A.ts.set i (some a) }
def AS.wip (A : AS) (i : Nat) : AS := { A with ts := A.ts.set i none }
/-- the slot is none that the def owns -/
def AS.off (A : AS) (i : Nat) : Prop := ∀ j o, A.ow = some (j, o) → j ≠ i
theorem AS.off_none {ts : List (Option Ab)} {i : Nat} : AS.off ⟨ts, none⟩ i := fun _ _ h => by cases h
/-- a heap rebased: what is known since -/
theorem Nx.re {G0 H0 Gs Hs G H : Hp} (a : Nx G0 H0 Gs Hs) (b : Nx Gs H0 G H) : Nx G0 H0 G H := ⟨b.e, a.g.trans b.g, b.s, fun c o hp h1 h2 => b.n c o hp (a.n c o hp h1 h2).1 h2⟩
theorem Nx.base {G0 H0 Gs Hs : Hp} (a : Nx G0 H0 Gs Hs) : Nx Gs H0 Gs Hs := ⟨a.e, Ex.refl _, a.s, fun c o hp h1 h2 => a.n c o hp (a.g.dom c h1) h2⟩
theorem Nx.step {Gs H0 G H G' H' : Hp} (a : Nx Gs H0 G H) (b : Nx G H G' H') : Nx Gs H0 G' H' := ⟨a.e.trans b.e, a.g.trans b.g, b.s, fun c o hp h1 h2 => let ⟨k1, k2⟩ := a.n c o hp h1 h2; b.n c o hp k1 k2⟩
section
variable {K : PySem.W.Frag} {A : AS} {H0 : Hp} {σ : L2.St} {G H : Hp} {i : Nat} {v : V} {a : Ab}
theorem M.set (m : M K A H0 σ G H) (hi : A.off i) (h : Is K G v a) : M K (A.set i a) H0 (σ.set i (some v)) G H := by
  refine ⟨by show (σ.set i (some v)).length = (A.ts.set i (some a)).length; rw [List.length_set, List.length_set]; exact m.len, fun j b e => ?_, ?_⟩
  · have e' : (A.ts.set i (some a))[j]? = some (some b) := e
    by_cases hj : i = j
    · subst hj
      by_cases hl : i < A.ts.length
      · rw [List.getElem?_set_self hl] at e'
        cases e'
        exact ⟨v, by rw [List.getElem?_set_self (by rw [m.len]; exact hl)], h⟩
      · rw [List.getElem?_eq_none (by rw [List.length_set]; omega)] at e'
        cases e'
    · rw [List.getElem?_set_ne hj] at e'
      obtain ⟨u, h1, h2⟩ := m.at_ j b e'
      exact ⟨u, by rw [List.getElem?_set_ne hj]; exact h1, h2⟩
  · have q := m.own
    show OwM K H0 (σ.set i (some v)) G H A.ow
    cases e : A.ow with
    | none => exact trivial
    | some jo =>
      obtain ⟨j, o⟩ := jo
      rw [e] at q
      obtain ⟨p, h1, h2⟩ := q
      exact ⟨p, by rw [List.getElem?_set_ne (Ne.symm (hi j o e))]; exact h1, h2⟩
/-- a slot forgotten -/
theorem M.wip (m : M K A H0 σ G H) (hi : A.off i) (x : Option V) : M K (A.wip i) H0 (σ.set i x) G H := by
  refine ⟨by show (σ.set i x).length = (A.ts.set i none).length; rw [List.length_set, List.length_set]; exact m.len, fun j b e => ?_, ?_⟩
  · have e' : (A.ts.set i none)[j]? = some (some b) := e
    by_cases hj : i = j
    · subst hj
      by_cases hl : i < A.ts.length
      · rw [List.getElem?_set_self hl] at e'
        cases e'
      · rw [List.getElem?_eq_none (by rw [List.length_set]; omega)] at e'
        cases e'
    · rw [List.getElem?_set_ne hj] at e'
      obtain ⟨u, h1, h2⟩ := m.at_ j b e'
      exact ⟨u, by rw [List.getElem?_set_ne hj]; exact h1, h2⟩
  · have q := m.own
    show OwM K H0 (σ.set i x) G H A.ow
    cases e : A.ow with
    | none => exact trivial
    | some jo =>
      obtain ⟨j, o⟩ := jo
      rw [e] at q
      obtain ⟨p, h1, h2⟩ := q
      exact ⟨p, by rw [List.getElem?_set_ne (Ne.symm (hi j o e))]; exact h1, h2⟩
theorem set_set {α : Type} (l : List α) (i : Nat) (a b : α) : (l.set i a).set i b = l.set i b := List.set_set ..
end
section
variable {C : Ct} {A : AS} {E : AE} {S : Ab → Prop} {e c : Expr} {st : Stmt} {sts rest : List Stmt} {pos pos' : Pos} {x : Str}
theorem xp_nil (h : E.nx A) : Xp C [] A E := fun D G0 H0 ok σ G H n m => ⟨tNext, fun _ _ => pss_nil, ok.nx A σ G H h n m⟩
theorem xp_cons {Mid : AS → Prop} (h1 : Xq C st A { E with nx := Mid }) (h2 : ∀ A', Mid A' → Xp C rest A' E) : Xp C (st :: rest) A E := fun D G0 H0 ok σ G H n m =>
  ⟨tSeq (UQ C st) (UU C rest), fun X hX => pss_cons (ps_UQ hX) (pss_UU hX), h1 { D with nx := UU C rest D } G0 H0 ⟨fun A' σ' G' H' hm n' m' => h2 A' hm D G0 H0 ok σ' G' H' n' m', ok.rt, ok.bk, ok.ct⟩ σ G H n m⟩
theorem xp_one (h : Xq C st A E) : Xp C [st] A E := xp_cons (Mid := E.nx) h fun A' h => xp_nil h
/-- a step whose next state is sure -/
theorem xp_then {A' : AS} (h1 : Xq C st A { E with nx := fun B => B = A' }) (h2 : Xp C rest A' E) : Xp C (st :: rest) A E := xp_cons h1 fun B e => by
  rw [e]
  exact h2
theorem xq_imp {E' : AE} (h : Xq C st A E) (h1 : ∀ A, E.nx A → E'.nx A) (h2 : ∀ a, E.rt a → E'.rt a) (h3 : ∀ A, E.bk A → E'.bk A) (h4 : ∀ A, E.ct A → E'.ct A) : Xq C st A E' := fun D G0 H0 ok =>
  h D G0 H0 ⟨fun A σ G H z => ok.nx A σ G H (h1 A z), fun a v G H z => ok.rt a v G H (h2 a z), fun A σ G H z => ok.bk A σ G H (h3 A z), fun A σ G H z => ok.ct A σ G H (h4 A z)⟩
theorem xq_never (h : False) : Xq C st A E := h.elim
theorem xq_ret (h : Xe C e A S) (k : ∀ a, S a → E.rt a) : Xq C (.Return (some e) pos) A E := fun D G0 H0 ok σ G H n m =>
  ⟨tRet (UE C e), fun X hX => ps_ret (pe_UE hX), h.ev H0 σ G H n.s m _ fun v G' H' a n' s i => ok.rt a v G' H' (k a s) (n.step n') i⟩
theorem xq_retD {a : Ab} (h : Xd C e A a) (k : E.rt a) : Xq C (.Return (some e) pos) A E := xq_ret h fun b e => by
  rw [e]
  exact k
theorem xq_retN (k : E.rt (.dat .none)) : Xq C (.Return none pos) A E := fun D G0 H0 ok σ G H n m => ⟨tRetN, fun X hX => ps_retN, ok.rt _ _ G H k n mk_none⟩
theorem xq_if {a b : List Stmt} {T : Bool → Prop} (hc : Xt C c A T) (h1 : T true → Xp C a A E) (h2 : T false → Xp C b A E) : Xq C (.If c a b pos) A E := fun D G0 H0 ok σ G H n m =>
  ⟨tIfS (UT C c) (UU C a) (UU C b), fun X hX => ps_if (pt_UT hX) (pss_UU hX) (pss_UU hX), hc.ev H0 σ G H n.s m _ fun v G' H' n' s => by
    cases v with
    | true =>
      rw [if_pos rfl]
      exact h1 s D G0 H0 ok σ G' H' (n.step n') (m.up n')
    | false =>
      rw [if_neg (by decide)]
      exact h2 s D G0 H0 ok σ G' H' (n.step n') (m.up n')⟩
theorem xq_ifB {a b : List Stmt} {i : Bool} (hc : Xb C c A i) (h1 : i = true → Xp C a A E) (h2 : i = false → Xp C b A E) : Xq C (.If c a b pos) A E := xq_if hc (fun e => h1 e.symm) fun e => h2 e.symm
/-- a test that is never so, with what is raised then -/
theorem xq_ifF {a : List Stmt} (hc : Xb C c A false) (h : E.nx A) : Xq C (.If c a [] pos) A E := xq_ifB hc (fun e => by cases e) fun _ => xp_nil h
theorem xq_expr (h : Xe C e A S) (k : E.nx A) (hs : ∀ env : Env, swapsWith e none pos.line env = pure false := by intro _; rfl) : Xq C (.Expr e pos) A E := fun D G0 H0 ok σ G H n m =>
  ⟨tDrop (UE C e), fun X hX => ps_expr (pe_UE hX) (hs X.env), h.ev H0 σ G H n.s m _ fun v G' H' a n' s i => ok.nx A σ G' H' k (n.step n') (m.up n')⟩
/-- x = e -/
theorem xq_set (i : Nat) (h : Xe C e A S) (k : ∀ a, S a → E.nx (A.set i a)) (hN : C.N[i]? = some x := by rfl) (hx : stoB C.sc C.fn x = true := by (try dsimp only [Ct.blk]); decide +kernel) (hi : A.off i := by exact AS.off_none) (hs : ∀ env : Env, swapsWith e (some (.Name x pos')) pos.line env = pure false := by intro _; rfl) :
    Xq C (.Assign [.Name x pos'] e pos) A E := fun D G0 H0 ok σ G H n m =>
  ⟨tAsg (UE C e) (gName i), fun X hX => ps_set hX.nd (by rw [hX.N]; exact hN) (by rw [hX.sc]; exact stoB_loc hx) (pe_UE hX) (hs X.env) (by rw [hX.fn, hX.sc]; exact stoB_fn hx),
    h.ev H0 σ G H n.s m _ fun v G' H' a n' s j => ok.nx _ _ G' H' (k a s) (n.step n') ((m.up n').set hi j)⟩
theorem xq_setD (i : Nat) {a : Ab} (h : Xd C e A a) (k : E.nx (A.set i a)) (hN : C.N[i]? = some x := by rfl) (hx : stoB C.sc C.fn x = true := by (try dsimp only [Ct.blk]); decide +kernel) (hi : A.off i := by exact AS.off_none) (hs : ∀ env : Env, swapsWith e (some (.Name x pos')) pos.line env = pure false := by intro _; rfl) :
    Xq C (.Assign [.Name x pos'] e pos) A E := xq_set i h (fun b e => by rw [e]; exact k) hN hx hi hs
end

/-! ### defs -/
section
variable {Γ : Ga} {k : Nat} {c : Con} {x qual : Str} {params : Arguments} {body : List Stmt} {scope : Scope} {kws : List (Str × V)} {f : Addr} {fd : FuncData} {N ps : List Str}
theorem start_at {as : List Ab} {vs : List V} {G : Hp} (h : IsA Γ.K G vs as) (n : Nat) : ∀ (i : Nat) (a : Ab), ((as.map some) ++ List.replicate n none)[i]? = some (some a) → ∃ v, (vs.map some ++ List.replicate n none)[i]? = some (some v) ∧ Is Γ.K G v a := by
  induction as generalizing vs with
  | nil =>
    intro i a e
    simp [List.getElem?_replicate] at e
  | cons b bs ih =>
    match vs, h with
    | v :: vs, h =>
      intro i a e
      cases i with
      | zero =>
        simp at e
        subst e
        exact ⟨v, by simp, h.1⟩
      | succ i =>
        have e' : ((bs.map some) ++ List.replicate n none)[i]? = some (some a) := by simpa using e
        obtain ⟨u, h1, h2⟩ := ih h.2 i a e'
        exact ⟨u, by simpa using h1, h2⟩
def AS.of (N : List Str) (as : List Ab) : AS := ⟨as.map some ++ List.replicate (N.length - as.length) none, none⟩
theorem fn_ok (F : FunD Γ.K x qual params body scope [] kws f fd) (S : FnScope N ps scope) (hl : ∀ g, c.pre g → (c.args g).length = ps.length)
    (hb : ∀ g, c.pre g → Xp ⟨Γ, N, scope, k, fun _ => true⟩ body (AS.of N (c.args g)) ⟨fun _ => c.res g (.dat .none), c.res g, fun _ => False, fun _ => False⟩) : FnOk Γ.P Γ.w Γ.K Γ.mg Γ.base CX0 (k + 1) f fd ps (spC Γ.K c) := by
  refine F.ok S (fun vs H Q E h => ?_) (fun cdv A outer s H vs Q E hr h => ?_)
  · obtain ⟨g, G, hp, _, hi, _⟩ := h
    rw [hi.len]
    exact hl g hp
  · obtain ⟨g, G, hp, hx, hi, q⟩ := h
    obtain ⟨t, h1, h2⟩ := hb g hp { nx := fun _ H' => Q .non H', rt := Q } G H ⟨fun A σ G' H' z n m => q .non G' H' _ n z mk_none, fun a v G' H' z n i => q v G' H' a n z i, fun _ _ _ _ z => z.elim, fun _ _ _ _ z => z.elim⟩ (L2.start N vs) G H (Nx.refl hx) (by
      refine ⟨?_, ?_, trivial⟩
      · unfold L2.start AS.of
        simp only [List.length_append, List.length_map, List.length_replicate]
        rw [hi.len]
      · intro i a e
        have h := start_at hi (N.length - (c.args g).length) i a e
        unfold L2.start
        rw [hi.len]
        exact h)
    exact ⟨t, PSs.nox (h1 _ ⟨rfl, rfl, rfl, rfl, rfl, rfl, rfl, rfl, rfl, hr, S.nd, rfl⟩), h2⟩
theorem hasF_of (F : FunD Γ.K x qual params body scope [] [] f fd) (S : FnScope N ps scope) (hm : Γ.mg x = some (.ref f)) (hbi : Binds Γ.K fd ps []) (hl : ∀ g, c.pre g → (c.args g).length = ps.length)
    (hb : ∀ g, c.pre g → Xp ⟨Γ, N, scope, k, fun _ => true⟩ body (AS.of N (c.args g)) ⟨fun _ => c.res g (.dat .none), c.res g, fun _ => False, fun _ => False⟩) : HasF Γ (k + 1) x c :=
  ⟨f, fd, ps, fn_ok F S hl hb, hm, F.kp, hbi⟩
theorem hasM_of {Cl : Addr} {m : Str} (F : FunD Γ.K x qual params body scope [] [] f fd) (S : FnScope N ps scope) (hm : Meth Γ.K Cl m f) (hbi : Binds Γ.K fd ps []) (hl : ∀ g, c.pre g → (c.args g).length = ps.length)
    (hb : ∀ g, c.pre g → Xp ⟨Γ, N, scope, k, fun _ => true⟩ body (AS.of N (c.args g)) ⟨fun _ => c.res g (.dat .none), c.res g, fun _ => False, fun _ => False⟩) : HasM Γ (k + 1) Cl m c :=
  ⟨f, fd, ps, fn_ok F S hl hb, hm, hbi⟩
end
end Oh
set_option maxHeartbeats 4000000
/-! OhE: own new objects, what is walked, targets, loops, comprehensions. -/
namespace Oh
open PySem L2 PySem.Spec PyProof.Rows

/-! ### own new objects -/
def EvO (K : PySem.W.Frag) (te : TE) (A : AS) (S : Ow → Prop) : Prop := ∀ (H0 : Hp) (σ : L2.St) (G H : Hp), Ex G H → M K A H0 σ G H → ∀ Q : VK, (∀ p G' H' o, Nx G H G' H' → H p = none → G' p = none → S o → OwIs K H G' H' p o → Q (.ref p) H') → te σ H Q
def Xo (C : Ct) (e : Expr) (A : AS) (S : Ow → Prop) : Prop := ∃ te, (∀ X, C.On X → PE X e te) ∧ EvO C.K te A S
theorem cells_base {H0 H1 G H : Hp} (x : Ex H0 H1) : ∀ {qs : List Addr} {rows : List (List Nat)}, CellsAt H1 G H qs rows → CellsAt H0 G H qs rows
  | [], [], h => h
  | [], _ :: _, h => h.elim
  | _ :: _, [], h => h.elim
  | _ :: _, _ :: _, h => ⟨⟨x.dom _ h.1.1, h.1.2⟩, cells_base x h.2⟩
theorem OwIs.base {K : PySem.W.Frag} {H0 H1 G H : Hp} {p : Addr} {o : Ow} (x : Ex H0 H1) (h : OwIs K H1 G H p o) : OwIs K H0 G H p o := by
  cases o with
  | ol ds => exact h
  | od kvs => exact h
  | oi y Cl fs => exact h
  | oc rows =>
    obtain ⟨qs, h5, h6, h7⟩ := h
    exact ⟨qs, h5, cells_base x h6, h7⟩
/-- what an own object is from the outside -/
def PubTo (K : PySem.W.Frag) (o : Ow) (a : Ab) : Prop := ∀ (G0 H0 G H : Hp) (p : Addr), Nx G0 H0 G H → H0 p = none → G p = none → OwIs K H0 G H p o → ∃ G', Nx G0 H0 G' H ∧ Ex G G' ∧ Is K G' (.ref p) a
theorem pub_ol {K : PySem.W.Frag} {ds : List PyData} : PubTo K (.ol ds) (.nl ds) := fun G0 H0 G H p x h0 hg h => by
  obtain ⟨vs, h1, h2⟩ := h
  exact ⟨upd G p (.lst vs), x.pub h0 hg h1, Ex.new hg, p, vs, rfl, upd_same, (Ex.new hg).dps h2⟩
theorem pub_lst {K : PySem.W.Frag} {ds : List PyData} : PubTo K (.ol ds) (.dat (.list ds)) := fun G0 H0 G H p x h0 hg h => by
  obtain ⟨vs, h1, h2⟩ := h
  exact ⟨upd G p (.lst vs), x.pub h0 hg h1, Ex.new hg, Dp.lst (SqL.of upd_same) ((Ex.new hg).dps h2)⟩
section
variable {C : Ct} {A : AS} {E : AE} {S : Ow → Prop} {T : Ab → Prop} {e : Expr} {st : Stmt} {sts rest : List Stmt} {pos pos' : Pos} {x : Str}
theorem Xo.imp {S' : Ow → Prop} (h : Xo C e A S) (k : ∀ o, S o → S' o) : Xo C e A S' := let ⟨te, h1, h2⟩ := h; ⟨te, h1, fun H0 σ G H x m Q q => h2 H0 σ G H x m Q fun p G' H' o n a b s => q p G' H' o n a b (k o s)⟩
theorem Xo.xe (h : Xo C e A S) (k : ∀ o, S o → ∃ a, PubTo C.K o a ∧ T a) : Xe C e A T := by
  obtain ⟨te, h1, h2⟩ := h
  refine ⟨te, h1, fun H0 σ G H x m Q q => h2 H0 σ G H x m Q fun p G' H' o n h0 hg s ho => ?_⟩
  obtain ⟨a, hp, ha⟩ := k o s
  obtain ⟨G2, n2, _, i⟩ := hp G H G' H' p n h0 hg ho
  exact q _ G2 H' a n2 ha i
theorem Xo.nl {ds : List PyData} (h : Xo C e A (fun o => o = .ol ds)) : Xd C e A (.nl ds) := h.xe fun o e => ⟨_, by rw [e]; exact pub_ol, rfl⟩
theorem Xo.lst {ds : List PyData} (h : Xo C e A (fun o => o = .ol ds)) : Xd C e A (.dat (.list ds)) := h.xe fun o e => ⟨_, by rw [e]; exact pub_lst, rfl⟩
theorem Xo.ev (h : Xo C e A S) : EvO C.K (UE C e) A S := let ⟨te, h1, h2⟩ := h; fun H0 σ G H x m Q q => ⟨te, h1, h2 H0 σ G H x m Q q⟩
def AS.own (A : AS) (i : Nat) (o : Ow) : AS := ⟨A.ts.set i none, some (i, o)⟩
theorem M.owns {K : PySem.W.Frag} {H0 G H : Hp} {σ : L2.St} {i : Nat} {o : Ow} {p : Addr} (m : M K A H0 σ G H) (hi : i < A.ts.length) (h0 : H0 p = none) (hg : G p = none) (ho : OwIs K H0 G H p o) : M K (A.own i o) H0 (σ.set i (some (.ref p))) G H := by
  refine ⟨by show (σ.set i _).length = (A.ts.set i none).length; rw [List.length_set, List.length_set]; exact m.len, fun j b e => ?_, p, ?_, h0, hg, ho⟩
  · have e' : (A.ts.set i none)[j]? = some (some b) := e
    by_cases hj : i = j
    · subst hj
      rw [List.getElem?_set_self hi] at e'
      cases e'
    · rw [List.getElem?_set_ne hj] at e'
      obtain ⟨u, h1, h2⟩ := m.at_ j b e'
      exact ⟨u, by rw [List.getElem?_set_ne hj]; exact h1, h2⟩
  · rw [List.getElem?_set_self (by rw [m.len]; exact hi)]
theorem stepO {K : PySem.W.Frag} {G0 H0 G H G' H' : Hp} {p : Addr} {o : Ow} (n : Nx G0 H0 G H) (n' : Nx G H G' H') (h0 : H p = none) (ho : OwIs K H G' H' p o) : Nx G0 H0 G' H' ∧ H0 p = none ∧ OwIs K H0 G' H' p o := ⟨n.step n', n.e.dom p h0, ho.base n.e⟩
/-- x = a new object of ours -/
theorem xq_own (i : Nat) (h : Xo C e A S) (k : ∀ o, S o → E.nx (A.own i o)) (hN : C.N[i]? = some x := by rfl) (hx : stoB C.sc C.fn x = true := by (try dsimp only [Ct.blk]); decide +kernel) (hi : i < A.ts.length := by exact Nat.le_of_ble_eq_true rfl) (hs : ∀ env : Env, swapsWith e (some (.Name x pos')) pos.line env = pure false := by intro _; rfl) :
    Xq C (.Assign [.Name x pos'] e pos) A E := fun D G0 H0 ok σ G H n m =>
  ⟨tAsg (UE C e) (gName i), fun X hX => ps_set hX.nd (by rw [hX.N]; exact hN) (by rw [hX.sc]; exact stoB_loc hx) (pe_UE hX) (hs X.env) (by rw [hX.fn, hX.sc]; exact stoB_fn hx),
    h.ev H0 σ G H n.s m _ fun p G' H' o n' h0 hg s ho => let ⟨n2, h2, ho2⟩ := stepO n n' h0 ho; ok.nx _ _ G' H' (k o s) n2 ((m.up n').owns hi h2 hg ho2)⟩
theorem xq_ownD (i : Nat) {o : Ow} (h : Xo C e A (fun z => z = o)) (k : E.nx (A.own i o)) (hN : C.N[i]? = some x := by rfl) (hx : stoB C.sc C.fn x = true := by (try dsimp only [Ct.blk]); decide +kernel) (hi : i < A.ts.length := by exact Nat.le_of_ble_eq_true rfl) (hs : ∀ env : Env, swapsWith e (some (.Name x pos')) pos.line env = pure false := by intro _; rfl) :
    Xq C (.Assign [.Name x pos'] e pos) A E := xq_own i h (fun o' e => by rw [e]; exact k) hN hx hi hs
/-- what is ours becomes known -/
theorem xp_pub {i : Nat} {o : Ow} {a : Ab} (how : A.ow = some (i, o)) (hp : PubTo C.K o a) (h : Xp C sts ⟨A.ts.set i (some a), none⟩ E) : Xp C sts A E := fun D G0 H0 ok σ G H n m => by
  have q := m.own
  rw [how] at q
  obtain ⟨p, h1, h2, h3, h4⟩ := q
  obtain ⟨G', n', g', i'⟩ := hp G0 H0 G H p n h2 h3 h4
  refine h D G0 H0 ok σ G' H n' ⟨by show σ.length = (A.ts.set i (some a)).length; rw [List.length_set]; exact m.len, fun j b e => ?_, trivial⟩
  have e' : (A.ts.set i (some a))[j]? = some (some b) := e
  by_cases hj : i = j
  · subst hj
    have hl : i < A.ts.length := by
      rw [← m.len]
      exact (List.getElem?_eq_some_iff.mp h1).1
    rw [List.getElem?_set_self hl] at e'
    cases e'
    exact ⟨_, h1, i'⟩
  · rw [List.getElem?_set_ne hj] at e'
    obtain ⟨u, k1, k2⟩ := m.at_ j b e'
    exact ⟨u, k1, is_up g' k2⟩
/-- new lists -/
theorem xo_lst {es : List Expr} {St : List Ab → Prop} (h : Xa C es A St) (hs : ∀ as, St as → ∃ ds, as = ds.map Ab.dat ∧ S (.ol ds) ∧ ds.length ≤ 100000) : Xo C (.List es pos) A S := by
  obtain ⟨t, h1, h2⟩ := h
  refine ⟨tLst t, fun X hX => pe_lst (h1 X hX), fun H0 σ G H x m Q q => h2 H0 σ G H x m _ fun vs G1 H1 as n1 s1 i1 => ?_⟩
  obtain ⟨ds, rfl, hS, hl⟩ := hs as s1
  have hd := isA_dps i1
  refine ⟨small_le (by rw [dps_len hd]; exact hl), fun p hp => ?_⟩
  exact q p G1 _ _ (n1.trans (Nx.hid n1.s hp)) (n1.e.dom p hp) (n1.s.back hp) hS ⟨vs, upd_same, hd⟩
theorem xo_lstD {es : List Expr} {ds : List PyData} (h : Xs C es A (ds.map Ab.dat)) (hl : ds.length ≤ 100000 := by exact Nat.le_of_ble_eq_true rfl) : Xo C (.List es pos) A (fun o => o = .ol ds) := xo_lst h fun as e => ⟨ds, e, rfl, hl⟩
end

/-! ### targets -/
/-- what a turn gives: a value; a new pair -/
def IsI (K : PySem.W.Frag) (G : Hp) (v : V) : List Ab → Prop
  | [a] => Is K G v a
  | [a, b] => ∃ T x y, v = .ref T ∧ SqT K G T [x, y] ∧ Is K G x a ∧ Is K G y b
  | _ => False
def wipes (A : AS) (vs : List Nat) : AS := { A with ts := vs.foldr (fun i ts => ts.set i none) A.ts }
/-- a target takes what a turn gives: A' behind it; the slots vs forgotten it is as before -/
def Xg (C : Ct) (tg : Expr) (vs : List Nat) (A : AS) (it : List Ab) (A' : AS) : Prop := ∃ g, (∀ X, C.On X → PG X tg g) ∧ ∀ (H0 : Hp) (σ : L2.St) (G H : Hp) (v : V), Ex G H → M C.K A H0 σ G H → IsI C.K G v it → ∀ Q : L2.St → Hp → Prop, (∀ σ', M C.K A' H0 σ' G H → wipe σ' vs = wipe σ vs → Q σ' H) → g v σ H Q
theorem wipe_set {σ : L2.St} {i : Nat} {x : Option V} : ∀ {vs : List Nat}, i ∈ vs → wipe (σ.set i x) vs = wipe σ vs
  | v :: vs, h => by
    unfold wipe
    by_cases hi : i = v
    · subst hi
      by_cases hm : i ∈ vs
      · rw [wipe_set hm]
      · have : ∀ vs : List Nat, i ∉ vs → wipe (σ.set i x) vs = (wipe σ vs).set i x := by
          intro vs
          induction vs with
          | nil => intro _; rfl
          | cons w ws ih =>
            intro hn
            have h1 : i ≠ w := fun e => hn (by rw [e]; exact List.mem_cons_self)
            have h2 : i ∉ ws := fun m => hn (List.mem_cons_of_mem _ m)
            unfold wipe
            rw [ih h2, List.set_comm _ _ h1]
        rw [this vs hm, List.set_set]
    · have hm : i ∈ vs := by
        rcases List.mem_cons.mp h with e | e
        · exact (hi e).elim
        · exact e
      rw [wipe_set hm]
section
variable {C : Ct} {A : AS} {E : AE} {x y : Str} {p1 p2 p3 : Pos} {vs : List Nat}
theorem xg_name (i : Nat) {a : Ab} (hN : C.N[i]? = some x := by rfl) (hx : stoB C.sc C.fn x = true := by (try dsimp only [Ct.blk]); decide +kernel) (hi : A.off i := by exact AS.off_none) (hv : i ∈ vs := by decide) : Xg C (.Name x p1) vs A [a] (A.set i a) :=
  ⟨gName i, fun X hX => pg_name hX.nd (by rw [hX.N]; exact hN) (by rw [hX.sc]; exact stoB_loc hx) (by rw [hX.fn, hX.sc]; exact stoB_fn hx), fun H0 σ G H v e m iv Q q => q _ (m.set hi iv) (wipe_set hv)⟩
theorem gPair {K : PySem.W.Frag} {i j : Nat} {H0 : Hp} {σ : L2.St} {G H : Hp} {T : Addr} {u w : V} {a b : Ab} (e : Ex G H) (m : M K A H0 σ G H) (hi : A.off i) (hj : A.off j) (hv : i ∈ vs) (hw : j ∈ vs) (ht : SqT K G T [u, w]) (h1 : Is K G u a) (h2 : Is K G w b)
    (Q : L2.St → Hp → Prop) (q : ∀ σ', M K ((A.set i a).set j b) H0 σ' G H → wipe σ' vs = wipe σ vs → Q σ' H) : gTup K 2 (gCons (gName i) (gCons (gName j) gNil)) (.ref T) σ H Q :=
  ⟨T, [u, w], rfl, e.st ht, rfl, u, [w], rfl, w, [], rfl, rfl, q _ ((m.set hi h1).set (show AS.off (A.set i a) j from hj) h2) (by rw [wipe_set hw, wipe_set hv])⟩
theorem pg_pair {X : Cx} (hX : C.On X) {i j : Nat} {kk : Nat} (hNi : C.N[i]? = some x) (hNj : C.N[j]? = some y) (hx : stoB C.sc C.fn x = true) (hy : stoB C.sc C.fn y = true) : PG X (.Tuple [.Name x p1, .Name y p2] kk p3) (gTup X.K 2 (gCons (gName i) (gCons (gName j) gNil))) :=
  pg_tup hX.calm (pgs_cons (pg_name hX.nd (by rw [hX.N]; exact hNi) (by rw [hX.sc]; exact stoB_loc hx) (by rw [hX.fn, hX.sc]; exact stoB_fn hx)) (pgs_cons (pg_name hX.nd (by rw [hX.N]; exact hNj) (by rw [hX.sc]; exact stoB_loc hy) (by rw [hX.fn, hX.sc]; exact stoB_fn hy)) pgs_nil))
/-- a, b = a new pair -/
theorem xg_pair (i j : Nat) {a b : Ab} {kk : Nat} (hNi : C.N[i]? = some x := by rfl) (hNj : C.N[j]? = some y := by rfl) (hx : stoB C.sc C.fn x = true := by (try dsimp only [Ct.blk]); decide +kernel) (hy : stoB C.sc C.fn y = true := by (try dsimp only [Ct.blk]); decide +kernel) (hi : A.off i := by exact AS.off_none) (hj : A.off j := by exact AS.off_none)
    (hv : i ∈ vs := by decide) (hw : j ∈ vs := by decide) : Xg C (.Tuple [.Name x p1, .Name y p2] kk p3) vs A [a, b] ((A.set i a).set j b) :=
  ⟨gTup C.K 2 (gCons (gName i) (gCons (gName j) gNil)), fun X hX => by have q := pg_pair (p1 := p1) (p2 := p2) (p3 := p3) (kk := kk) hX hNi hNj hx hy; rw [hX.K] at q; exact q, fun H0 σ G H v e m iv Q q => by
    obtain ⟨T, u, w, rfl, ht, h1, h2⟩ := iv
    exact gPair e m hi hj hv hw ht h1 h2 Q q⟩
/-- a, b = a tuple of data -/
theorem xg_pairD (i j : Nat) {d1 d2 : PyData} {kk : Nat} (hNi : C.N[i]? = some x := by rfl) (hNj : C.N[j]? = some y := by rfl) (hx : stoB C.sc C.fn x = true := by (try dsimp only [Ct.blk]); decide +kernel) (hy : stoB C.sc C.fn y = true := by (try dsimp only [Ct.blk]); decide +kernel) (hi : A.off i := by exact AS.off_none) (hj : A.off j := by exact AS.off_none)
    (hv : i ∈ vs := by decide) (hw : j ∈ vs := by decide) : Xg C (.Tuple [.Name x p1, .Name y p2] kk p3) vs A [.dat (.tuple [d1, d2])] ((A.set i (.dat d1)).set j (.dat d2)) :=
  ⟨gTup C.K 2 (gCons (gName i) (gCons (gName j) gNil)), fun X hX => by have q := pg_pair (p1 := p1) (p2 := p2) (p3 := p3) (kk := kk) hX hNi hNj hx hy; rw [hX.K] at q; exact q, fun H0 σ G H v e m iv Q q => by
    obtain ⟨T, ws, rfl, ht, hd⟩ := is_tup iv
    cases hd with
    | cons h1 h2 =>
      cases h2 with
      | cons h2 h3 =>
        cases h3
        exact gPair (a := .dat d1) (b := .dat d2) e m hi hj hv hw ht h1 h2 Q q⟩
/-- target = e -/
theorem xq_asg {e : Expr} {tg : Expr} {S : Ab → Prop} {pos : Pos} (h : Xe C e A S) (k : ∀ a, S a → ∃ A', Xg C tg vs A [a] A' ∧ E.nx A')
    (hs : ∀ env : Env, swapsWithSole [tg] e pos.line env = pure false := by intro _; rfl) (hw : ∀ env : Env, swappedStores [tg] e env = pure none := by intro _; rfl) (h1 : ∀ env : Env, (assignEach [tg] env).map (·.2) = [assign tg env] := by intro _; rfl) : Xq C (.Assign [tg] e pos) A E := fun D G0 H0 ok σ G H n m => by
  refine ⟨tAsg (UE C e) (fun v σ H Q => ∃ g, (∀ X, C.On X → PG X tg g) ∧ g v σ H Q), fun X hX => ps_asg (pe_UE hX) ⟨fun pins s σ H v u Q I r hh => ?_⟩ (hs X.env) (hw X.env) (h1 X.env), h.ev H0 σ G H n.s m _ fun v G' H' a n' s i => ?_⟩
  · obtain ⟨g, hg, hh⟩ := hh
    exact (hg X hX).run pins s σ H v u Q I r hh
  · obtain ⟨A', ⟨g, g1, g2⟩, hA⟩ := k a s
    exact ⟨g, g1, g2 H0 σ G' H' v n'.s (m.up n') i _ fun σ' m' _ => ok.nx A' σ' G' H' hA (n.step n') m'⟩
theorem xq_asgD {e : Expr} {tg : Expr} {a : Ab} {A' : AS} {pos : Pos} (vs : List Nat) (h : Xd C e A a) (hg : Xg C tg vs A [a] A') (k : E.nx A')
    (hs : ∀ env : Env, swapsWithSole [tg] e pos.line env = pure false := by intro _; rfl) (hw : ∀ env : Env, swappedStores [tg] e env = pure none := by intro _; rfl) (h1 : ∀ env : Env, (assignEach [tg] env).map (·.2) = [assign tg env] := by intro _; rfl) : Xq C (.Assign [tg] e pos) A E :=
  xq_asg (vs := vs) h (fun b e => ⟨A', by rw [e]; exact hg, k⟩) hs hw h1
/-- x, y = a, b by local names -/
def locO (sc : Scope) (x : Str) : Bool := match sc.names.lookup x with
  | some .local => true
  | _ => false
theorem locO_ok {sc : Scope} {x : Str} (h : locO sc x = true) : sc.names.lookup x = some .local := by
  unfold locO at h
  split at h
  · assumption
  · cases h
def kindB (sc : Scope) : Bool := match sc.kind with
  | .function => true
  | _ => false
theorem kindB_ok {sc : Scope} (h : kindB sc = true) : sc.kind = .function := by
  unfold kindB at h
  split at h
  · assumption
  · cases h
theorem sw_two {env : Env} {x y : Str} {px py pt pt2 : Pos} {kt k2 : Nat} {c d : Expr} (hk : env.scope.kind = .function) (hx : env.scope.names.lookup x = some .local) (hy : env.scope.names.lookup y = some .local) (hne : (x == y) = false) (hl : (py.line == px.line) = true)
    (h1 : isStar c = false) (h2 : isStar d = false) (h3 : [c, d].all (foldedForSure 8) = false) (h4 : [c, d].all (constantsAlone 8) = false) : swappedStores [.Tuple [.Name x px, .Name y py] kt pt] (.Tuple [c, d] k2 pt2) env = pure (some [x, y]) := by
  have kx : (env.kindOf x == some .local) = true := by
    rw [show env.kindOf x = some .local from hx]
    rfl
  have ky : (env.kindOf y == some .local) = true := by
    rw [show env.kindOf y = some .local from hy]
    rfl
  have hb : env.blockKind = .function := by
    unfold Env.blockKind
    rw [hk]
    rfl
  have hne' : ¬ x = y := by simpa using hne
  have e1 : ([x, y] : List Str).eraseDups = [x, y] := by
    have : (y == x) = false := by simpa using fun z : y = x => hne' z.symm
    simp [List.eraseDups_cons, this]
  have hfun : ∀ f : Expr → Bool, (∀ e, f e = isStar e) → ([c, d].any f) = false := fun f hf => by simp [hf, h1, h2]
  unfold swappedStores
  simp only [pure_bind, hb, List.length_cons, List.length_nil, h3, h4, List.head?_cons, Option.map_some, Option.getD_some, List.filterMap_cons, List.filterMap_nil, kx, ky, Expr.pos, hl, beq_self_eq_true, Bool.and_true, Bool.true_and, if_true, e1]
  rw [if_neg (by decide), if_neg (by rw [hfun _ (fun e => by cases e <;> rfl)]; decide), if_neg (by decide), if_neg (by decide), if_neg (by decide)]
theorem xq_par (i j : Nat) {c d : Expr} {St : List Ab → Prop} {kt k2 : Nat} {pt pt2 pos : Pos} (h : Xa C [c, d] A St) (k : ∀ as, St as → ∃ a b, as = [a, b] ∧ E.nx ((A.set i a).set j b))
    (hNi : C.N[i]? = some x := by rfl) (hNj : C.N[j]? = some y := by rfl) (hx : locO C.sc x = true := by (try dsimp only [Ct.blk]); decide +kernel) (hy : locO C.sc y = true := by (try dsimp only [Ct.blk]); decide +kernel) (hi : A.off i := by exact AS.off_none) (hj : A.off j := by exact AS.off_none) (hij : i ≠ j := by decide)
    (hk : kindB C.sc = true := by (try dsimp only [Ct.blk]); rfl) (hne : (x == y) = false := by decide +kernel) (hl : (p2.line == p1.line) = true := by rfl) (w1 : isStar c = false := by rfl) (w2 : isStar d = false := by rfl) (w3 : [c, d].all (foldedForSure 8) = false := by rfl) (w4 : [c, d].all (constantsAlone 8) = false := by rfl)
    (hs : ∀ env : Env, swapsWithSole [.Tuple [.Name x p1, .Name y p2] kt pt] (.Tuple [c, d] k2 pt2) pos.line env = pure false := by intro _; rfl) : Xq C (.Assign [.Tuple [.Name x p1, .Name y p2] kt pt] (.Tuple [c, d] k2 pt2) pos) A E := fun D G0 H0 ok σ G H n m => by
  obtain ⟨t, h1, h2⟩ := h
  refine ⟨tPar i j t, fun X hX => ps_par hX.calm hX.nd (by rw [hX.N]; exact hNi) (by rw [hX.N]; exact hNj) hij (by rw [hX.sc]; exact locO_ok hx) (by rw [hX.sc]; exact locO_ok hy) (h1 X hX) (sw_two (by rw [hX.sc]; exact kindB_ok hk) (by rw [hX.sc]; exact locO_ok hx) (by rw [hX.sc]; exact locO_ok hy) hne hl w1 w2 w3 w4) (hs X.env), h2 H0 σ G H n.s m _ fun us G' H' as n' s ia => ?_⟩
  obtain ⟨a, b, rfl, hn⟩ := k as s
  obtain ⟨u, w, rfl, i1, i2⟩ := isA_two ia
  exact ⟨u, w, rfl, ok.nx _ _ G' H' hn (n.step n') (((m.up n').set hi i1).set (show AS.off (A.set i a) j from hj) i2)⟩
theorem xq_parD (i j : Nat) {c d : Expr} {a b : Ab} {kt k2 : Nat} {pt pt2 pos : Pos} (h : Xs C [c, d] A [a, b]) (k : E.nx ((A.set i a).set j b))
    (hNi : C.N[i]? = some x := by rfl) (hNj : C.N[j]? = some y := by rfl) (hx : locO C.sc x = true := by (try dsimp only [Ct.blk]); decide +kernel) (hy : locO C.sc y = true := by (try dsimp only [Ct.blk]); decide +kernel) (hi : A.off i := by exact AS.off_none) (hj : A.off j := by exact AS.off_none) (hij : i ≠ j := by decide)
    (hk : kindB C.sc = true := by (try dsimp only [Ct.blk]); rfl) (hne : (x == y) = false := by decide +kernel) (hl : (p2.line == p1.line) = true := by rfl) (w1 : isStar c = false := by rfl) (w2 : isStar d = false := by rfl) (w3 : [c, d].all (foldedForSure 8) = false := by rfl) (w4 : [c, d].all (constantsAlone 8) = false := by rfl)
    (hs : ∀ env : Env, swapsWithSole [.Tuple [.Name x p1, .Name y p2] kt pt] (.Tuple [c, d] k2 pt2) pos.line env = pure false := by intro _; rfl) : Xq C (.Assign [.Tuple [.Name x p1, .Name y p2] kt pt] (.Tuple [c, d] k2 pt2) pos) A E :=
  xq_par i j h (fun as e => ⟨a, b, e, k⟩) hNi hNj hx hy hi hj hij hk hne hl w1 w2 w3 w4 hs
end

/-! ### what is walked -/
/-- what a source comes to: n turns, the i-th of which gives its it i -/
structure Src (K : PySem.W.Frag) (J : It) (G : Hp) (its : List (List Ab)) : Prop where
  w : ∃ (Gd : Hp → Prop) (Y : Nat → Hp → V → Hp → Prop), Walk J its.length Gd Y ∧ (∀ H, Ex G H → Gd H) ∧ ∀ i H v H' G1, i < its.length → Ex G G1 → Ex G1 H → Y i H v H' → ∃ G2 it, Nx G1 H G2 H' ∧ its[i]? = some it ∧ IsI K G2 v it
def EvI (K : PySem.W.Frag) (wi : TI) (A : AS) (S : List (List Ab) → Prop) : Prop := ∀ (H0 : Hp) (σ : L2.St) (G H : Hp), Ex G H → M K A H0 σ G H → ∀ R : It → Hp → Prop, (∀ J G' H' its, Nx G H G' H' → S its → Src K J G' its → R J H') → wi σ H R
def Xi (C : Ct) (tg iter : Expr) (A : AS) (S : List (List Ab) → Prop) : Prop := ∃ wi, (∀ X, C.On X → PI X tg iter wi) ∧ EvI C.K wi A S
abbrev Xid (C : Ct) (tg iter : Expr) (A : AS) (its : List (List Ab)) : Prop := Xi C tg iter A (fun z => z = its)
theorem src_at {K : PySem.W.Frag} {J : It} {G : Hp} {xs : List V} {its : List (List Ab)} {Gd : Hp → Prop} (w : Walk J xs.length Gd (YAt xs)) (hg : ∀ H, Ex G H → Gd H) (hl : xs.length = its.length) (hi : ∀ (i : Nat) (v : V), xs[i]? = some v → ∃ it, its[i]? = some it ∧ ∀ G', Ex G G' → IsI K G' v it) : Src K J G its :=
  ⟨Gd, YAt xs, by rw [← hl]; exact w, hg, fun i H v H' G1 hlt e1 e2 y => by
    obtain ⟨rfl, hv⟩ := y
    obtain ⟨it, h1, h2⟩ := hi i v hv
    exact ⟨G1, it, Nx.refl e2, h1, h2 G1 e1⟩⟩
/-- items of data -/
def its1 (ds : List PyData) : List (List Ab) := ds.map fun d => [Ab.dat d]
theorem src_dps {K : PySem.W.Frag} {J : It} {G : Hp} {xs : List V} {ds : List PyData} {Gd : Hp → Prop} (w : Walk J xs.length Gd (YAt xs)) (hg : ∀ H, Ex G H → Gd H) (hd : DpAll K G xs ds) : Src K J G (its1 ds) :=
  src_at w hg (by unfold its1; rw [List.length_map]; exact dps_len hd) fun i v hv => by
    have hl : i < ds.length := by
      rw [← dps_len hd]
      exact (List.getElem?_eq_some_iff.mp hv).1
    obtain ⟨u, h1, h2⟩ := dps_get hd (List.getElem?_eq_getElem hl)
    rw [hv] at h1
    cases h1
    refine ⟨[Ab.dat ds[i]], by unfold its1; rw [List.getElem?_map, List.getElem?_eq_getElem hl]; rfl, fun G' e => ?_⟩
    exact e.dp h2
section
variable {C : Ct} {A : AS} {tg e e2 : Expr} {pos p : Pos}
theorem xi_list {ds : List PyData} (h : Xd C e A (.dat (.list ds))) : Xid C tg e A (its1 ds) := by
  obtain ⟨te, h1, h2⟩ := h
  refine ⟨iList C.K te, fun X hX => by have q := pi_list (tg := tg) (h1 X hX); rw [hX.K] at q; exact q, fun H0 σ G H x m R q => h2 H0 σ G H x m _ fun v G1 H1 a n1 s1 i1 => ?_⟩
  subst s1
  obtain ⟨l, vs, rfl, hs, hd⟩ := is_list i1
  exact ⟨l, rfl, ⟨vs, n1.s.sl hs⟩, q _ G1 H1 _ n1 rfl (src_dps walk_list (fun H e => e.sl hs) hd)⟩
theorem xi_tup {ds : List PyData} (h : Xd C e A (.dat (.tuple ds))) : Xid C tg e A (its1 ds) := by
  obtain ⟨te, h1, h2⟩ := h
  refine ⟨iTup C.K te, fun X hX => by have q := pi_tup (tg := tg) (h1 X hX); rw [hX.K] at q; exact q, fun H0 σ G H x m R q => h2 H0 σ G H x m _ fun v G1 H1 a n1 s1 i1 => ?_⟩
  subst s1
  obtain ⟨l, vs, rfl, hs, hd⟩ := is_tup i1
  exact ⟨l, rfl, ⟨vs, n1.s.st hs⟩, q _ G1 H1 _ n1 rfl (src_dps walk_tup (fun H e => e.st hs) hd)⟩
theorem isWs_get {K : PySem.W.Frag} {G : Hp} : ∀ {vs : List V} {ws : List Wd} {i : Nat} {v : V}, IsWs K G vs ws → vs[i]? = some v → ∃ w, ws[i]? = some w ∧ IsW K G v w
  | [], [], i, v, _, e => by simp at e
  | [], _ :: _, _, _, h, _ => h.elim
  | _ :: _, [], _, _, h, _ => h.elim
  | u :: us, w :: ws, 0, v, h, e => by
    simp at e
    subst e
    exact ⟨w, rfl, h.1⟩
  | u :: us, w :: ws, i + 1, v, h, e => by
    simp at e
    obtain ⟨w', h1, h2⟩ := isWs_get h.2 e
    exact ⟨w', by simpa using h1, h2⟩
theorem xi_wls {t : Bool} {ws : List Wd} (h : Xd C e A (.wls t ws)) : Xid C tg e A (ws.map fun w => [Ab.wor w]) := by
  obtain ⟨te, h1, h2⟩ := h
  cases t with
  | true =>
    refine ⟨iTup C.K te, fun X hX => by have q := pi_tup (tg := tg) (h1 X hX); rw [hX.K] at q; exact q, fun H0 σ G H x m R q => h2 H0 σ G H x m _ fun v G1 H1 a n1 s1 i1 => ?_⟩
    subst s1
    obtain ⟨l, vs, rfl, hs, hd⟩ := i1
    refine ⟨l, rfl, ⟨vs, n1.s.st hs⟩, q _ G1 H1 _ n1 rfl (src_at walk_tup (fun H e => e.st hs) (by rw [List.length_map]; exact isWs_len hd) fun i v hv => ?_)⟩
    obtain ⟨w, k1, k2⟩ := isWs_get hd hv
    exact ⟨[.wor w], by rw [List.getElem?_map, k1]; rfl, fun G' e => isW_up e k2⟩
  | false =>
    refine ⟨iList C.K te, fun X hX => by have q := pi_list (tg := tg) (h1 X hX); rw [hX.K] at q; exact q, fun H0 σ G H x m R q => h2 H0 σ G H x m _ fun v G1 H1 a n1 s1 i1 => ?_⟩
    subst s1
    obtain ⟨l, vs, rfl, hs, hd⟩ := i1
    refine ⟨l, rfl, ⟨vs, n1.s.sl hs⟩, q _ G1 H1 _ n1 rfl (src_at walk_list (fun H e => e.sl hs) (by rw [List.length_map]; exact isWs_len hd) fun i v hv => ?_)⟩
    obtain ⟨w, k1, k2⟩ := isWs_get hd hv
    exact ⟨[.wor w], by rw [List.getElem?_map, k1]; rfl, fun G' e => isW_up e k2⟩
/-- a text, sign by sign -/
def itsT (l : List Nat) : List (List Ab) := l.map fun c => [Ab.dat (pS [c])]
theorem xi_txt {l : List Nat} (h : Xd C e A (.dat (pS l))) : Xid C tg e A (itsT l) := by
  obtain ⟨te, h1, h2⟩ := h
  refine ⟨iStr te, fun X hX => pi_str (tg := tg) (h1 X hX), fun H0 σ G H x m R q => h2 H0 σ G H x m _ fun v G1 H1 a n1 s1 i1 => ?_⟩
  subst s1
  refine ⟨tx l, is_str i1, q _ G1 H1 _ n1 rfl ⟨_, _, by have w := walk_str (z := tx l); unfold itsT; rw [List.length_map]; exact w, fun _ _ => trivial, fun i H v H' G1 hlt e1 e2 y => ?_⟩⟩
  obtain ⟨rfl, c, hc, rfl⟩ := y
  have hc' : l[i]? = some c := by
    have : (tx l).cps[i]? = l[i]? := by unfold tx; simp
    rw [← this]
    exact hc
  refine ⟨G1, [Ab.dat (pS [c])], Nx.refl e2, by unfold itsT; rw [List.getElem?_map, hc']; rfl, ?_⟩
  exact mk_str (x := tx [c])
/-- range(..) -/
def itsR (lo c : Int) (n : Nat) : List (List Ab) := (List.range n).map fun i => [Ab.dat (.int (lo + (i : Nat) * c))]
theorem src_rng {K : PySem.W.Frag} {J : It} {G : Hp} {lo c : Int} {n : Nat} {f : Nat → V} (w : Walk J n (fun _ => True) (YFn f)) (hf : ∀ i, f i = .int (lo + (i : Nat) * c)) : Src K J G (itsR lo c n) :=
  ⟨_, _, by unfold itsR; rw [List.length_map, List.length_range]; exact w, fun _ _ => trivial, fun i H v H' G1 hlt e1 e2 y => by
    obtain ⟨rfl, rfl⟩ := y
    have hlt' : i < n := by
      unfold itsR at hlt
      rw [List.length_map, List.length_range] at hlt
      exact hlt
    refine ⟨G1, [Ab.dat (.int (lo + (i : Nat) * c))], Nx.refl e2, by unfold itsR; rw [List.getElem?_map, List.getElem?_range hlt']; rfl, ?_⟩
    rw [hf]
    exact mk_int⟩
def midI (i : Int) : Prop := -(2 ^ 62) ≤ i ∧ i < 2 ^ 62
theorem xi_rng1S {S : Ab → Prop} {T : List (List Ab) → Prop} (ha : Xe C e A S) (hk : ∀ a, S a → ∃ i : Int, a = .dat (.int i) ∧ midI i ∧ T (itsR 0 1 i.toNat)) (hm : C.ga.mg "range" = none) (hg : gloB C.sc "range" = true := by (try dsimp only [Ct.blk]); decide +kernel) (hst : noStars [e] = true := by rfl) : Xi C tg (.Call (.Name "range" p) [e] [] pos) A T := by
  obtain ⟨t, h1, h2⟩ := xa_cons (S2 := fun as => ∃ a, S a ∧ as = [a]) ha xa_nil (fun c cs k1 k2 => ⟨c, k1, by rw [k2]⟩) (noStars_cons hst).1
  refine ⟨iRng1 t, fun X hX => pi_range1 (hX.gl hg) (by rw [hX.mg]; exact hm) (h1 X hX) (by rw [star_one (noStars_cons hst).1]; rfl), fun H0 σ G H x m R q => h2 H0 σ G H x m _ fun vs G1 H1 as n1 s1 i1 => ?_⟩
  obtain ⟨a, ha, rfl⟩ := s1
  obtain ⟨i, rfl, hm, hT⟩ := hk a ha
  obtain ⟨v, rfl, iv⟩ := isA_one i1
  rw [is_int iv]
  exact ⟨i, rfl, hm.1, hm.2, q _ G1 H1 _ n1 hT (src_rng walk_range fun j => by simp)⟩
theorem xi_rng1 {i : Int} (ha : Xd C e A (.dat (.int i))) (hm' : midI i) (hm : C.ga.mg "range" = none) (hg : gloB C.sc "range" = true := by (try dsimp only [Ct.blk]); decide +kernel) (hst : noStars [e] = true := by rfl) : Xid C tg (.Call (.Name "range" p) [e] [] pos) A (itsR 0 1 i.toNat) :=
  xi_rng1S ha (fun a e => ⟨i, e, hm', rfl⟩) hm hg hst
theorem xi_rng2 {i j : Int} (ha : Xs C [e, e2] A [.dat (.int i), .dat (.int j)]) (hi : midI i) (hj : midI j) (hm : C.ga.mg "range" = none) (hg : gloB C.sc "range" = true := by (try dsimp only [Ct.blk]); decide +kernel) (hst : noStars [e, e2] = true := by rfl) : Xid C tg (.Call (.Name "range" p) [e, e2] [] pos) A (itsR i 1 (j - i).toNat) := by
  obtain ⟨t, h1, h2⟩ := ha
  refine ⟨iRng2 t, fun X hX => pi_range2 (hX.gl hg) (by rw [hX.mg]; exact hm) (h1 X hX) (by rw [star_one (noStars_cons hst).1, star_one (noStars_cons (noStars_cons hst).2).1]; rfl) (by rw [star_one (noStars_cons (noStars_cons hst).2).1]; rfl), fun H0 σ G H x m R q => h2 H0 σ G H x m _ fun vs G1 H1 as n1 s1 i1 => ?_⟩
  subst s1
  obtain ⟨v, u, rfl, iv, iu⟩ := isA_two i1
  rw [is_int iv, is_int iu]
  exact ⟨i, j, rfl, ⟨hi.1, hi.2, hj.1, hj.2⟩, q _ G1 H1 _ n1 rfl (src_rng walk_range fun j => by simp)⟩
theorem isA_three {K : PySem.W.Frag} {G : Hp} {vs : List V} {c d f : Ab} (h : IsA K G vs [c, d, f]) : ∃ v u w, vs = [v, u, w] ∧ Is K G v c ∧ Is K G u d ∧ Is K G w f := by
  match vs, h with
  | [v, u, w], h => exact ⟨v, u, w, rfl, h.1, h.2.1, h.2.2.1⟩
theorem xi_rng3 {e3 : Expr} {i j c : Int} {n : Nat} (ha : Xs C [e, e2, e3] A [.dat (.int i), .dat (.int j), .dat (.int c)]) (hr : RgC i j c n) (hm : C.ga.mg "range" = none) (hg : gloB C.sc "range" = true := by (try dsimp only [Ct.blk]); decide +kernel) (hst : noStars [e, e2, e3] = true := by rfl) : Xid C tg (.Call (.Name "range" p) [e, e2, e3] [] pos) A (itsR i c n) := by
  obtain ⟨t, h1, h2⟩ := ha
  refine ⟨iRng3 t, fun X hX => pi_range3 (hX.gl hg) (by rw [hX.mg]; exact hm) (h1 X hX) (by rw [star_one (noStars_cons hst).1]) (by rw [star_one (noStars_cons (noStars_cons hst).2).1, star_one (noStars_cons (noStars_cons (noStars_cons hst).2).2).1]; rfl), fun H0 σ G H x m R q => h2 H0 σ G H x m _ fun vs G1 H1 as n1 s1 i1 => ?_⟩
  subst s1
  obtain ⟨v, u, w, rfl, iv, iu, iw⟩ := isA_three i1
  rw [is_int iv, is_int iu, is_int iw]
  exact ⟨i, j, c, n, rfl, hr, q _ G1 H1 _ n1 rfl (src_rng walk_rangeC fun j => rfl)⟩
/-- pairs -/
theorem src_pair {K : PySem.W.Frag} {J : It} {G : Hp} {n : Nat} {xs ys : Nat → Option V} {its : List (List Ab)} {Gd : Hp → Prop} (w : Walk J n Gd (YPair xs ys)) (hg : ∀ H, Ex G H → Gd H) (hl : n = its.length)
    (hi : ∀ (i : Nat) (v u : V), i < n → xs i = some v → ys i = some u → ∃ a b, its[i]? = some [a, b] ∧ ∀ G', Ex G G' → Is K G' v a ∧ Is K G' u b) : Src K J G its :=
  ⟨Gd, YPair xs ys, by rw [← hl]; exact w, hg, fun i H v H' G1 hlt e1 e2 y => by
    obtain ⟨T, u, w', rfl, hT, rfl, hx, hy⟩ := y
    obtain ⟨a, b, h1, h2⟩ := hi i u w' (by rw [hl]; exact hlt) hx hy
    refine ⟨upd G1 T (.tup [u, w']), [a, b], Nx.new e2 hT, h1, T, u, w', rfl, SqT.of upd_same, ?_⟩
    exact h2 _ (e1.trans (Ex.new (e2.back hT)))⟩
/-- enumerate(list) -/
def itsE (ds : List PyData) : List (List Ab) := (List.range ds.length).map fun i => [Ab.dat (.int (i : Nat)), Ab.dat (ds.getD i .none)]
theorem xi_enum {elts : List Expr} {kk : Nat} {tpos : Pos} {ds : List PyData} (h : Xd C e A (.dat (.list ds))) (hm : C.ga.mg "enumerate" = none) (hg : gloB C.sc "enumerate" = true := by (try dsimp only [Ct.blk]); decide +kernel) (hst : noStars [e] = true := by rfl) : Xid C (.Tuple elts kk tpos) (.Call (.Name "enumerate" p) [e] [] pos) A (itsE ds) := by
  obtain ⟨t, h1, h2⟩ := xs_cons h xs_nil (noStars_cons hst).1
  refine ⟨iEnum C.K t, fun X hX => by have q := pi_enum (p := p) (pos := pos) (tpos := tpos) (elts := elts) (kk := kk) (hX.gl hg) (by rw [hX.mg]; exact hm) (h1 X hX) (by rw [star_one (noStars_cons hst).1]; rfl); rw [hX.K] at q; exact q, fun H0 σ G H x m R q => h2 H0 σ G H x m _ fun vs G1 H1 as n1 s1 i1 => ?_⟩
  subst s1
  obtain ⟨v, rfl, iv⟩ := isA_one i1
  obtain ⟨l, ws, rfl, hs, hd⟩ := is_list iv
  refine ⟨l, ws, rfl, n1.s.sl hs, q _ G1 H1 _ n1 rfl (src_pair walk_enum (fun H e => e.sl hs) (by unfold itsE; rw [List.length_map, List.length_range]; exact dps_len hd) fun i v u hlt hx hy => ?_)⟩
  cases hx
  have hl : i < ds.length := by
    rw [← dps_len hd]
    exact hlt
  obtain ⟨u', k1, k2⟩ := dps_get hd (List.getElem?_eq_getElem hl)
  rw [hy] at k1
  cases k1
  refine ⟨_, _, by unfold itsE; rw [List.getElem?_map, List.getElem?_range hl]; rfl, fun G' e => ⟨mk_int, ?_⟩⟩
  rw [List.getD_eq_getElem?_getD, List.getElem?_eq_getElem hl]
  exact e.dp k2
theorem walk_zipT {K : PySem.W.Frag} {a b : Addr} {xs ys : List V} {n : Nat} (hn : n = min xs.length ys.length) : Walk (RZ.ItzT K a b) n (fun H => SqT K H a xs ∧ SqT K H b ys) (YPair (fun i => xs[i]?) (fun i => ys[i]?)) := by
  subst hn
  refine ⟨fun i _ hi q => ?_, fun _ q => ⟨xs, ys, q.1, q.2, by omega⟩, fun i H v H' _ q y => ?_⟩
  · have h1 : i < xs.length := by omega
    have h2 : i < ys.length := by omega
    exact ⟨xs, ys, xs[i], ys[i], q.1, q.2, by simp [h1], by simp [h2]⟩
  · obtain ⟨T, x, z, h1, h2, h3, h4, h5⟩ := y
    exact ⟨T, x, z, h1, h2, h3, h4 xs q.1, h5 ys q.2⟩
/-- zip of worlds and data -/
theorem xi_zipW {elts : List Expr} {kk : Nat} {tpos : Pos} {ws : List Wd} {ds : List PyData} (ha : Xs C [e, e2] A [.wls true ws, .dat (.tuple ds)]) (hl : ds.length = ws.length) (hm : C.ga.mg "zip" = none) (hg : gloB C.sc "zip" = true := by (try dsimp only [Ct.blk]); decide +kernel) (hst : noStars [e, e2] = true := by rfl) :
    Xid C (.Tuple elts kk tpos) (.Call (.Name "zip" p) [e, e2] [] pos) A ((ws.zip ds).map fun z => [Ab.wor z.1, Ab.dat z.2]) := by
  obtain ⟨t, h1, h2⟩ := ha
  refine ⟨RZ.iZipA C.K t, fun X hX => by have q := RZ.pi_zipA (p := p) (pos := pos) (tpos := tpos) (elts := elts) (kk := kk) (hX.gl hg) (by rw [hX.mg]; exact hm) (h1 X hX) (star_one (noStars_cons hst).1) (by rw [star_one (noStars_cons (noStars_cons hst).2).1]; rfl); rw [hX.K] at q; exact q, fun H0 σ G H x m R q => h2 H0 σ G H x m _ fun vs G1 H1 as n1 s1 i1 => ?_⟩
  subst s1
  obtain ⟨v, u, rfl, iv, iu⟩ := isA_two i1
  obtain ⟨l, us, rfl, hs, hd⟩ := iv
  obtain ⟨l2, us2, rfl, hs2, hd2⟩ := is_tup iu
  refine ⟨l, l2, us, us2, rfl, Or.inr ⟨n1.s.st hs, n1.s.st hs2, q _ G1 H1 _ n1 rfl (src_pair (walk_zipT rfl) (fun H e => ⟨e.st hs, e.st hs2⟩) (by rw [List.length_map, List.length_zip, isWs_len hd, dps_len hd2]) fun i v u hlt hx hy => ?_)⟩⟩
  obtain ⟨w, k1, k2⟩ := isWs_get hd hx
  have hl : i < ds.length := by
    rw [← dps_len hd2]
    exact (List.getElem?_eq_some_iff.mp hy).1
  obtain ⟨u', k3, k4⟩ := dps_get hd2 (List.getElem?_eq_getElem hl)
  rw [hy] at k3
  cases k3
  refine ⟨.wor w, .dat ds[i], ?_, fun G' e => ⟨isW_up e k2, e.dp k4⟩⟩
  rw [List.getElem?_map, List.getElem?_zip_eq_some (z := (w, ds[i])).mpr ⟨k1, List.getElem?_eq_getElem hl⟩]
  rfl
end

/-! ### enumerate(text) -/
def IteS (x : Str) : It := ⟨fun i _ => i < x.cps.size, fun i H v H' => ∃ T c, v = .ref T ∧ H T = none ∧ H' = upd H T (.tup [.int (i : Nat), .str ⟨#[c]⟩]) ∧ x.cps[i]? = some c, fun i _ => i = x.cps.size⟩
theorem turn_enumS {P : Program} {w : World} {K : PySem.W.Frag} {elts : List Expr} {kk : Nat} {tpos : Pos} {e it : Addr} {x : Str} {t : Tok} (hne : e ≠ it) :
    Turn P w K (.Tuple elts kk tpos) (IteS x) [e, it] e (fun i h => (∃ old, IsEnum h e it ((i : Nat) : Int) old) ∧ h.IsStrIter it (strIterType x) x t i) where
  mem := by simp
  obj := fun i h st b hb => by
    obtain ⟨⟨old, he⟩, ⟨o, ho, hc, hd⟩⟩ := st
    have e' : b = e ∨ b = it := by simpa using hb
    rcases e' with z | z
    · rw [z]; exact ⟨_, he, fun v q => nomatch q⟩
    · rw [z]; exact ⟨o, ho, fun v q => by rw [hd] at q; cases q⟩
  keep := fun i h h' st k => by
    obtain ⟨⟨old, he⟩, ⟨o, ho, r⟩⟩ := st
    exact ⟨⟨old, k e (by simp) _ he⟩, o, k it (by simp) o ho, r⟩
  item := by
    intro X hP hw hK hc i pins s σ H E I hf st hg
    subst hP hw hK
    have W := WalksT.enumerateD (Draws.text (prog := X.prog) (w := X.w) (A := X.A.in1) (I.ok.hd hc) it x t) e hne (by simpa using hne) (by simp)
    refine W.item i s _ _ hg st fun T vals h' tk hP hT hTup mid kk => ?_
    obtain ⟨t', x', ⟨c, u, hc, rfl⟩, rfl⟩ := hP
    refine ⟨_, rfl, W.go elts _ tpos i T _ _ _ mid fun h'' st'' kk2 => ?_⟩
    have hap := W.apart i T _ mid
    have hT2 : h''.IsTuple T #[.int i t', .str ⟨#[c]⟩ u] := by
      obtain ⟨o, ho, r⟩ := hTup
      exact ⟨o, kk2 T o hap ho, r⟩
    have new : ObjOk X.prog X.w (upd H T (.tup [.int (i : Nat), .str ⟨#[c]⟩])) h'' T (.tup [.int (i : Nat), .str ⟨#[c]⟩]) :=
      ⟨by show 2 ≤ sizeLine; decide, [.int i t', .str ⟨#[c]⟩ u], .cons ⟨_, rfl⟩ (.cons ⟨_, rfl⟩ .nil), hT2⟩
    have I1 : Inv X pins σ (upd H T (.tup [.int (i : Nat), .str ⟨#[c]⟩])) { s with heap := h'', toks := tk } :=
      I.turnedNew (ch := [e, it]) (fun b o hb q => kk2 b o hb (kk b o hb q)) hf hT new
    refine ⟨.ref T, _, I1, rfl, ⟨T, c, rfl, I.hok.fresh hT, rfl, hc⟩, st'', fun b hb => ?_⟩
    have hbT : b ≠ T := fun z => hap (by rw [← z]; exact hb)
    rw [upd_ne hbT]
    exact (hf b hb).1
  done := by
    intro X hP hw hK hc i pins s σ H E I hf st hg
    subst hP hw hK
    have W := WalksT.enumerateD (Draws.text (prog := X.prog) (w := X.w) (A := X.A.in1) (I.ok.hd hc) it x t) e hne (by simpa using hne) (by simp)
    have hg' : i = x.cps.size := hg
    subst hg'
    refine W.done s _ _ st fun h' tk kk => ⟨rfl, ?_⟩
    exact I.turnedL (ch := [e, it]) (fun b o hb q => kk b o hb q) hf
  self := fun A i s Q E st h => let ⟨⟨_, he⟩, _⟩ := st; wpAny_pyIter_enum he h
def iEnumS (ta : TA) : TI := fun σ H R => ta σ H fun vs H1 => ∃ x, vs = [.str x] ∧ R (IteS x) H1
theorem pi_enumS {X : Cx} {e : Expr} {ta : TA} {p pos tpos : Pos} {elts : List Expr} {kk : Nat} (hg : Gl X "enumerate") (hm : X.mg "enumerate" = none) (ha : PA X [e] ta) (hs : starEach [e] X.env = [(false, eval e X.env)]) :
    PI X (.Tuple elts kk tpos) (.Call (.Name "enumerate" p) [e] [] pos) (iEnumS ta) := by
  refine ⟨fun pins s σ H R I h => ?_⟩
  refine Call_ (ld_blt I hg hm boot_enumerate (PyProof.Rows.callWith_type1 (thn (ha.run pos pins s σ H _ I h) fun us s1 ⟨vs, H1, I1, r1, q1⟩ => ?_) hs rfl))
  obtain ⟨x, ex, q⟩ := q1
  subst ex
  cases r1 with
  | cons r rr =>
    cases rr
    obtain ⟨t, rfl⟩ := r
    refine call_enumerate_str fun h' he hit hsz hk => wpAny_pyIter_enum he ?_
    have I2 : Inv X pins σ H1 { s1 with heap := h' } := I1.kept (t' := s1.toks) hk
    refine ⟨s1.heap.objs.size + 1, [s1.heap.objs.size + 1, s1.heap.objs.size], _, _, H1, rfl, I2, turn_enumS (Nat.succ_ne_self _), ⟨⟨.none, he⟩, hit⟩, fun b hb => ?_, q⟩
    have e' : b = s1.heap.objs.size + 1 ∨ b = s1.heap.objs.size := by simpa using hb
    have hle : s1.heap.objs.size ≤ b := by
      rcases e' with z | z
      · rw [z]; exact Nat.le_add_right _ _
      · rw [z]; exact Nat.le_refl _
    exact I1.fpOk hle (I1.hok.fresh hle)
section
variable {C : Ct} {A : AS} {tg e e2 : Expr} {pos p : Pos}
def itsES (l : List Nat) : List (List Ab) := (List.range l.length).map fun i => [Ab.dat (.int (i : Nat)), Ab.dat (pS [l.getD i 0])]
theorem walk_enumS {x : Str} : Walk (IteS x) x.cps.size (fun _ => True) (YPair (fun i => some (.int (i : Nat))) (fun i => x.cps[i]?.map fun c => V.str ⟨#[c]⟩)) :=
  ⟨fun _ _ hi _ => hi, fun _ _ => rfl, fun i H v H' _ _ y => by
    obtain ⟨T, c, h1, h2, h3, h4⟩ := y
    exact ⟨T, .int (i : Nat), .str ⟨#[c]⟩, h1, h2, h3, rfl, by simp [h4]⟩⟩
theorem xi_enumS {elts : List Expr} {kk : Nat} {tpos : Pos} {l : List Nat} (h : Xd C e A (.dat (pS l))) (hm : C.ga.mg "enumerate" = none) (hg : gloB C.sc "enumerate" = true := by (try dsimp only [Ct.blk]); decide +kernel) (hst : noStars [e] = true := by rfl) : Xid C (.Tuple elts kk tpos) (.Call (.Name "enumerate" p) [e] [] pos) A (itsES l) := by
  obtain ⟨t, h1, h2⟩ := xs_cons h xs_nil (noStars_cons hst).1
  refine ⟨iEnumS t, fun X hX => pi_enumS (p := p) (pos := pos) (tpos := tpos) (elts := elts) (kk := kk) (hX.gl hg) (by rw [hX.mg]; exact hm) (h1 X hX) (by rw [star_one (noStars_cons hst).1]; rfl), fun H0 σ G H x m R q => h2 H0 σ G H x m _ fun vs G1 H1 as n1 s1 i1 => ?_⟩
  subst s1
  obtain ⟨v, rfl, iv⟩ := isA_one i1
  refine ⟨tx l, by rw [is_str iv], q _ G1 H1 _ n1 rfl (src_pair walk_enumS (fun _ _ => trivial) (by unfold itsES; rw [List.length_map, List.length_range]; rfl) fun i v u hlt hx hy => ?_)⟩
  cases hx
  have hl : i < l.length := hlt
  have hy' : (tx l).cps[i]? = some l[i] := by unfold tx; simp [hl]
  rw [hy'] at hy
  cases hy
  refine ⟨_, _, by unfold itsES; rw [List.getElem?_map, List.getElem?_range hl]; rfl, fun G' e => ⟨mk_int, ?_⟩⟩
  rw [List.getD_eq_getElem?_getD, List.getElem?_eq_getElem hl]
  exact mk_str (x := tx [l[i]])
end
end Oh
set_option maxHeartbeats 4000000
/-! OhF: dicts walked, loops, comprehensions, own lists. -/
namespace Oh
open PySem L2

/-! ### a dict, locked for good -/
def FrzAt (x : V) (H1 : Hp) (Q : VK) : Prop := ∃ d u, x = .ref d ∧ ((H1 d = some u ∧ Mut (some u) ∧ ∀ o, Q x (upd H1 d (.frz o u))) ∨ ∃ o, H1 d = some (.frz o u) ∧ Q x H1)
def tFrz (td : TE) : TE := fun σ H Q => td σ H fun x H1 => FrzAt x H1 Q
theorem pe_frz {X : Cx} {e : Expr} {td : TE} (he : PE X e td) : PE X e (tFrz td) := by
  refine ⟨fun pins s σ H Q I h => ?_⟩
  refine thn (he.run pins s σ H _ I h) fun v s1 ⟨x, H1, I1, r1, d, u, ex, q⟩ => ?_
  rcases q with ⟨hd, mu, q⟩ | ⟨o, hd, q⟩
  · obtain ⟨o, I2⟩ := I1.lock hd mu
    exact ⟨x, _, I2, r1, q o⟩
  · exact ⟨x, _, I1, r1, q⟩
/-- a known dict is locked from now on -/
theorem frz_go {G H : Hp} {d : Addr} {u : HO} (h : Ex G H) (hg : Rd G d u) (hn : ¬ Nd u) (hf : Nf u) (mu : Mut (some u)) {Q : VK} (q : ∀ o G' H', Nx G H G' H' → G' d = some (.frz o u) → H' d = some (.frz o u) → Q (.ref d) H') :
    FrzAt (.ref d) H Q := by
  refine ⟨d, u, rfl, ?_⟩
  rcases hg with hg | ⟨o, hg⟩
  · rcases h.rd d u hf (Or.inl hg) with hd | ⟨o, hd⟩
    · exact Or.inl ⟨hd, mu, fun o => q o _ _ (Nx.lock h hg hd hn hf) upd_same upd_same⟩
    · exact Or.inr ⟨o, hd, q o _ _ (Nx.seen h hg hd hn hf) upd_same hd⟩
  · have hd := h.at_ d _ (show Nd (.frz o u) from trivial) hg
    exact Or.inr ⟨o, hd, q o G H (Nx.refl h) hg hd⟩
section
variable {C : Ct} {A : AS} {tg b : Expr} {apos cpos tpos : Pos}
def itsB (kvs : List (Nat × T8)) : List (List Ab) := kvs.map fun p => [Ab.dat (pS [p.1]), Ab.dat (pT p.2)]
theorem bkK_get {kvs : List (Nat × T8)} {i : Nat} : (bkK kvs)[i]? = kvs[i]?.map fun p => (Sum.inr (tx [p.1]), V.str (tx (tt p.2))) := by
  unfold bkK
  rw [List.getElem?_map]
/-- for k, v in book.items() -/
theorem xi_items {elts : List Expr} {kk : Nat} {kvs : List (Nat × T8)} (h : Xd C b A (.book kvs)) (hbase : ∀ env : Env, attributeBase b "items" env (eval b env) = eval b env := by intro _; rfl) (hline : (apos.endLine == cpos.line) = true := by rfl) :
    Xid C (.Tuple elts kk tpos) (.Call (.Attribute b "items" apos) [] [] cpos) A (itsB kvs) := by
  obtain ⟨te, h1, h2⟩ := h
  refine ⟨iItems (tFrz te), fun X hX => pi_items (pe_frz (h1 X hX)) (hbase X.env) hline, fun H0 σ G H x m R q => h2 H0 σ G H x m _ fun v G1 H1 a n1 s1 i1 => ?_⟩
  subst s1
  obtain ⟨d, rfl, hd⟩ := i1
  refine frz_go (u := .dK (bkK kvs)) n1.s hd (fun z => z) trivial trivial fun o G' H' n2 hg hh => ?_
  refine ⟨d, o, _, rfl, hh, q _ G' H' _ (n1.trans n2) rfl (src_pair walk_items (fun H e => e.at_ _ _ (show Nd (.frz o _) from trivial) hg) (by unfold bkK itsB; rw [List.length_map, List.length_map]) fun i v u hlt hx hy => ?_)⟩
  rw [bkK_get] at hx hy
  cases e : kvs[i]? with
  | none =>
    rw [e] at hx
    cases hx
  | some p =>
    rw [e] at hx hy
    cases hx
    cases hy
    exact ⟨_, _, by unfold itsB; rw [List.getElem?_map, e]; rfl, fun G' _ => ⟨mk_str, mk_str⟩⟩
/-- for k in book -/
def itsK (kvs : List (Nat × T8)) : List (List Ab) := kvs.map fun p => [Ab.dat (pS [p.1])]
theorem xi_keys {kvs : List (Nat × T8)} (h : Xd C b A (.book kvs)) : Xid C tg b A (itsK kvs) := by
  obtain ⟨te, h1, h2⟩ := h
  refine ⟨iKeys (tFrz te), fun X hX => pi_keys (pe_frz (h1 X hX)), fun H0 σ G H x m R q => h2 H0 σ G H x m _ fun v G1 H1 a n1 s1 i1 => ?_⟩
  subst s1
  obtain ⟨d, rfl, hd⟩ := i1
  refine frz_go (u := .dK (bkK kvs)) n1.s hd (fun z => z) trivial trivial fun o G' H' n2 hg hh => ?_
  refine ⟨d, o, rfl, Or.inl ⟨_, hh, q _ G' H' _ (n1.trans n2) rfl ⟨_, _, by have w := walk_keys (d := d) (o := o) (kvs := bkK kvs); rw [show (bkK kvs).length = (itsK kvs).length from by unfold bkK itsK; rw [List.length_map, List.length_map]] at w; exact w, fun H e => e.at_ _ _ (show Nd (.frz o _) from trivial) hg, fun i H v H' G1 hlt e1 e2 y => ?_⟩⟩⟩
  obtain ⟨rfl, k, u, hk, rfl⟩ := y
  rw [bkK_get] at hk
  cases e : kvs[i]? with
  | none =>
    rw [e] at hk
    cases hk
  | some p =>
    rw [e] at hk
    cases hk
    exact ⟨G1, [Ab.dat (pS [p.1])], Nx.refl e2, by unfold itsK; rw [List.getElem?_map, e]; rfl, mk_str (x := tx [p.1])⟩
/-- for k in signs -/
def itsP (ps : List Pl) : List (List Ab) := ps.map fun p => [Ab.dat (pP p)]
theorem xi_keysT {kvs : List (Pl × Nat)} (h : Xd C b A (.sgn kvs)) : Xid C tg b A (itsP (kvs.map Prod.fst)) := by
  obtain ⟨te, h1, h2⟩ := h
  refine ⟨iKeys (tFrz te), fun X hX => pi_keys (pe_frz (h1 X hX)), fun H0 σ G H x m R q => h2 H0 σ G H x m _ fun v G1 H1 a n1 s1 i1 => ?_⟩
  subst s1
  obtain ⟨d, rfl, hd⟩ := i1
  refine frz_go (u := .dT _) n1.s hd (fun z => z) trivial trivial fun o G' H' n2 hg hh => ?_
  refine ⟨d, o, rfl, Or.inr ⟨_, hh, q _ G' H' _ (n1.trans n2) rfl ⟨_, _, by have w := walk_keysT (d := d) (o := o) (kvs := kvs.map fun p => ([Sum.inl p.1.1, Sum.inl p.1.2], V.str (tx [p.2]))); rw [show (kvs.map fun p => (([Sum.inl p.1.1, Sum.inl p.1.2] : List Key), V.str (tx [p.2]))).length = (itsP (kvs.map Prod.fst)).length from by unfold itsP; simp] at w; exact w, fun H e => e.at_ _ _ (show Nd (.frz o _) from trivial) hg, fun i H v H' G1 hlt e1 e2 y => ?_⟩⟩⟩
  obtain ⟨rfl, k, u, qa, hk, rfl, hq⟩ := y
  rw [List.getElem?_map] at hk
  cases e : kvs[i]? with
  | none =>
    rw [e] at hk
    cases hk
  | some p =>
    rw [e] at hk
    cases hk
    obtain ⟨G2, n3, hq2⟩ := Nx.tup e2 hq
    refine ⟨G2, [Ab.dat (pP p.1)], n3, by unfold itsP; rw [List.getElem?_map, List.getElem?_map, e]; rfl, ?_⟩
    exact Dp.tup (SqT.of hq2) (.cons (.int _) (.cons (.int _) .nil))
end

/-! ### for, while -/
def UG (C : Ct) (tg : Expr) : TG := fun v σ H Q => ∃ g, (∀ X, C.On X → PG X tg g) ∧ g v σ H Q
theorem pg_UG {C : Ct} {X : Cx} {tg : Expr} (hX : C.On X) : PG X tg (UG C tg) := ⟨fun pins s σ H v u Q I r h => let ⟨_, h1, h2⟩ := h; (h1 X hX).run pins s σ H v u Q I r h2⟩
theorem on_pass {C : Ct} {X : Cx} (hX : C.On X) : PassesOwn (model X.prog X.w) X.A X.env X.xe := by
  rw [hX.xe]
  exact PassesOwn.never
section
variable {C : Ct} {A : AS} {E : AE} {tg iter c : Expr} {body : List Stmt} {pos : Pos}
theorem xq_forS {Sx : List (List Ab) → Prop} (vs : List Nat) (I : List (List Ab) → Nat → AS → Prop) (hs : Xi C tg iter A Sx) (h0 : ∀ its, Sx its → I its 0 A)
    (hb : ∀ its i it A', Sx its → its[i]? = some it → I its i A' → ∃ A'', Xg C tg vs A' it A'' ∧ Xp C body A'' { E with nx := I its (i + 1), ct := I its (i + 1), bk := E.nx }) (hn : ∀ its A', Sx its → I its its.length A' → E.nx A')
    (hf : ∀ env x, foldedSetIterable iter env x = pure x := by intro _ _; rfl) : Xq C (.For tg iter body [] pos) A E := fun D G0 H0 ok σ G H n m => by
  obtain ⟨wi, w1, w2⟩ := hs
  refine ⟨tFor wi (UG C tg) (UU C body), fun X hX => ps_for (on_pass hX) hX.calm (w1 X hX) (pg_UG hX) (pss_UU hX) (hf X.env), w2 H0 σ G H n.s m _ fun J G1 H1 its n1 s1 src => ?_⟩
  obtain ⟨Gd, Y, w, hg, hy⟩ := src.w
  have nb : Nx G0 H0 G1 H1 := n.step n1
  refine for_it w (fun i σ' H' => ∃ G' A', I its i A' ∧ Nx G1 H0 G' H' ∧ M C.K A' H0 σ' G' H') ⟨G1, A, h0 its s1, nb.base, m.up n1⟩ (fun i σ' H' _ ⟨G', A', _, n2, _⟩ => hg H' (n2.g.trans n2.s)) (fun i v σ' H' H2 hlt ⟨G', A', hI, n2, m2⟩ y => ?_) fun σ' H' ⟨G', A', hI, n2, m2⟩ => ok.nx A' σ' G' H' (hn its A' s1 hI) (nb.re n2) m2
  obtain ⟨G2, it, n3, hit, hi⟩ := hy i H' v H2 G' hlt n2.g n2.s y
  obtain ⟨A'', ⟨g, g1, g2⟩, hp⟩ := hb its i it A' s1 hit hI
  refine ⟨g, g1, g2 H0 σ' G2 H2 v n3.s (m2.up n3) hi _ fun σ2 m3 _ => ?_⟩
  refine hp { D with nx := fun σ' H' => ∃ G' A', I its (i + 1) A' ∧ Nx G1 H0 G' H' ∧ M C.K A' H0 σ' G' H', ct := fun σ' H' => ∃ G' A', I its (i + 1) A' ∧ Nx G1 H0 G' H' ∧ M C.K A' H0 σ' G' H', bk := D.nx } G1 H0 ⟨fun A3 σ3 G3 H3 h n4 m4 => ⟨G3, A3, h, n4, m4⟩, fun a v G3 H3 h n4 i4 => ok.rt a v G3 H3 h (nb.re n4) i4, fun A3 σ3 G3 H3 h n4 m4 => ok.nx A3 σ3 G3 H3 h (nb.re n4) m4, fun A3 σ3 G3 H3 h n4 m4 => ⟨G3, A3, h, n4, m4⟩⟩ σ2 G2 H2 (n2.step n3) m3
theorem xq_for {its : List (List Ab)} (vs : List Nat) (I : Nat → AS → Prop) (hs : Xid C tg iter A its) (h0 : I 0 A)
    (hb : ∀ i it A', its[i]? = some it → I i A' → ∃ A'', Xg C tg vs A' it A'' ∧ Xp C body A'' { E with nx := I (i + 1), ct := I (i + 1), bk := E.nx }) (hn : ∀ A', I its.length A' → E.nx A')
    (hf : ∀ env x, foldedSetIterable iter env x = pure x := by intro _ _; rfl) : Xq C (.For tg iter body [] pos) A E :=
  xq_forS (Sx := fun z => z = its) vs (fun _ => I) hs (fun _ _ => h0) (fun z i it A' e hit hI => hb i it A' (by rw [← e]; exact hit) hI) (fun z A' e hI => hn A' (by rw [← e]; exact hI)) hf
theorem xq_while (I : Nat → AS → Prop) {n0 : Nat} (h0 : I n0 A) (hb : ∀ k A', I k A' → ∃ b, Xb C c A' b ∧ (b = true → Xp C body A' { E with nx := fun B => ∃ j, j < k ∧ I j B, ct := fun B => ∃ j, j < k ∧ I j B, bk := E.nx }) ∧ (b = false → E.nx A')) : Xq C (.While c body [] pos) A E := fun D G0 H0 ok σ G H n m => by
  refine ⟨tWhile (UT C c) (UU C body), fun X hX => ps_while (on_pass hX) (pt_UT hX) (pss_UU hX), fun k σ' H' => ∃ G' A', I k A' ∧ Nx G0 H0 G' H' ∧ M C.K A' H0 σ' G' H', ⟨n0, G, A, h0, n, m⟩, fun k σ' H' ⟨G', A', hI, n2, m2⟩ => ?_⟩
  obtain ⟨b, hc, ht, hf⟩ := hb k A' hI
  refine hc.ev H0 σ' G' H' n2.s m2 _ fun b' G1 H1 n3 s3 => ?_
  subst s3
  have n4 := n2.step n3
  have m4 := m2.up n3
  cases b' with
  | true =>
    rw [if_pos rfl]
    refine ⟨fun σ3 H3 => ∃ j, j < k ∧ ∃ G3 A3, I j A3 ∧ Nx G0 H0 G3 H3 ∧ M C.K A3 H0 σ3 G3 H3, fun σ3 H3 h => h, ?_⟩
    exact ht rfl { D with nx := fun σ3 H3 => ∃ j, j < k ∧ ∃ G3 A3, I j A3 ∧ Nx G0 H0 G3 H3 ∧ M C.K A3 H0 σ3 G3 H3, ct := fun σ3 H3 => ∃ j, j < k ∧ ∃ G3 A3, I j A3 ∧ Nx G0 H0 G3 H3 ∧ M C.K A3 H0 σ3 G3 H3, bk := D.nx } G0 H0 ⟨fun A3 σ3 G3 H3 ⟨j, hj, h⟩ n4 m4 => ⟨j, hj, G3, A3, h, n4, m4⟩, ok.rt, ok.nx, fun A3 σ3 G3 H3 ⟨j, hj, h⟩ n4 m4 => ⟨j, hj, G3, A3, h, n4, m4⟩⟩ σ' G1 H1 n4 m4
  | false =>
    rw [if_neg (by decide)]
    exact ok.nx A' σ' G1 H1 (hf rfl) n4 m4
end

/-! ### comprehensions -/
def Xts (C : Ct) (ifs : List Expr) (A : AS) (b : Bool) : Prop := ∃ t, (∀ X, C.On X → PTs X ifs t) ∧ EvT C.K t A (fun c => c = b)
def UTs (C : Ct) (ifs : List Expr) : TT := fun σ H Q => ∃ t, (∀ X, C.On X → PTs X ifs t) ∧ t σ H Q
theorem pts_U {C : Ct} {X : Cx} {ifs : List Expr} (hX : C.On X) : PTs X ifs (UTs C ifs) := ⟨fun pins s σ H Q I h => let ⟨_, h1, h2⟩ := h; (h1 X hX).run pins s σ H Q I h2⟩
theorem xts_nil {C : Ct} {A : AS} : Xts C [] A true := ⟨tYes, fun _ _ => pts_nil, fun H0 σ G H x m Q q => q true G H (Nx.refl x) rfl⟩
theorem xts_one {C : Ct} {A : AS} {c : Expr} {b : Bool} (h : Xb C c A b) : Xts C [c] A b := let ⟨t, h1, h2⟩ := h; ⟨t, fun X hX => pts_one (h1 X hX), h2⟩
theorem wipe_wipe (σ : L2.St) (vs : List Nat) : wipe (wipe σ vs) vs = wipe σ vs := by
  have key : ∀ (ws us : List Nat) (τ : L2.St), (∀ i ∈ us, i ∈ ws) → wipe (wipe τ us) ws = wipe τ ws := by
    intro ws us
    induction us with
    | nil => intro τ _; rfl
    | cons u us ih =>
      intro τ h
      show wipe ((wipe τ us).set u none) ws = _
      rw [wipe_set (h u List.mem_cons_self)]
      exact ih τ fun i hi => h i (List.mem_cons_of_mem _ hi)
  exact key vs vs σ fun i hi => hi
def offs (A : AS) (vs : List Nat) : Prop := ∀ i ∈ vs, A.off i
theorem offs_none {ts : List (Option Ab)} {vs : List Nat} : offs ⟨ts, none⟩ vs := fun i _ j o h => by cases h
theorem wipes_ow {A : AS} (vs : List Nat) : (wipes A vs).ow = A.ow := rfl
theorem M.wipes {K : PySem.W.Frag} {A : AS} {H0 G H : Hp} {σ : L2.St} : ∀ {vs : List Nat}, M K A H0 σ G H → offs A vs → M K (Oh.wipes A vs) H0 (wipe σ vs) G H
  | [], m, _ => m
  | v :: vs, m, h => (M.wipes m fun i hi => h i (List.mem_cons_of_mem _ hi)).wip (show AS.off (Oh.wipes A vs) v from h v List.mem_cons_self) none
section
variable {C : Ct} {A : AS} {elt tg iter : Expr} {ifs : List Expr} {scope : Scope} {pos : Pos}
/-- a comprehension, not yet placed -/
def Xlc (C : Ct) (elt tg iter : Expr) (ifs : List Expr) (scope : Scope) (A : AS) (S : Ow → Prop) : Prop := ∃ (wi : TI) (own : List (Str × Nat)), (∀ X, C.On X → PI X tg iter wi) ∧ blkC C.N C.sc scope own = true ∧ (∀ env x, foldedSetIterable iter env x = pure x) ∧ EvO C.K (tLc wi (UG (C.blk scope) tg) (UTs (C.blk scope) ifs) (UE (C.blk scope) elt) (own.map (·.2))) A S
theorem Xlc.xo {S : Ow → Prop} (h : Xlc C elt tg iter ifs scope A S) : Xo C (.ListComp elt [⟨tg, iter, ifs, 0⟩] scope pos) A S := by
  obtain ⟨wi, own, w1, hblk, hf, h2⟩ := h
  exact ⟨_, fun X hX => pe_lc hX.calm hX.nd (w1 X hX) (by rw [hX.N, hX.sc]; exact blkOk_by hblk) (fun s H Cc cl fp => pg_UG (hX.blk scope s H Cc cl fp)) (fun s H Cc cl fp => pts_U (hX.blk scope s H Cc cl fp)) (fun s H Cc cl fp => pe_UE (hX.blk scope s H Cc cl fp)) (hf X.env), h2⟩
theorem Xlc.imp {S S' : Ow → Prop} (h : Xlc C elt tg iter ifs scope A S) (k : ∀ o, S o → S' o) : Xlc C elt tg iter ifs scope A S' := by
  obtain ⟨wi, own, w1, hblk, hf, h2⟩ := h
  exact ⟨wi, own, w1, hblk, hf, fun H0 σ G H x m Q q => h2 H0 σ G H x m Q fun p G' H' o n a b s => q p G' H' o n a b (k o s)⟩
/-- name = [..] on one line -/
theorem xq_lc {S : Ow → Prop} {E : AE} {y : Str} {py spos : Pos} (i : Nat) (h : Xlc C elt tg iter ifs scope A S) (k : ∀ o, S o → E.nx (A.own i o)) (hN : C.N[i]? = some y := by rfl) (hx : locO C.sc y = true := by (try dsimp only [Ct.blk]); decide +kernel) (hk : kindB C.sc = true := by (try dsimp only [Ct.blk]); rfl) (hl : (py.line == pos.line) = true := by rfl)
    (ha : (scope.names.any fun (n, k) => n == y && (k == .local || k == .cell)) = false := by decide +kernel) (hi : i < A.ts.length := by exact Nat.le_of_ble_eq_true rfl) : Xq C (.Assign [.Name y py] (.ListComp elt [⟨tg, iter, ifs, 0⟩] scope pos) spos) A E := fun D G0 H0 ok σ G H n m => by
  obtain ⟨wi, own, w1, hblk, hf, h2⟩ := h
  refine ⟨tAsg _ (gName i), fun X hX => ps_setLc hX.calm hX.nd (by rw [hX.N]; exact hN) (by rw [hX.sc]; exact locO_ok hx) (sw_true (by rw [hX.sc]; exact kindB_ok hk) (by rw [hX.sc]; exact locO_ok hx) hl ha) (w1 X hX) (by rw [hX.N, hX.sc]; exact blkOk_by hblk) (fun s H Cc cl fp => pg_UG (hX.blk scope s H Cc cl fp)) (fun s H Cc cl fp => pts_U (hX.blk scope s H Cc cl fp)) (fun s H Cc cl fp => pe_UE (hX.blk scope s H Cc cl fp)) (hf X.env), ?_⟩
  exact h2 H0 σ G H n.s m _ fun p G' H' o n' h0 hg s ho => let ⟨n2, h3, ho2⟩ := stepO n n' h0 ho; ok.nx _ _ G' H' (k o s) n2 ((m.up n').owns hi h3 hg ho2)
theorem xl_lcS {Sx : List (List Ab) → Prop} (own : List (Str × Nat)) (T : List (List Ab) → Nat → List PyData → Prop) (hs : Xi C tg iter A Sx) (h0 : ∀ its, Sx its → T its 0 [] ∧ its.length ≤ 100000)
    (hb : ∀ its i it ds, Sx its → its[i]? = some it → T its i ds → ∃ A2 b, Xg (C.blk scope) tg (own.map (·.2)) (wipes A (own.map (·.2))) it A2 ∧ Xts (C.blk scope) ifs A2 b ∧ (b = true → Xe (C.blk scope) elt A2 (fun a => ∃ d, a = .dat d ∧ T its (i + 1) (ds ++ [d]))) ∧ (b = false → T its (i + 1) ds))
    (hblk : blkC C.N C.sc scope own = true := by (try dsimp only [Ct.blk]); decide +kernel) (hoff : offs A (own.map (·.2)) := by exact offs_none) (hf : ∀ env x, foldedSetIterable iter env x = pure x := by intro _ _; rfl) :
    Xlc C elt tg iter ifs scope A (fun o => ∃ its ds, Sx its ∧ o = .ol ds ∧ T its its.length ds) := by
  obtain ⟨wi, w1, w2⟩ := hs
  refine ⟨wi, own, w1, hblk, hf,
    fun H0 σ G H x m Q q => w2 H0 σ G H x m _ fun J G1 H1 its n1 s1 src D hD => ?_⟩
  obtain ⟨Gd, Y, w, hg, hy⟩ := src.w
  refine lc_it w (fun i H' => ∃ G' vs ds, Nx G1 H1 G' H' ∧ G' D = none ∧ H' D = some (.lst vs) ∧ DpAll C.K G' vs ds ∧ ds.length ≤ i ∧ T its i ds) ⟨G1, [], [], Nx.hid n1.s hD, n1.s.back hD, upd_same, .nil, Nat.le_refl _, (h0 its s1).1⟩
    (fun i H' _ ⟨G', vs, ds, n2, _⟩ => hg H' (n2.g.trans n2.s)) (fun i v H' H2 hlt ⟨G', vs, ds, n2, gD, hD', hd, hle, hT⟩ y => ?_) fun H' ⟨G', vs, ds, n2, gD, hD', hd, hle, hT⟩ => q D G' H' _ (n1.trans n2) (n1.e.dom D hD) gD ⟨its, ds, s1, rfl, hT⟩ ⟨vs, hD', hd⟩
  obtain ⟨G2, it, n3, hit, hi⟩ := hy i H' v H2 G' hlt n2.g n2.s y
  obtain ⟨A2, b, ⟨g, g1, g2⟩, ⟨t, t1, t2⟩, he, hfl⟩ := hb its i it ds s1 hit hT
  obtain ⟨gD2, hD2⟩ := n3.n D _ (by exact trivial) gD hD'
  have m2 := ((m.up n1).up ⟨n2.e.trans n3.e, n2.g.trans n3.g, n3.s, fun b o hp h1 h2 => let ⟨k1, k2⟩ := n2.n b o hp h1 h2; n3.n b o hp k1 k2⟩ : M C.K A H0 σ G2 H2).wipes hoff
  refine ⟨g, g1, g2 H0 _ G2 H2 v n3.s m2 hi _ fun σ2 m3 hw => ⟨by rw [hw, wipe_wipe], t, t1, t2 H0 σ2 G2 H2 n3.s m3 _ fun b' G3 H3 n4 s4 => ?_⟩⟩
  subst s4
  obtain ⟨gD3, hD3⟩ := n4.n D _ (by exact trivial) gD2 hD2
  cases b' with
  | true =>
    rw [if_pos rfl]
    refine (he rfl).ev H0 σ2 G3 H3 n4.s (m3.up n4) _ fun u G4 H4 a n5 s5 i5 => ?_
    obtain ⟨d, rfl, hT'⟩ := s5
    obtain ⟨gD4, hD4⟩ := n5.n D _ (by exact trivial) gD3 hD3
    refine ⟨vs, hD4, ?_, G4, vs ++ [u], ds ++ [d], (((n2.trans n3).trans n4).trans n5).mut hD gD4, gD4, upd_same, dps_app (((n3.g.trans n4.g).trans n5.g).dps hd) (dps_one i5), ?_, hT'⟩
    · rw [dps_len hd]
      have := (h0 its s1).2
      exact small_lt (by omega)
    · rw [List.length_append, List.length_singleton]
      omega
  | false =>
    rw [if_neg (by decide)]
    exact ⟨G3, vs, ds, (n2.trans n3).trans n4, gD3, hD3, (n3.g.trans n4.g).dps hd, by omega, hfl rfl⟩
theorem xo_lcS {Sx : List (List Ab) → Prop} (own : List (Str × Nat)) (T : List (List Ab) → Nat → List PyData → Prop) (hs : Xi C tg iter A Sx) (h0 : ∀ its, Sx its → T its 0 [] ∧ its.length ≤ 100000)
    (hb : ∀ its i it ds, Sx its → its[i]? = some it → T its i ds → ∃ A2 b, Xg (C.blk scope) tg (own.map (·.2)) (wipes A (own.map (·.2))) it A2 ∧ Xts (C.blk scope) ifs A2 b ∧ (b = true → Xe (C.blk scope) elt A2 (fun a => ∃ d, a = .dat d ∧ T its (i + 1) (ds ++ [d]))) ∧ (b = false → T its (i + 1) ds))
    (hblk : blkC C.N C.sc scope own = true := by (try dsimp only [Ct.blk]); decide +kernel) (hoff : offs A (own.map (·.2)) := by exact offs_none) (hf : ∀ env x, foldedSetIterable iter env x = pure x := by intro _ _; rfl) :
    Xo C (.ListComp elt [⟨tg, iter, ifs, 0⟩] scope pos) A (fun o => ∃ its ds, Sx its ∧ o = .ol ds ∧ T its its.length ds) := (xl_lcS own T hs h0 hb hblk hoff hf).xo
theorem map_get {α β : Type} {f : α → β} {l : List α} {i : Nat} {b : β} (h : (l.map f)[i]? = some b) : ∃ a, l[i]? = some a ∧ a ∈ l ∧ b = f a := by
  rw [List.getElem?_map] at h
  cases e : l[i]? with
  | none =>
    rw [e] at h
    cases h
  | some a =>
    rw [e] at h
    cases h
    exact ⟨a, rfl, List.mem_of_getElem? e, rfl⟩
/-- what is given stays sure: filter and map -/
theorem xl_lc {α : Type} (l : List α) (f : α → List Ab) (p : α → Bool) (g : α → PyData) (own : List (Str × Nat)) (hs : Xid C tg iter A (l.map f)) (hl : l.length ≤ 100000)
    (hb : ∀ a ∈ l, ∃ A2, Xg (C.blk scope) tg (own.map (·.2)) (wipes A (own.map (·.2))) (f a) A2 ∧ Xts (C.blk scope) ifs A2 (p a) ∧ (p a = true → Xd (C.blk scope) elt A2 (.dat (g a))))
    (hblk : blkC C.N C.sc scope own = true := by (try dsimp only [Ct.blk]); decide +kernel) (hoff : offs A (own.map (·.2)) := by exact offs_none) (hf : ∀ env x, foldedSetIterable iter env x = pure x := by intro _ _; rfl) :
    Xlc C elt tg iter ifs scope A (fun o => o = .ol ((l.filter p).map g)) := by
  refine (xl_lcS own (fun _ i ds => ds = ((l.take i).filter p).map g) hs (fun its e => ⟨by simp, by rw [e, List.length_map]; exact hl⟩) (fun its i it ds e hit hT => ?_) hblk hoff hf).imp fun o ⟨its, ds, e, ho, hT⟩ => ?_
  · rw [e] at hit
    obtain ⟨a, ha, hm, rfl⟩ := map_get hit
    obtain ⟨A2, h1, h2, h3⟩ := hb a hm
    have ht : l.take (i + 1) = l.take i ++ [a] := by
      rw [List.take_add_one, ha]
      rfl
    refine ⟨A2, p a, h1, h2, fun hp => (h3 hp).imp fun z hz => ⟨g a, hz, ?_⟩, fun hp => ?_⟩
    · rw [ht, hT, List.filter_append, List.map_append]
      simp [hp]
    · rw [ht, hT, List.filter_append, List.map_append]
      simp [hp]
  · rw [ho, hT, e, List.length_map, List.take_length]
theorem xo_lc {α : Type} (l : List α) (f : α → List Ab) (p : α → Bool) (g : α → PyData) (own : List (Str × Nat)) (hs : Xid C tg iter A (l.map f)) (hl : l.length ≤ 100000)
    (hb : ∀ a ∈ l, ∃ A2, Xg (C.blk scope) tg (own.map (·.2)) (wipes A (own.map (·.2))) (f a) A2 ∧ Xts (C.blk scope) ifs A2 (p a) ∧ (p a = true → Xd (C.blk scope) elt A2 (.dat (g a))))
    (hblk : blkC C.N C.sc scope own = true := by (try dsimp only [Ct.blk]); decide +kernel) (hoff : offs A (own.map (·.2)) := by exact offs_none) (hf : ∀ env x, foldedSetIterable iter env x = pure x := by intro _ _; rfl) :
    Xo C (.ListComp elt [⟨tg, iter, ifs, 0⟩] scope pos) A (fun o => o = .ol ((l.filter p).map g)) := (xl_lc l f p g own hs hl hb hblk hoff hf).xo
theorem take_app {α : Type} {l : List α} {i : Nat} {a : α} (h : l[i]? = some a) : l.take (i + 1) = l.take i ++ [a] := by
  rw [List.take_add_one, h]
  rfl
theorem M.upG {K : PySem.W.Frag} {A : AS} {H0 G G' H H' : Hp} {σ : L2.St} (m : M K A H0 σ G H) (ho : A.ow = none) (e : Ex G G') : M K A H0 σ G' H' := ⟨m.len, fun i a h => let ⟨v, h1, h2⟩ := m.at_ i a h; ⟨v, h1, is_up e h2⟩, by rw [ho]; exact trivial⟩
theorem it_go {J : It} {n : Nat} {G : Hp → Prop} {Y : Nat → Hp → V → Hp → Prop} (w : Walk J n G Y) {H0 : Hp} {Fin : Hp → Prop} {B : Nat → V → Hp → (Hp → Prop) → Prop} (Pv : Nat → Hp → Prop) (h0 : Pv 0 H0) (hG : ∀ i H, i ≤ n → Pv i H → G H)
    (hs : ∀ i x H H', i < n → Pv i H → Y i H x H' → B i x H' (Pv (i + 1))) (hd : ∀ H, Pv n H → Fin H) :
    ∃ W : Nat → Nat → Hp → Prop, (∃ m, W 0 m H0) ∧ ∀ i m H, W i m H → (J.stop i H ∧ Fin H) ∨ (J.go i H ∧ ∃ Nx : Hp → Prop, (∀ H', Nx H' → ∃ m', m' < m ∧ W (i + 1) m' H') ∧ ∀ x H', J.yld i H x H' → B i x H' Nx) := by
  refine ⟨fun i m H => m = n - i ∧ i ≤ n ∧ Pv i H, ⟨n, by simp, Nat.zero_le _, h0⟩, ?_⟩
  rintro i m H ⟨rfl, hi, p⟩
  have q := hG i H hi p
  by_cases hlt : i < n
  · exact .inr ⟨w.goes i H hlt q, Pv (i + 1), fun H' p' => ⟨n - (i + 1), by omega, rfl, hlt, p'⟩, fun x H' y => hs i x H H' hlt p (w.yields i H x H' hlt q y)⟩
  · have e : i = n := by omega
    subst e
    exact .inl ⟨w.stops H q, hd H p⟩
/-- two clauses, no tests -/
theorem xo_lc2 {tg1 iter1 : Expr} {α β : Type} (l1 : List α) (f1 : α → List Ab) (l2 : List β) (f2 : β → List Ab) (g : α → β → PyData) (own : List (Str × Nat)) (vs1 : List Nat) (hs : Xid C tg iter A (l1.map f1)) (hl : l1.length * l2.length ≤ 100000)
    (hb : ∀ a ∈ l1, ∃ A2, Xg (C.blk scope) tg (own.map (·.2)) (wipes A (own.map (·.2))) (f1 a) A2 ∧ Xid (C.blk scope) tg1 iter1 A2 (l2.map f2) ∧ A2.ow = none ∧ ∀ b ∈ l2, ∃ A3, Xg (C.blk scope) tg1 vs1 (wipes A2 vs1) (f2 b) A3 ∧ Xd (C.blk scope) elt A3 (.dat (g a b)))
    (hblk : blkC C.N C.sc scope own = true := by (try dsimp only [Ct.blk]); decide +kernel) (hv : ∀ i ∈ vs1, i ∈ own.map (·.2) := by decide) (hoff : offs A (own.map (·.2)) := by exact offs_none) (hf : ∀ env x, foldedSetIterable iter env x = pure x := by intro _ _; rfl) (hf1 : ∀ env x, foldedSetIterable iter1 env x = pure x := by intro _ _; rfl) :
    Xo C (.ListComp elt [⟨tg, iter, [], 0⟩, ⟨tg1, iter1, [], 0⟩] scope pos) A (fun o => o = .ol ((l1.map fun a => l2.map fun b => g a b).flatten)) := by
  obtain ⟨wi, w1, w2⟩ := hs
  refine ⟨tLc2 wi (UG (C.blk scope) tg) tYes (fun σ H R => ∃ w, (∀ X, (C.blk scope).On X → PI X tg1 iter1 w) ∧ w σ H R) (UG (C.blk scope) tg1) tYes (UE (C.blk scope) elt) (own.map (·.2)) vs1, fun X hX => pe_lc2 hX.calm hX.nd (w1 X hX) (by rw [hX.N, hX.sc]; exact blkOk_by hblk) hv (fun s H Cc cl fp => pg_UG (hX.blk scope s H Cc cl fp)) (fun _ _ _ _ _ => pts_nil)
      (fun s H Cc cl fp => ⟨fun pins s' σ' H' R I h => let ⟨w, h1, h2⟩ := h; (h1 _ (hX.blk scope s H Cc cl fp)).run pins s' σ' H' R I h2⟩) (fun s H Cc cl fp => pg_UG (hX.blk scope s H Cc cl fp)) (fun _ _ _ _ _ => pts_nil) (fun s H Cc cl fp => pe_UE (hX.blk scope s H Cc cl fp)) (hf X.env) hf1,
    fun H0 σ G H x m Q q => w2 H0 σ G H x m _ fun J G1 H1 its n1 s1 src D hD => ?_⟩
  subst s1
  obtain ⟨Gd, Y, w, hg, hy⟩ := src.w
  rw [List.length_map] at w hy
  let acc := fun (i : Nat) => ((l1.take i).map fun a => l2.map fun b => g a b).flatten
  have hacc : ∀ i, i ≤ l1.length → (acc i).length = i * l2.length := by
    intro i
    induction i with
    | zero => intro _; simp [acc]
    | succ i ih =>
      intro hi
      have hi' : i < l1.length := hi
      show ((l1.take (i + 1)).map _).flatten.length = _
      rw [take_app (List.getElem?_eq_getElem hi'), List.map_append, List.flatten_append, List.length_append]
      have := ih (by omega)
      show (acc i).length + _ = _
      rw [this]
      simp [Nat.succ_mul]
  refine it_go w (fun i H' => ∃ G' vs, Nx G1 H1 G' H' ∧ G' D = none ∧ H' D = some (.lst vs) ∧ DpAll C.K G' vs (acc i)) ⟨G1, [], Nx.hid n1.s hD, n1.s.back hD, upd_same, .nil⟩
    (fun i H' _ ⟨G', vs, n2, _⟩ => hg H' (n2.g.trans n2.s)) (fun i v H' H2 hlt ⟨G', vs, n2, gD, hD', hd⟩ y => ?_) fun H' ⟨G', vs, n2, gD, hD', hd⟩ => q D G' H' _ (n1.trans n2) (n1.e.dom D hD) gD rfl ⟨vs, hD', by
      show DpAll C.K G' vs ((l1.map fun a => l2.map fun b => g a b).flatten)
      have : acc l1.length = (l1.map fun a => l2.map fun b => g a b).flatten := by show ((l1.take l1.length).map _).flatten = _; rw [List.take_length]
      rw [← this]
      exact hd⟩
  obtain ⟨G2, it, n3, hit, hi⟩ := hy i H' v H2 G' hlt n2.g n2.s y
  obtain ⟨a, ha, hm, rfl⟩ := map_get hit
  obtain ⟨A2, ⟨gg, g1, g2⟩, ⟨wi1, v1, v2⟩, hoff1, hin⟩ := hb a hm
  obtain ⟨gD2, hD2⟩ := n3.n D _ (by exact trivial) gD hD'
  have m2 := ((m.up n1).up (n2.trans n3)).wipes hoff
  refine ⟨gg, g1, g2 H0 _ G2 H2 v n3.s m2 hi _ fun σ2 m3 hw => ⟨by rw [hw, wipe_wipe], ?_⟩⟩
  unfold tYes
  simp only [if_true]
  refine ⟨wi1, v1, v2 H0 σ2 G2 H2 n3.s m3 _ fun J1 G3 H3 its1 n4 s4 src1 => ?_⟩
  subst s4
  obtain ⟨Gd1, Y1, w1', hg1, hy1⟩ := src1.w
  rw [List.length_map] at w1' hy1
  obtain ⟨gD3, hD3⟩ := n4.n D _ (by exact trivial) gD2 hD2
  refine it_go w1' (fun j H' => ∃ G' vs, Nx G3 H1 G' H' ∧ Nx G1 H1 G' H' ∧ G' D = none ∧ H' D = some (.lst vs) ∧ DpAll C.K G' vs (acc i ++ (l2.take j).map fun b => g a b)) ⟨G3, vs, Nx.base ((n2.trans n3).trans n4), (n2.trans n3).trans n4, gD3, hD3, by simpa using (n3.g.trans n4.g).dps hd⟩
    (fun j H' _ ⟨G', vs, n5, _⟩ => hg1 H' (n5.g.trans n5.s)) (fun j u H' H5 hlt1 ⟨G', vs, n5, n51, gD5, hD5, hd5⟩ y1 => ?_) fun H' ⟨G', vs, n5, n51, gD5, hD5, hd5⟩ => ⟨G', vs, n51, gD5, hD5, by
      show DpAll C.K G' vs ((l1.take (i + 1)).map _).flatten
      rw [take_app ha, List.map_append, List.flatten_append]
      rw [List.take_length] at hd5
      simpa [acc] using hd5⟩
  obtain ⟨G6, it1, n6, hit1, hi1⟩ := hy1 j H' u H5 G' hlt1 n5.g n5.s y1
  obtain ⟨b, hb1, hmb, rfl⟩ := map_get hit1
  obtain ⟨A3, ⟨gh, k1, k2⟩, he⟩ := hin b hmb
  obtain ⟨gD6, hD6⟩ := n6.n D _ (by exact trivial) gD5 hD5
  have m5 := (m3.upG (H' := H5) hoff1 ((n4.g.trans n5.g).trans n6.g)).wipes (vs := vs1) (fun i _ j o h => by rw [hoff1] at h; cases h)
  refine ⟨gh, k1, k2 H0 _ G6 H5 u n6.s m5 hi1 _ fun σ3 m6 hw1 => ⟨by rw [hw1, wipe_wipe], ?_⟩⟩
  refine Xe.ev (C := C.blk scope) (e := elt) he H0 σ3 G6 H5 n6.s m6 _ fun z G7 H7 c n7 s7 i7 => ?_
  subst s7
  obtain ⟨gD7, hD7⟩ := n7.n D _ (by exact trivial) gD6 hD6
  refine ⟨vs, hD7, ?_, G7, vs ++ [z], ?_, ((n51.trans n6).trans n7).mut hD gD7, gD7, upd_same, ?_⟩
  · rw [dps_len hd5, List.length_append, hacc i (Nat.le_of_lt hlt), List.length_map, List.length_take]
    have h1 : i * l2.length + l2.length ≤ l1.length * l2.length := by
      rw [← Nat.succ_mul]
      exact Nat.mul_le_mul_right _ hlt
    exact small_lt (by omega)
  · exact (Nx.step (Nx.step n5 n6) n7).mut hD gD7
  · rw [take_app hb1, List.map_append, ← List.append_assoc]
    exact dps_app ((n6.g.trans n7.g).dps hd5) (dps_one i7)
end
end Oh
set_option maxHeartbeats 4000000
/-! OhG: own lists and dicts filled, the source of the draws. -/
namespace Oh
open PySem L2 PySem.Spec PyProof.Rows

/-! ### own lists -/
def AS.ows (A : AS) (o : Ow) : AS := match A.ow with
  | some (i, _) => ⟨A.ts, some (i, o)⟩
  | none => A
theorem M.reown {K : PySem.W.Frag} {A : AS} {H0 G H H' : Hp} {σ : L2.St} {i : Nat} {o o' : Ow} {p : Addr} (m : M K A H0 σ G H) (how : A.ow = some (i, o)) (hp : σ[i]? = some (some (.ref p))) (h0 : H0 p = none) (hg : G p = none) (ho : OwIs K H0 G H' p o') : M K (A.ows o') H0 σ G H' := by
  unfold AS.ows
  rw [how]
  exact ⟨m.len, m.at_, p, hp, h0, hg, ho⟩
section
variable {C : Ct} {A : AS} {E : AE} {S : Ab → Prop} {e a b o : Expr} {pos p apos cpos tpos spos : Pos} {x k : Str} {ds : List PyData}
theorem xd_ownIx (i : Nat) {j : Int} {d : PyData} (how : A.ow = some (i, .ol ds)) (hb : Xd C b A (.dat (.int j))) (hd : atI ds j = some d) (hN : C.N[i]? = some x := by rfl) (hv : visB C.sc x = true := by (try dsimp only [Ct.blk]); decide +kernel) (hdb : (x == ("__debug__" : Str)) = false := by decide +kernel) (hcd : (x == ("__classdict__" : Str)) = false := by decide +kernel)
    (hs : PlainIx b := by exact fun _ _ => rfl) : Xd C (.Subscript (.Name x p) b pos) A (.dat d) := by
  obtain ⟨tb, b1, b2⟩ := hb
  refine ⟨tOp (rIxL C.K) (tVar i) tb, fun X hX => pe_ix (on_ixL X hX) (pe_var (by rw [hX.N]; exact hN) (hX.vis hv) hdb hcd) (b1 X hX) hs, fun H0 σ G H x m Q q => ?_⟩
  have mo := m.own
  rw [how] at mo
  obtain ⟨pa, h1, h2, h3, vs, h4, h5⟩ := mo
  refine ⟨.ref pa, h1, b2 H0 σ G H x m _ fun v G1 H1 z n1 s1 i1 => ?_⟩
  subst s1
  obtain ⟨g4, h4'⟩ := n1.n pa _ (by exact trivial) h3 h4
  obtain ⟨u, e1, e2⟩ := atI_dps h5 hd
  exact ⟨pa, vs, j, u, rfl, is_int i1, SqL.of h4', e1, q u G1 H1 _ n1 rfl (n1.g.dp e2)⟩
theorem ty_lst {K : PySem.W.Frag} {H : Hp} {p : Addr} {vs : List V} (h : H p = some (.lst vs)) : tyV K "list" (.ref p) H := Or.inl ⟨rfl, vs, SqL.of h⟩
theorem few1 {cpos : Pos} {env : Env} {e : Expr} (h : isStar e = false) : ((backTo cpos (starEach [e] env)).all (fun x => !x.1) && (backToKw cpos (keywordEach [] env)).all (fun x => x.1.isSome)
      && decide (([e] : List Expr).length + ([] : List Keyword).length + (if ([] : List Keyword).isEmpty then 0 else 1) < 30)) = true := by
  rw [star_one h]
  rfl
/-- found.append(e) -/
theorem xq_append (i : Nat) (how : A.ow = some (i, .ol ds)) (he : Xe C e A S) (k : ∀ a, S a → ∃ d, a = .dat d ∧ E.nx (A.ows (.ol (ds ++ [d])))) (hl : ds.length < 100000) (hN : C.N[i]? = some x := by rfl) (hv : visB C.sc x = true := by (try dsimp only [Ct.blk]); decide +kernel) (hst : isStar e = false := by rfl)
    (hdb : (x == ("__debug__" : Str)) = false := by decide +kernel) (hcd : (x == ("__classdict__" : Str)) = false := by decide +kernel) (hline : (apos.endLine == cpos.line) = true := by rfl) (hbase : ∀ env : Env, attributeBase (.Name x p) "append" env (eval (.Name x p) env) = eval (.Name x p) env := by intro _; rfl)
    (hs : ∀ env : Env, swapsWith (.Call (.Attribute (.Name x p) "append" apos) [e] [] cpos) none spos.line env = pure false := by intro _; rfl) : Xq C (.Expr (.Call (.Attribute (.Name x p) "append" apos) [e] [] cpos) spos) A E := fun D G0 H0 ok σ G H n m => by
  obtain ⟨t, a1, a2⟩ := xa_cons (S2 := fun as => ∃ a, S a ∧ as = [a]) he xa_nil (fun c cs k1 k2 => ⟨c, k1, by rw [k2]⟩) hst
  refine ⟨tDrop (tBM C.K "list" rAppend (tVar i) t), fun X hX => ps_expr (by
    have z := pe_bm (apos := apos) (cpos := cpos) F.plainAttrs_list F.slot_list_append F.type_list_append mt_append (pe_var (pos := p) (by rw [hX.N]; exact hN) (hX.vis hv) hdb hcd) (a1 X hX) (hbase X.env) (few1 hst) hline (star_one hst) (backTo_any rfl)
    rw [hX.K] at z
    exact z) (hs X.env), ?_⟩
  have mo := m.own
  rw [how] at mo
  obtain ⟨pa, h1, h2, h3, vs, h4, h5⟩ := mo
  refine ⟨.ref pa, h1, ty_lst h4, a2 H0 σ G H n.s m _ fun us G1 H1 as n1 s1 i1 => ?_⟩
  obtain ⟨a, ha, rfl⟩ := s1
  obtain ⟨d, rfl, hk⟩ := k a ha
  obtain ⟨u, rfl, iu⟩ := isA_one i1
  obtain ⟨g4, h4'⟩ := n1.n pa _ (by exact trivial) h3 h4
  refine ⟨pa, vs, u, rfl, rfl, h4', small_lt (by rw [dps_len h5]; exact hl), ?_⟩
  exact ok.nx _ σ G1 _ hk ((n.step n1).mut h2 g4) ((m.up n1).reown how h1 h2 g4 ⟨vs ++ [u], upd_same, dps_app (n1.g.dps h5) (dps_one iu)⟩)
theorem xq_appendD (i : Nat) {d : PyData} (how : A.ow = some (i, .ol ds)) (he : Xd C e A (.dat d)) (k : E.nx (A.ows (.ol (ds ++ [d])))) (hl : ds.length < 100000) (hN : C.N[i]? = some x := by rfl) (hv : visB C.sc x = true := by (try dsimp only [Ct.blk]); decide +kernel) (hst : isStar e = false := by rfl)
    (hdb : (x == ("__debug__" : Str)) = false := by decide +kernel) (hcd : (x == ("__classdict__" : Str)) = false := by decide +kernel) (hline : (apos.endLine == cpos.line) = true := by rfl) (hbase : ∀ env : Env, attributeBase (.Name x p) "append" env (eval (.Name x p) env) = eval (.Name x p) env := by intro _; rfl)
    (hs : ∀ env : Env, swapsWith (.Call (.Attribute (.Name x p) "append" apos) [e] [] cpos) none spos.line env = pure false := by intro _; rfl) : Xq C (.Expr (.Call (.Attribute (.Name x p) "append" apos) [e] [] cpos) spos) A E :=
  xq_append i how he (fun a e => ⟨d, e, k⟩) hl hN hv hst hdb hcd hline hbase hs
/-- found.extend(a new list) -/
theorem xq_extend (i : Nat) {es : List PyData} (how : A.ow = some (i, .ol ds)) (he : Xd C e A (.nl es)) (k : E.nx (A.ows (.ol (ds ++ es)))) (hl : ds.length + es.length ≤ 100000) (hN : C.N[i]? = some x := by rfl) (hv : visB C.sc x = true := by (try dsimp only [Ct.blk]); decide +kernel) (hst : isStar e = false := by rfl)
    (hdb : (x == ("__debug__" : Str)) = false := by decide +kernel) (hcd : (x == ("__classdict__" : Str)) = false := by decide +kernel) (hline : (apos.endLine == cpos.line) = true := by rfl) (hbase : ∀ env : Env, attributeBase (.Name x p) "extend" env (eval (.Name x p) env) = eval (.Name x p) env := by intro _; rfl)
    (hs : ∀ env : Env, swapsWith (.Call (.Attribute (.Name x p) "extend" apos) [e] [] cpos) none spos.line env = pure false := by intro _; rfl) : Xq C (.Expr (.Call (.Attribute (.Name x p) "extend" apos) [e] [] cpos) spos) A E := fun D G0 H0 ok σ G H n m => by
  obtain ⟨t, a1, a2⟩ := xs_cons he xs_nil hst
  refine ⟨tDrop (tBM C.K "list" rExtend (tVar i) t), fun X hX => ps_expr (by
    have z := pe_bm (apos := apos) (cpos := cpos) F.plainAttrs_list F.slot_list_extend F.type_list_extend mt_extend (pe_var (pos := p) (by rw [hX.N]; exact hN) (hX.vis hv) hdb hcd) (a1 X hX) (hbase X.env) (few1 hst) hline (star_one hst) (backTo_any rfl)
    rw [hX.K] at z
    exact z) (hs X.env), ?_⟩
  have mo := m.own
  rw [how] at mo
  obtain ⟨pa, h1, h2, h3, vs, h4, h5⟩ := mo
  refine ⟨.ref pa, h1, ty_lst h4, a2 H0 σ G H n.s m _ fun us G1 H1 as n1 s1 i1 => ?_⟩
  subst s1
  obtain ⟨u, rfl, iu⟩ := isA_one i1
  obtain ⟨l, ws, rfl, hl1, hl2⟩ := iu
  obtain ⟨g4, h4'⟩ := n1.n pa _ (by exact trivial) h3 h4
  refine ⟨pa, l, vs, ws, rfl, rfl, h4', n1.s.at_ _ _ (by exact trivial) hl1, small_le (by rw [dps_len h5, dps_len hl2]; exact hl), ?_⟩
  exact ok.nx _ σ G1 _ k ((n.step n1).mut h2 g4) ((m.up n1).reown how h1 h2 g4 ⟨vs ++ ws, upd_same, dps_app (n1.g.dps h5) hl2⟩)
theorem ixN_set {α β : Type} {xs : List α} {ys : List β} {j : Int} {n : Nat} (hl : xs.length = ys.length) (h : ixN ys.length j = some n) : ixN xs.length j = some n := by rw [hl]; exact h
/-- found[j] = e -/
theorem xq_ownSet (i : Nat) {j : Int} {n : Nat} (how : A.ow = some (i, .ol ds)) (he : Xe C e A S) (hb : Xd C b A (.dat (.int j))) (hn : ixN ds.length j = some n) (k : ∀ a, S a → ∃ d, a = .dat d ∧ E.nx (A.ows (.ol (ds.set n d)))) (hN : C.N[i]? = some x := by rfl) (hv : visB C.sc x = true := by (try dsimp only [Ct.blk]); decide +kernel)
    (hdb : (x == ("__debug__" : Str)) = false := by decide +kernel) (hcd : (x == ("__classdict__" : Str)) = false := by decide +kernel)
    (hs : ∀ env : Env, swapsWithSole [.Subscript (.Name x p) b apos] e pos.line env = pure false := by intro _; rfl) (hw : ∀ env : Env, swappedStores [.Subscript (.Name x p) b apos] e env = pure none := by intro _; rfl) (h1 : ∀ env : Env, (assignEach [.Subscript (.Name x p) b apos] env).map (·.2) = [assign (.Subscript (.Name x p) b apos) env] := by intro _; rfl)
    (ha : ∀ (env : Env) (v : Value), assign (.Subscript (.Name x p) b apos) env v = (do
      let ov ← holding [v] (eval (.Name x p) env)
      let iv ← holding [v, ov] (eval b env)
      standAt apos
      holding [v, ov, iv] (setItem ov iv v)
      release [v, ov, iv] []) := by intro _ _; rfl) : Xq C (.Assign [.Subscript (.Name x p) b apos] e pos) A E := fun D G0 H0 ok σ G H n0 m => by
  obtain ⟨tb, b1, b2⟩ := hb
  refine ⟨tAsg (UE C e) (gSub (tVar i) tb rSetL), fun X hX => ps_asg (pe_UE hX) (pg_sub (pe_var (by rw [hX.N]; exact hN) (hX.vis hv) hdb hcd) (b1 X hX) set_list (ha X.env)) (hs X.env) (hw X.env) (h1 X.env), he.ev H0 σ G H n0.s m _ fun v G1 H1 a n1 s1 i1 => ?_⟩
  obtain ⟨d, rfl, hk⟩ := k a s1
  have mo := (m.up n1).own
  rw [how] at mo
  obtain ⟨pa, h1, h2, h3, vs, h4, h5⟩ := mo
  refine ⟨.ref pa, h1, b2 H0 σ G1 H1 n1.s (m.up n1) _ fun u G2 H2 z n2 s2 i2 => ?_⟩
  subst s2
  obtain ⟨g4, h4'⟩ := n2.n pa _ (by exact trivial) h3 h4
  refine ⟨pa, vs, j, n, rfl, is_int i2, h4', ixN_set (dps_len h5) hn, ?_⟩
  exact ok.nx _ σ G2 _ hk (((n0.step n1).step n2).mut h2 g4) (((m.up n1).up n2).reown how h1 h2 g4 ⟨vs.set n v, upd_same, dps_set n (n2.g.dps h5) (n2.g.dp i1)⟩)

/-! ### own dicts by texts -/
def lkA {α : Type} (kvs : List (Str × α)) (k : Str) : Option α := (kvs.find? fun p => decide (p.1 = k)).map Prod.snd
def putA {α : Type} (kvs : List (Str × α)) (k : Str) (a : α) : List (Str × α) := if (kvs.any fun p => decide (p.1 = k)) = true then kvs.map (fun p => if p.1 = k then (p.1, a) else p) else kvs ++ [(k, a)]
theorem odK_lk {K : PySem.W.Frag} {G : Hp} : ∀ {kvs : List (Str × Ab)} {vs : List V} {k : Str}, IsA K G vs (kvs.map Prod.snd) → match lkA kvs k with
    | some a => ∃ v, valV (odK kvs vs) (Sum.inr k) = some v ∧ Is K G v a
    | none => valV (odK kvs vs) (Sum.inr k) = none
  | [], [], k, _ => rfl
  | [], _ :: _, _, h => h.elim
  | _ :: _, [], _, h => h.elim
  | (j, a) :: r, v :: vs, k, h => by
    have ih := odK_lk (kvs := r) (vs := vs) (k := k) h.2
    by_cases e : j = k
    · subst e
      unfold lkA
      rw [List.find?_cons_of_pos (by simp)]
      refine ⟨v, ?_, h.1⟩
      show valV ((Sum.inr j, v) :: odK r vs) (Sum.inr j) = some v
      unfold valV
      rw [List.find?_cons_of_pos (by simp)]
      rfl
    · unfold lkA at ih ⊢
      rw [List.find?_cons_of_neg (by simpa using e)]
      have e2 : valV (odK ((j, a) :: r) (v :: vs)) (Sum.inr k) = valV (odK r vs) (Sum.inr k) := by
        show valV ((Sum.inr j, v) :: odK r vs) (Sum.inr k) = _
        unfold valV
        rw [List.find?_cons_of_neg (by simpa using e)]
      rw [e2]
      exact ih
theorem odK_any : ∀ {α : Type} {kvs : List (Str × α)} {kvs' : List (Key × V)} {k : Str}, kvs'.map Prod.fst = kvs.map (fun p => Sum.inr p.1) → (kvs'.any fun q => decide (q.1 = Sum.inr k)) = kvs.any fun p => decide (p.1 = k)
  | α, [], [], k, _ => rfl
  | α, [], _ :: _, _, h => by cases h
  | α, _ :: _, [], _, h => by cases h
  | α, p :: r, q :: r', k, h => by
    rw [List.map_cons, List.map_cons] at h
    injection h with h1 h2
    rw [List.any_cons, List.any_cons, odK_any h2, h1]
    congr 1
    by_cases e : p.1 = k
    · rw [e]; simp
    · rw [decide_eq_false e, decide_eq_false]
      intro z
      exact e (Sum.inr.inj z)
theorem odK_keys {K : PySem.W.Frag} {G : Hp} : ∀ {kvs : List (Str × Ab)} {vs : List V}, IsA K G vs (kvs.map Prod.snd) → (odK kvs vs).map Prod.fst = kvs.map (fun p => Sum.inr p.1)
  | [], [], _ => rfl
  | [], _ :: _, h => h.elim
  | _ :: _, [], h => h.elim
  | p :: r, v :: vs, h => by
    show Sum.inr p.1 :: (odK r vs).map Prod.fst = Sum.inr p.1 :: r.map _
    rw [odK_keys h.2]
theorem isA_app {K : PySem.W.Frag} {G : Hp} : ∀ {vs us : List V} {as bs : List Ab}, IsA K G vs as → IsA K G us bs → IsA K G (vs ++ us) (as ++ bs)
  | [], _, [], _, _, h => h
  | [], _, _ :: _, _, h, _ => h.elim
  | _ :: _, _, [], _, h, _ => h.elim
  | _ :: _, _, _ :: _, _, h, k => ⟨h.1, isA_app h.2 k⟩
theorem odK_app : ∀ {kvs : List (Str × Ab)} {vs : List V} {k : Str} {a : Ab} {v : V}, vs.length = kvs.length → odK (kvs ++ [(k, a)]) (vs ++ [v]) = odK kvs vs ++ [(Sum.inr k, v)]
  | [], [], _, _, _, _ => rfl
  | [], _ :: _, _, _, _, h => by cases h
  | _ :: _, [], _, _, _, h => by cases h
  | p :: r, u :: us, k, a, v, h => by
    show (Sum.inr p.1, u) :: odK (r ++ [(k, a)]) (us ++ [v]) = (Sum.inr p.1, u) :: (odK r us ++ [(Sum.inr k, v)])
    rw [odK_app (by simpa using h)]
theorem odK_repl {K : PySem.W.Frag} {G : Hp} {k : Str} {a : Ab} {v : V} (hv : Is K G v a) : ∀ {kvs : List (Str × Ab)} {vs : List V}, IsA K G vs (kvs.map Prod.snd) → ∃ us, (odK kvs vs).map (fun kv => if kv.1 = Sum.inr k then (kv.1, v) else kv) = odK (kvs.map fun p => if p.1 = k then (p.1, a) else p) us ∧ IsA K G us ((kvs.map fun p => if p.1 = k then (p.1, a) else p).map Prod.snd)
  | [], [], _ => ⟨[], rfl, trivial⟩
  | [], _ :: _, h => h.elim
  | _ :: _, [], h => h.elim
  | p :: r, u :: us, h => by
    obtain ⟨ws, h1, h2⟩ := odK_repl hv (kvs := r) (vs := us) h.2
    by_cases e : p.1 = k
    · refine ⟨v :: ws, ?_, ?_⟩
      · show (if Sum.inr p.1 = Sum.inr k then _ else _) :: (odK r us).map _ = _
        rw [h1, if_pos (by rw [e])]
        show _ = odK ((if p.1 = k then (p.1, a) else p) :: _) _
        rw [if_pos e]
        rfl
      · show IsA K G (v :: ws) ((if p.1 = k then (p.1, a) else p).2 :: _)
        rw [if_pos e]
        exact ⟨hv, h2⟩
    · refine ⟨u :: ws, ?_, ?_⟩
      · show (if Sum.inr p.1 = Sum.inr k then _ else _) :: (odK r us).map _ = _
        rw [h1, if_neg (fun z => e (Sum.inr.inj z))]
        show _ = odK ((if p.1 = k then (p.1, a) else p) :: _) _
        rw [if_neg e]
        rfl
      · show IsA K G (u :: ws) ((if p.1 = k then (p.1, a) else p).2 :: _)
        rw [if_neg e]
        exact ⟨h.1, h2⟩
theorem odK_put {K : PySem.W.Frag} {G : Hp} {k : Str} {a : Ab} {v : V} {kvs : List (Str × Ab)} {vs : List V} (hv : Is K G v a) (h : IsA K G vs (kvs.map Prod.snd)) : ∃ us, putK (odK kvs vs) (Sum.inr k) v = odK (putA kvs k a) us ∧ IsA K G us ((putA kvs k a).map Prod.snd) := by
  have hk : ((odK kvs vs).any fun q => decide (q.1 = Sum.inr k)) = kvs.any fun p => decide (p.1 = k) := odK_any (odK_keys h)
  unfold putK putA
  rw [hk]
  by_cases e : (kvs.any fun p => decide (p.1 = k)) = true
  · rw [if_pos e, if_pos e]
    exact odK_repl hv h
  · rw [if_neg e, if_neg e]
    have hl : vs.length = kvs.length := by rw [h.len, List.length_map]
    exact ⟨vs ++ [v], (odK_app hl).symm, by rw [List.map_append]; exact isA_app h ⟨hv, trivial⟩⟩
theorem odK_len {kvs : List (Str × Ab)} {vs : List V} (h : vs.length = kvs.length) : (odK kvs vs).length = kvs.length := by
  unfold odK
  rw [List.length_map, List.length_zip, h, Nat.min_self]
theorem nosl {b : Expr} (h : PlainIx b) : NoSl b := fun ov iv => h ov iv
/-- found[k] of an own dict -/
theorem xd_ownGet (i : Nat) {kvs : List (Str × Ab)} {a : Ab} (how : A.ow = some (i, .od kvs)) (hb : Xd C b A (.dat (.str k))) (hd : lkA kvs k = some a) (hN : C.N[i]? = some x := by rfl) (hv : visB C.sc x = true := by (try dsimp only [Ct.blk]); decide +kernel) (hdb : (x == ("__debug__" : Str)) = false := by decide +kernel) (hcd : (x == ("__classdict__" : Str)) = false := by decide +kernel)
    (hs : PlainIx b := by exact fun _ _ => rfl) : Xd C (.Subscript (.Name x p) b pos) A a := by
  obtain ⟨tb, b1, b2⟩ := hb
  refine ⟨tDGet (tVar i) tb, fun X hX => pe_dget (Nat.lt_of_le_of_lt (Nat.add_le_add_left (by decide) _) hX.room.units) (pe_var (by rw [hX.N]; exact hN) (hX.vis hv) hdb hcd) (b1 X hX) (nosl hs), fun H0 σ G H x m Q q => ?_⟩
  have mo := m.own
  rw [how] at mo
  obtain ⟨pa, h1, h2, h3, vs, h4, h5⟩ := mo
  refine ⟨.ref pa, h1, b2 H0 σ G H x m _ fun v G1 H1 z n1 s1 i1 => ?_⟩
  subst s1
  obtain ⟨g4, h4'⟩ := n1.n pa _ (by exact trivial) h3 h4
  have hl := odK_lk (k := k) h5
  rw [hd] at hl
  obtain ⟨u, e1, e2⟩ := hl
  exact ⟨pa, u, rfl, Or.inl ⟨_, Sum.inr k, Or.inl h4', is_str i1, e1.symm⟩, q u G1 H1 _ n1 rfl (is_up n1.g e2)⟩
/-- found[k] = e -/
theorem xq_ownPut (i : Nat) {kvs : List (Str × Ab)} (how : A.ow = some (i, .od kvs)) (he : Xe C e A S) (hb : Xd C b A (.dat (.str k))) (hn : kvs.length ≤ 1000) (kk : ∀ a, S a → E.nx (A.ows (.od (putA kvs k a)))) (hN : C.N[i]? = some x := by rfl) (hv : visB C.sc x = true := by (try dsimp only [Ct.blk]); decide +kernel)
    (hdb : (x == ("__debug__" : Str)) = false := by decide +kernel) (hcd : (x == ("__classdict__" : Str)) = false := by decide +kernel) (hs : ∀ env : Env, swapsWith e (some (.Subscript (.Name x p) b apos)) pos.line env = pure false := by intro _; rfl) : Xq C (.Assign [.Subscript (.Name x p) b apos] e pos) A E := fun D G0 H0 ok σ G H n0 m => by
  obtain ⟨tb, b1, b2⟩ := hb
  refine ⟨sDPut (tVar i) tb (UE C e), fun X hX => ps_dput (Nat.lt_of_le_of_lt (Nat.add_le_add_left (by decide) _) hX.room.units) (pe_var (by rw [hX.N]; exact hN) (hX.vis hv) hdb hcd) (b1 X hX) (pe_UE hX) (hs X.env), he.ev H0 σ G H n0.s m _ fun v G1 H1 a n1 s1 i1 => ?_⟩
  have mo := (m.up n1).own
  rw [how] at mo
  obtain ⟨pa, h1, h2, h3, vs, h4, h5⟩ := mo
  refine ⟨.ref pa, h1, b2 H0 σ G1 H1 n1.s (m.up n1) _ fun u G2 H2 z n2 s2 i2 => ?_⟩
  subst s2
  obtain ⟨g4, h4'⟩ := n2.n pa _ (by exact trivial) h3 h4
  obtain ⟨us, e1, e2⟩ := odK_put (k := k) (is_up n2.g i1) (isA_up n2.g h5)
  refine ⟨pa, _, rfl, Or.inl ⟨_, Sum.inr k, h4', is_str i2, ?_, rfl⟩, ?_⟩
  · rw [odK_len (by rw [h5.len, List.length_map])]
    exact small_lt (by omega)
  · rw [e1]
    exact ok.nx _ σ G2 _ (kk a s1) (((n0.step n1).step n2).mut h2 g4) (((m.up n1).up n2).reown how h1 h2 g4 ⟨us, upd_same, e2⟩)
end
end Oh
set_option maxHeartbeats 4000000
/-! OhH: the source of the draws, isinstance, dicts read, displays, slices, constants of the top. -/
namespace Oh
open PySem L2 PySem.Spec PyProof.Rows

/-! ### the source -/
section
variable {X : Cx}
theorem src_ok {P : Program} {w : World} {H : Hp} {h : Heap} {a : Addr} (p : SrcP a h) : ObjOk P w H h a (SrcO a) := by
  have p' := p
  obtain ⟨i, j, k, t1, t2, t3, n, e⟩ := p'
  exact ⟨p, ⟨_, e⟩, fun h1 h2 ⟨i, j, k, t1, t2, t3, n, e⟩ kk => ⟨i, j, k, t1, t2, t3, n, kk _ e⟩⟩
theorem inv_src {pins : List (Addr × Obj)} {σ : L2.St} {H : Hp} {s : Shared} {a : Addr} (I : Inv X pins σ H s) (h : H a = some (SrcO a)) : SrcP a s.heap := (I.hok a _ h).1
theorem upd_self {H : Hp} {a : Addr} {o : HO} (h : H a = some o) : upd H a o = H := by
  funext b
  by_cases hb : b = a
  · subst hb
    rw [upd_same, h]
  · rw [upd_ne hb]
def rIxSrc : R2 := fun x y H Q => ∃ (a : Addr) (k : Nat), x = .ref a ∧ y = .int k ∧ k < 3 ∧ H a = some (SrcO a) ∧ ∀ i, Q (.int i) H
theorem ix_src : IxR X rIxSrc := by
  intro value slice pins s σ H x y v u Q I rx ry h hs
  obtain ⟨a, k, rfl, rfl, hk, ha, q⟩ := h
  cases rx
  obtain ⟨t, rfl⟩ := ry
  obtain ⟨i, j, l, t1, t2, t3, n, e⟩ := inv_src I ha
  have pl : s.heap.IsList a #[.int i t1, .int j t2, .int l t3] := ⟨_, e, rfl, n, rfl⟩
  have hn := line63
  obtain ⟨z, tz, hz⟩ : ∃ z tz, (#[Value.int i t1, .int j t2, .int l t3] : Array Value)[k]? = some (.int z tz) := by
    match k, hk with
    | 0, _ => exact ⟨i, t1, rfl⟩
    | 1, _ => exact ⟨j, t2, rfl⟩
    | 2, _ => exact ⟨l, t3, rfl⟩
  exact item_listR pl (Int.natCast_nonneg k) (by omega) (by simpa using hz) (⟨.int z, H, I, ⟨tz, rfl⟩, q z⟩ : EP X pins σ Q _ s) hs
def rSetSrc : V → V → V → Hp → (Hp → Prop) → Prop := fun o i v H Q => ∃ (a : Addr) (k : Nat) (z : Int), o = .ref a ∧ i = .int k ∧ k < 3 ∧ v = .int z ∧ H a = some (SrcO a) ∧ Q H
theorem set_src : PSet X rSetSrc := by
  intro pins s σ H o i v ov iv u Q I ro ri rv h
  obtain ⟨a, k, z, rfl, rfl, hk, rfl, ha, q⟩ := h
  cases ro
  obtain ⟨t, rfl⟩ := ri
  obtain ⟨tz, rfl⟩ := rv
  obtain ⟨i, j, l, t1, t2, t3, n, e⟩ := inv_src I ha
  have hn := line63
  have e2 : (s.heap.update a (Obj.mapSeq (·.setIfInBounds k (.int z tz)))).get? a = some { cls := .type "list", data := .seq ([.int i t1, .int j t2, .int l t3].set k (.int z tz)).toArray n } := by
    have m := mapSeq_set [.int i t1, .int j t2, .int l t3] n k (.int z tz)
    rw [Heap.get?_update_self _ (o := { cls := .type "list", data := .seq ([Value.int i t1, .int j t2, .int l t3]).toArray n }) e (by rw [m]; rfl), m]
  have sp : SrcP a (s.heap.update a (Obj.mapSeq (·.setIfInBounds k (.int z tz)))) := by
    match k, hk with
    | 0, _ => exact ⟨z, j, l, tz, t2, t3, n, e2⟩
    | 1, _ => exact ⟨i, z, l, t1, tz, t3, n, e2⟩
    | 2, _ => exact ⟨i, j, z, t1, t2, tz, n, e2⟩
  have I' : Inv X pins σ (upd H a (SrcO a)) { s with heap := s.heap.update a (Obj.mapSeq (·.setIfInBounds k (.int z tz))), toks := s.toks } :=
    I.write (x := a) (e := a) (by rw [ha]; trivial) (.inl rfl) (fun b u hb q => (Heap.get?_update_other _ _ (Ne.symm hb)).trans q) ⟨_, e2⟩ (src_ok sp)
  rw [upd_self ha] at I'
  exact PySem.W.ki_setAt e (Int.natCast_nonneg k) (by omega) (by simp; omega) ⟨H, by simpa using I', q⟩
def tSrc (te : TE) : TE := fun σ H Q => te σ H fun x H1 => ∃ a i j k, x = .ref a ∧ H1 a = some (.lst [.int i, .int j, .int k]) ∧ Q x (upd H1 a (SrcO a))
theorem pe_src {e : Expr} {te : TE} (he : PE X e te) : PE X e (tSrc te) := by
  refine ⟨fun pins s σ H Q I h => ?_⟩
  refine thn (he.run pins s σ H _ I h) fun v s1 ⟨x, H1, I1, r1, a, i, j, k, ex, ha, q⟩ => ?_
  obtain ⟨z, its, n, r, e⟩ := I1.hok a _ ha
  have sp : SrcP a s1.heap := by
    cases r with
    | cons r1 r =>
      cases r with
      | cons r2 r =>
        cases r with
        | cons r3 r =>
          cases r
          obtain ⟨t1, rfl⟩ := r1
          obtain ⟨t2, rfl⟩ := r2
          obtain ⟨t3, rfl⟩ := r3
          exact ⟨i, j, k, t1, t2, t3, n, e⟩
  have I2 : Inv X pins σ (upd H1 a (SrcO a)) { s1 with heap := s1.heap, toks := s1.toks } :=
    I1.write (x := a) (e := a) (by rw [ha]; trivial) (.inl rfl) (fun b u hb q => q) ⟨_, e⟩ (src_ok sp)
  exact ⟨x, _, I2, r1, q⟩
end
section
variable {C : Ct} {A : AS} {E : AE} {S : Ab → Prop} {e a b o : Expr} {es : List Expr} {pos p apos cpos tpos spos : Pos} {x k : Str}
def anyI (z : Ab) : Prop := ∃ i : Int, z = .dat (.int i)
/-- [i, j, k], to be a source -/
theorem xe_src {St : List Ab → Prop} (h : Xa C es A St) (hs : ∀ as, St as → ∃ i j k : Int, as = [.dat (.int i), .dat (.int j), .dat (.int k)]) : Xd C (.List es pos) A .src := by
  obtain ⟨t, h1, h2⟩ := h
  refine ⟨tSrc (tLst t), fun X hX => pe_src (pe_lst (h1 X hX)), fun H0 σ G H x m Q q => h2 H0 σ G H x m _ fun vs G1 H1 as n1 s1 i1 => ?_⟩
  obtain ⟨i, j, k, rfl⟩ := hs as s1
  obtain ⟨v, u, w, rfl, iv, iu, iw⟩ := isA_three i1
  rw [is_int iv, is_int iu, is_int iw]
  refine ⟨small_le (by show 3 ≤ 100000; decide), fun p hp => ⟨p, i, j, k, rfl, upd_same, ?_⟩⟩
  have e2 : upd (upd H1 p (.lst [.int i, .int j, .int k])) p (SrcO p) = upd H1 p (SrcO p) := by
    funext b
    by_cases hb : b = p
    · subst hb
      rw [upd_same, upd_same]
    · rw [upd_ne hb, upd_ne hb, upd_ne hb]
  rw [e2]
  exact q _ _ _ _ (n1.trans (Nx.new (o := SrcO p) n1.s hp)) rfl ⟨p, rfl, upd_same⟩
/-- src[k] -/
theorem xe_ixSrc {k : Nat} (ho : Xd C o A .src) (hb : Xd C b A (.dat (.int k))) (hk : k < 3) (hs : PlainIx b := by exact fun _ _ => rfl) : Xe C (.Subscript o b pos) A anyI := xe_ix (fun _ _ => ix_src) ho hb (rv_d fun x y G H e i1 i2 Q q => by
  obtain ⟨a, rfl, h⟩ := i1
  exact ⟨a, k, rfl, is_int i2, hk, e.at_ _ _ (by exact trivial) h, fun i => fin e q ⟨i, rfl⟩ mk_int⟩) hs
/-- src[k] = e -/
theorem xq_setSrc {k : Nat} (he : Xe C e A anyI) (ho : Xd C o A .src) (hb : Xd C b A (.dat (.int k))) (hk : k < 3) (hn : E.nx A)
    (hs : ∀ env : Env, swapsWithSole [.Subscript o b apos] e pos.line env = pure false := by intro _; rfl) (hw : ∀ env : Env, swappedStores [.Subscript o b apos] e env = pure none := by intro _; rfl) (h1 : ∀ env : Env, (assignEach [.Subscript o b apos] env).map (·.2) = [assign (.Subscript o b apos) env] := by intro _; rfl)
    (ha : ∀ (env : Env) (v : Value), assign (.Subscript o b apos) env v = (do
      let ov ← holding [v] (eval o env)
      let iv ← holding [v, ov] (eval b env)
      standAt apos
      holding [v, ov, iv] (setItem ov iv v)
      release [v, ov, iv] []) := by intro _ _; rfl) : Xq C (.Assign [.Subscript o b apos] e pos) A E := fun D G0 H0 ok σ G H n0 m => by
  obtain ⟨to, o1, o2⟩ := ho
  obtain ⟨tb, b1, b2⟩ := hb
  refine ⟨tAsg (UE C e) (gSub to tb rSetSrc), fun X hX => ps_asg (pe_UE hX) (pg_sub (o1 X hX) (b1 X hX) set_src (ha X.env)) (hs X.env) (hw X.env) (h1 X.env), he.ev H0 σ G H n0.s m _ fun v G1 H1 a n1 s1 i1 => ?_⟩
  obtain ⟨z, rfl⟩ := s1
  refine o2 H0 σ G1 H1 n1.s (m.up n1) _ fun u G2 H2 c n2 s2 i2 => b2 H0 σ G2 H2 n2.s ((m.up n1).up n2) _ fun w G3 H3 d n3 s3 i3 => ?_
  subst s2 s3
  obtain ⟨ad, rfl, h⟩ := i2
  exact ⟨ad, k, z, rfl, is_int i3, hk, is_int i1, n3.s.at_ _ _ (by exact trivial) (n3.g.at_ _ _ (by exact trivial) h), ok.nx A σ G3 H3 hn (((n0.step n1).step n2).step n3) (((m.up n1).up n2).up n3)⟩
/-- any ints -/
theorem xe_int2 {op : Operator} {r : R2} {Sa Sb : Ab → Prop} (ho : ∀ X, C.On X → OpR X (binaryOp op) r) (ha : Xe C a A Sa) (hb : Xe C b A Sb) (h : ∀ c d, Sa c → Sb d → ∃ i j : Int, c = .dat (.int i) ∧ d = .dat (.int j) ∧ ∃ g, S (.dat (.int g)) ∧ ∀ H Q, Q (.int g) H → r (.int i) (.int j) H Q) : Xe C (.BinOp a op b pos) A S :=
  xe_bin ho ha hb fun c d hc hd => by
    obtain ⟨i, j, rfl, rfl, g, hS, hr⟩ := h c d hc hd
    intro x y G H e i1 i2 Q q
    rw [is_int i1, is_int i2]
    exact hr H Q (q _ G H _ (Nx.refl e) hS mk_int)
end

/-! ### isinstance -/
/-- the type of an abstract value -/
def tyA (K : PySem.W.Frag) : Ab → Value
  | .dat (.int _) => .type "int"
  | .dat (.bool _) => .type "bool"
  | .dat (.str _) => .type "str"
  | .dat .none => .type "NoneType"
  | .dat (.list _) => .type "list"
  | .dat (.tuple _) => .type "tuple"
  | .dat (.dict _) => .none
  | .wls true _ => .type "tuple"
  | .wls false _ => .type "list"
  | .book _ => .type "dict"
  | .flo _ => .ref (CF K)
  | .wor _ => .ref (CW K)
  | .han _ => .ref (CH K)
  | _ => .none
theorem tyx_sl {K : PySem.W.Frag} {H : Hp} {a : Addr} {xs : List V} (h : SqL K H a xs) : TyX K H (.ref a) (.type "list") := by
  rcases h with (h | ⟨o, h⟩) | ⟨o, its, n, h1, h2, _⟩
  · exact .base (.lst h)
  · exact .base (.frz h)
  · exact .kList h1 h2
theorem tyx_st {K : PySem.W.Frag} {H : Hp} {a : Addr} {xs : List V} (h : SqT K H a xs) : TyX K H (.ref a) (.type "tuple") := by
  rcases h with (h | ⟨o, h⟩) | ⟨o, its, n, h1, h2, _⟩
  · exact .base (.tup h)
  · exact .fTuple h
  · exact .kTuple h1 h2
section
variable {C : Ct} [g : Gx C.ga] {A : AS} {E : AE} {S : Ab → Prop} {e a b o : Expr} {es : List Expr} {pos p p2 apos cpos tpos spos : Pos} {x k : Str}
theorem tyx_of {G H : Hp} {v : V} : ∀ {c : Ab}, Ex G H → Is C.K G v c → tyA C.K c ≠ .none → TyX C.K H v (tyA C.K c)
  | .dat (.int i), _, h, _ => by rw [is_int h]; exact .base (.int i)
  | .dat (.bool i), _, h, _ => by rw [is_bool h]; exact .base (.bl i)
  | .dat (.str i), _, h, _ => by rw [is_str h]; exact .base (.str i)
  | .dat .none, _, h, _ => by rw [is_none h]; exact .base .non
  | .dat (.list _), e, h, _ => by
    obtain ⟨q, vs, rfl, h1, _⟩ := is_list h
    exact tyx_sl (e.sl h1)
  | .dat (.tuple _), e, h, _ => by
    obtain ⟨q, vs, rfl, h1, _⟩ := is_tup h
    exact tyx_st (e.st h1)
  | .dat (.dict _), _, _, hn => (hn rfl).elim
  | .wls true _, e, h, _ => by
    obtain ⟨q, vs, rfl, h1, _⟩ := h
    exact tyx_st (e.st h1)
  | .wls false _, e, h, _ => by
    obtain ⟨q, vs, rfl, h1, _⟩ := h
    exact tyx_sl (e.sl h1)
  | .book _, e, h, _ => by
    obtain ⟨q, rfl, h1⟩ := h
    rcases e.dk h1 with h | ⟨o, h⟩
    · exact .base (.dK h)
    · exact .fDict h
  | .flo _, e, h, _ => by
    obtain ⟨q, dx, t, rfl, h1, _⟩ := h
    exact .base (.ins (e.at_ _ _ (by exact trivial) h1) g.clF g.iF.ha g.iF.hn g.iF.htk g.iF.hm)
  | .wor _, e, h, _ => by
    obtain ⟨q, dx, _, _, _, _, _, rfl, h1, _⟩ := h
    exact .base (.ins (e.at_ _ _ (by exact trivial) h1) g.clW g.iW.ha g.iW.hn g.iW.htk g.iW.hm)
  | .han _, e, h, _ => by
    obtain ⟨q, dx, _, _, rfl, h1, _⟩ := h
    exact .base (.ins (e.at_ _ _ (by exact trivial) h1) g.clH g.iH.ha g.iH.hn g.iH.htk g.iH.hm)
  | .src, _, _, hn => (hn rfl).elim
  | .land .., _, _, hn => (hn rfl).elim
  | .sgn _, _, _, hn => (hn rfl).elim
  | .pt _, _, _, hn => (hn rfl).elim
  | .nl _, _, _, hn => (hn rfl).elim
  | .dct _, _, _, hn => (hn rfl).elim
theorem isi_core {ec : Expr} {te : TE} {c : Ab} {cv : V} {u : Value} {r : Bool} (ha : Xd C e A c) (hc : ∀ X, C.On X → PE X ec (tC cv)) (k : ClsV cv u) (ht : tyA C.K c ≠ .none) (hr : PySem.W.kitOne C.K (tyA C.K c) u = some r)
    (hg : gloB C.sc "isinstance" = true) (hst : noStars [e, ec] = true) : Xd C (.Call (.Name "isinstance" p) [e, ec] [] pos) A (.dat (.bool r)) := by
  obtain ⟨ta, a1, a2⟩ := ha
  obtain ⟨h1, h2⟩ := noStars_cons hst
  refine ⟨tCB (rIsi C.K) (tCons ta (tCons (tC cv) tNil)), fun X hX => ?_, fun H0 σ G H x m Q q => ?_⟩
  · have z := pe_callB (p := p) (pos := pos) (call_isi (X := X)) (hX.gl hg) (by rw [hX.mg]; exact g.bIsi) PyProof.Rows.boot_isinstance (pa_cons (a1 X hX) (pa_cons (hc X hX) pa_nil (star_one (noStars_cons h2).1)) (star_one h1)) (by decide +kernel) (by decide +kernel) (star_one h1) (backTo_any (noStars_any h2))
    rw [hX.K] at z
    exact z
  · refine a2 H0 σ G H x m _ fun v G1 H1 z n1 s1 i1 => ?_
    subst s1
    exact ⟨v, cv, tyA C.K z, u, r, rfl, k, tyx_of n1.s i1 ht, hr, q _ G1 H1 _ n1 rfl mk_bool⟩
/-- isinstance(x, T), T a built-in -/
theorem xd_isiB (T : String) {c : Ab} {r : Bool} (ha : Xd C e A c) (hm : C.ga.mg x = none) (hv : bootBuiltins x = some (.type T)) (hr : tyA C.K c ≠ .none ∧ PySem.W.kitOne C.K (tyA C.K c) (.type T) = some r) (hg : gloB C.sc "isinstance" = true := by (try dsimp only [Ct.blk]); decide +kernel) (hg2 : gloB C.sc x = true := by (try dsimp only [Ct.blk]); decide +kernel)
    (hst : noStars [e] = true := by rfl) (hn : x ≠ "__name__" := by decide +kernel) (hd : (x == ("__debug__" : Str)) = false := by decide +kernel) : Xd C (.Call (.Name "isinstance" p) [e, .Name x p2] [] pos) A (.dat (.bool r)) :=
  isi_core (te := fun _ _ _ => True) ha (fun X hX => pe_bltn (hX.gl hg2) (by rw [hX.mg]; exact hm) hv (show RelV (V.ty T) (.type T) from rfl) hn hd) (.ty T) hr.1 hr.2 hg (by
    have h := (noStars_cons hst).1
    unfold noStars
    rw [h]
    rfl)
/-- isinstance(x, C), C an own class -/
theorem xd_isiC {Cl : Addr} {c : Ab} (ha : Xd C e A c) (hm : C.ga.mg x = some (.ref Cl)) (hr : tyA C.K c = .ref Cl) (hg : gloB C.sc "isinstance" = true := by (try dsimp only [Ct.blk]); decide +kernel) (hg2 : gloB C.sc x = true := by (try dsimp only [Ct.blk]); decide +kernel)
    (hst : noStars [e] = true := by rfl) (hd : (x == ("__debug__" : Str)) = false := by decide +kernel) : Xd C (.Call (.Name "isinstance" p) [e, .Name x p2] [] pos) A (.dat (.bool true)) :=
  isi_core (te := fun _ _ _ => True) ha (fun X hX => pe_glob (hX.gl hg2) (by rw [hX.mg]; exact hm) (show RelV (V.ref Cl) (.ref Cl) from rfl) hd) (.own Cl) (by rw [hr]; exact fun z => nomatch z) (by
    rw [hr]
    unfold PySem.W.kitOne
    rw [if_pos (by show (Value.ref Cl == Value.ref Cl) = true; simp)]) hg (by
    have h := (noStars_cons hst).1
    unfold noStars
    rw [h]
    rfl)
end
end Oh
set_option maxHeartbeats 4000000
/-! OhP: the text by places. -/
namespace Oh
open PySem L2
abbrev prog : Program := PySem.Challenge.pw_onehand_k81_whole_symmetry_broken_by_one
def top (i : Nat) : Stmt := prog.main.body.getD i (.Pass ⟨0, 0, 0, 0⟩)
abbrev FnG (Γ : Ga) (x qual : Str) (st : Stmt) (f : Addr) (fd : FuncData) : Prop := FunD Γ.K x qual (defArgs st) (defBody st) (defScope st) [] [] f fd
end Oh
set_option maxHeartbeats 4000000
/-! OhI: constants of the top, displays, dicts read, defs of the top. -/
namespace Oh
open PySem L2 PySem.Spec PyProof.Rows

instance gxBlk {C : Ct} {s : Scope} [g : Gx C.ga] : Gx (C.blk s).ga := g
/-! ### defs of the top -/
structure Def (Γ : Ga) (x : Str) (st : Stmt) (ps : List Str) : Prop where
  ex : ∃ f fd, FnG Γ x x st f fd ∧ Γ.mg x = some (.ref f) ∧ Binds Γ.K fd ps []
structure MDef (Γ : Ga) (Cl : Addr) (m qual : Str) (st : Stmt) (ps : List Str) : Prop where
  ex : ∃ f fd, FnG Γ m qual st f fd ∧ Meth Γ.K Cl m f ∧ Binds Γ.K fd ps []
section
variable {Γ : Ga} {k : Nat} {c : Con} {x m qual : Str} {st : Stmt} {N ps : List Str} {Cl : Addr}
theorem hasF (D : Def Γ x st ps) (S : FnScope N ps (defScope st)) (hl : ∀ g, c.pre g → (c.args g).length = ps.length)
    (hb : ∀ g, c.pre g → Xp ⟨Γ, N, defScope st, k, fun _ => true⟩ (defBody st) (AS.of N (c.args g)) ⟨fun _ => c.res g (.dat .none), c.res g, fun _ => False, fun _ => False⟩) : HasF Γ (k + 1) x c :=
  let ⟨_, _, F, hm, hbi⟩ := D.ex
  hasF_of F S hm hbi hl hb
theorem hasM (D : MDef Γ Cl m qual st ps) (S : FnScope N ps (defScope st)) (hl : ∀ g, c.pre g → (c.args g).length = ps.length)
    (hb : ∀ g, c.pre g → Xp ⟨Γ, N, defScope st, k, fun _ => true⟩ (defBody st) (AS.of N (c.args g)) ⟨fun _ => c.res g (.dat .none), c.res g, fun _ => False, fun _ => False⟩) : HasM Γ (k + 1) Cl m c :=
  let ⟨_, _, F, hm, hbi⟩ := D.ex
  hasM_of F S hm hbi hl hb
end
section
variable {C : Ct} [g : Gx C.ga] {A : AS} {E : AE} {S : Ab → Prop} {e a b o : Expr} {es : List Expr} {pos p p2 apos cpos tpos spos : Pos} {x k : Str} {i : Nat}
theorem relS {z : Str} {t : Tok} : RelV (V.str z) (.str z t) := ⟨t, rfl⟩
theorem xd_cDEEDS (hg : gloB C.sc "DEEDS" = true := by (try dsimp only [Ct.blk]); decide +kernel) : Xd C (.Name "DEEDS" pos) A (.dat (pS [117, 114, 100, 108])) := let ⟨_, h⟩ := g.cDeeds; xd_glob h relS (fun _ => mk_str) hg
theorem xd_cWALL (hg : gloB C.sc "WALL" = true := by (try dsimp only [Ct.blk]); decide +kernel) : Xd C (.Name "WALL" pos) A (.dat (pS [35])) := let ⟨_, h⟩ := g.cWall; xd_glob h relS (fun _ => mk_str) hg
theorem xd_cICE (hg : gloB C.sc "ICE" = true := by (try dsimp only [Ct.blk]); decide +kernel) : Xd C (.Name "ICE" pos) A (.dat (pS [126])) := let ⟨_, h⟩ := g.cIce; xd_glob h relS (fun _ => mk_str) hg
theorem xd_cPIT (hg : gloB C.sc "PIT" = true := by (try dsimp only [Ct.blk]); decide +kernel) : Xd C (.Name "PIT" pos) A (.dat (pS [120])) := let ⟨_, h⟩ := g.cPit; xd_glob h relS (fun _ => mk_str) hg
theorem xd_cLETTERS (hg : gloB C.sc "LETTERS" = true := by (try dsimp only [Ct.blk]); decide +kernel) : Xd C (.Name "LETTERS" pos) A (.dat (pS [97, 98, 99, 100])) := let ⟨_, h⟩ := g.cLetters; xd_glob h relS (fun _ => mk_str) hg
theorem xd_cOPEN (hg : gloB C.sc "OPEN" = true := by (try dsimp only [Ct.blk]); decide +kernel) : Xd C (.Name "OPEN" pos) A (.dat (pS [46, 97, 98, 99, 100])) := let ⟨_, h⟩ := g.cOpen; xd_glob h relS (fun _ => mk_str) hg
theorem xd_cSIGNS (hg : gloB C.sc "SIGNS" = true := by (try dsimp only [Ct.blk]); decide +kernel) : Xd C (.Name "SIGNS" pos) A (.dat (pS [35, 126, 120, 46, 97, 98, 99, 100])) := let ⟨_, h⟩ := g.cSigns; xd_glob h relS (fun _ => mk_str) hg
theorem xd_cMOST (hg : gloB C.sc "MOST" = true := by (try dsimp only [Ct.blk]); decide +kernel) : Xd C (.Name "MOST" pos) A (.dat (.int 6)) := let ⟨_, h⟩ := g.cMost; xd_glob (v := V.int 6) h ⟨_, rfl⟩ (fun _ => mk_int) hg
theorem xd_cMOST_WORLDS (hg : gloB C.sc "MOST_WORLDS" = true := by (try dsimp only [Ct.blk]); decide +kernel) : Xd C (.Name "MOST_WORLDS" pos) A (.dat (.int 4)) := let ⟨_, h⟩ := g.cMostW; xd_glob (v := V.int 4) h ⟨_, rfl⟩ (fun _ => mk_int) hg
abbrev turns8 : List PyData := ((List.finRange 8).map tt).map pS
theorem xd_cTURNS (hg : gloB C.sc "TURNS" = true := by (try dsimp only [Ct.blk]); decide +kernel) : Xd C (.Name "TURNS" pos) A (.dat (.tuple turns8)) := let ⟨a0, h, hs⟩ := g.cTurns; xd_glob (v := V.ref a0) h rfl (fun G => Dp.tup (hs G) (by
  have q := dps_of_strs (K := C.K) (G := G) ((List.finRange 8).map tt)
  rw [List.map_map] at q
  exact q)) hg
theorem xd_cSTEPS (hg : gloB C.sc "STEPS" = true := by (try dsimp only [Ct.blk]); decide +kernel) : Xd C (.Name "STEPS" pos) A (.dat (.tuple [pP (-1, 0), pP (0, 1), pP (1, 0), pP (0, -1)])) := let ⟨a0, _, _, _, _, h, hs, h0, h1, h2, h3⟩ := g.cSteps
  xd_glob (v := V.ref a0) h rfl (fun G => Dp.tup (hs G) (.cons (.tup (h0 G) (.cons (.int _) (.cons (.int _) .nil))) (.cons (.tup (h1 G) (.cons (.int _) (.cons (.int _) .nil))) (.cons (.tup (h2 G) (.cons (.int _) (.cons (.int _) .nil))) (.cons (.tup (h3 G) (.cons (.int _) (.cons (.int _) .nil))) .nil))))) hg
/-! ### calls by contracts -/
theorem xd_call {α : Type} {pre : α → Prop} {args : α → List Ab} {val : α → Ab} {k : Nat} {v : Ab} (F : HasF C.ga k x (conD pre args val)) (hk : k ≤ C.k) (g : α) (hp : pre g) (ha : Xs C (e :: es) A (args g)) (hv : val g = v) (hg : gloB C.sc x = true := by (try dsimp only [Ct.blk]); decide +kernel) (hst : noStars (e :: es) = true := by rfl) (hdb : (x == ("__debug__" : Str)) = false := by decide +kernel) :
    Xd C (.Call (.Name x p) (e :: es) [] pos) A v := by
  subst hv
  exact xe_call F hk g hp ha hg hst hdb
theorem xe_callK {c : Con} {k : Nat} (F : HasF C.ga k x c) (hk : k ≤ C.k) (g : c.α) (hp : c.pre g) (ha : Xs C (e :: es) A (c.args g)) (hv : ∀ z, c.res g z → S z) (hg : gloB C.sc x = true := by (try dsimp only [Ct.blk]); decide +kernel) (hst : noStars (e :: es) = true := by rfl) (hdb : (x == ("__debug__" : Str)) = false := by decide +kernel) :
    Xe C (.Call (.Name x p) (e :: es) [] pos) A S := (xe_call F hk g hp ha hg hst hdb).imp hv
theorem xd_meth {m : Str} {Cl : Addr} {c0 : Ab} {as : List Ab} {α : Type} {pre : α → Prop} {args : α → List Ab} {val : α → Ab} {k : Nat} {v : Ab} (F : HasM C.ga k Cl m (conD pre args val)) (hk : k ≤ C.k) (hcl : Cls C.K Cl) (ho : Xd C o A c0) (hi : Inst C.K c0 Cl m) (g : α) (hp : pre g) (ha : Xs C (e :: es) A as) (hc : args g = c0 :: as) (hv : val g = v)
    (hst : noStars (e :: es) = true := by rfl)
    (ht : ∀ env : Env, eval (.Call (.Attribute o m apos) (e :: es) [] pos) env = (do let ov ← eval o env; standAt apos.atName; let (f, first) ← holding [ov] (getMethod ov m (plB o env)); callWith pos f first (backTo pos (starEach (e :: es) env)) (backToKw pos (keywordEach [] env))) := by intro _; rfl) :
    Xd C (.Call (.Attribute o m apos) (e :: es) [] pos) A v := by
  subst hv
  exact xe_meth F hk hcl ho hi g hp hc ha hst ht
theorem xd_meth0 {m : Str} {Cl : Addr} {c0 : Ab} {α : Type} {pre : α → Prop} {args : α → List Ab} {val : α → Ab} {k : Nat} {v : Ab} (F : HasM C.ga k Cl m (conD pre args val)) (hk : k ≤ C.k) (hcl : Cls C.K Cl) (ho : Xd C o A c0) (hi : Inst C.K c0 Cl m) (g : α) (hp : pre g) (hc : args g = [c0]) (hv : val g = v)
    (ht : ∀ env : Env, eval (.Call (.Attribute o m apos) [] [] pos) env = (do let ov ← eval o env; standAt apos.atName; let (f, first) ← holding [ov] (getMethod ov m (plB o env)); callWith pos f first (backTo pos (starEach [] env)) (backToKw pos (keywordEach [] env))) := by intro _; rfl) :
    Xd C (.Call (.Attribute o m apos) [] [] pos) A v := by
  subst hv
  exact xe_meth0 F hk hcl ho hi g hp hc ht
/-! ### a value seen otherwise -/
theorem Xe.as {c d : Ab} (h : Xd C e A c) (hc : c = d) : Xd C e A d := hc ▸ h
theorem Xdc_as {r b : Bool} (h : Xdc C e A (.dat (.bool r))) (hb : r = b) : Xdc C e A (.dat (.bool b)) := hb ▸ h
theorem xd_imp {c : Ab} (h : Xd C e A c) (hs : S c) : Xe C e A S := h.imp fun z hz => by rw [hz]; exact hs

/-! ### membership among data: texts in a tuple of texts -/
theorem eqv_pS (l m : List Nat) : PyData.eqv (pS l) (pS m) = decide (l = m) := by
  show PyData.eqv (.str (tx l)) (.str (tx m)) = _
  unfold PyData.eqv
  by_cases h : l = m
  · subst h
    simp
  · rw [decide_eq_false h]
    have : tx l ≠ tx m := fun e => h (tx_inj e)
    simp [this]

theorem flat_strs : ∀ (ls : List (List Nat)), ((ls.map tx).map V.str).all flatV = true
  | [] => rfl
  | l :: ls => by
    rw [List.map_cons, List.map_cons, List.all_cons, flat_strs ls]
    rfl
theorem inV_strs (l : List Nat) : ∀ (ls : List (List Nat)), inV (V.str (tx l)) ((ls.map tx).map V.str) = decide (l ∈ ls)
  | [] => by simp [inV]
  | m :: ls => by
    have ih := inV_strs l ls
    unfold inV at ih ⊢
    rw [List.map_cons, List.map_cons, List.any_cons, ih]
    by_cases h : m = l
    · subst h
      have : eqV (V.str (tx m)) (V.str (tx m)) = true := by
        unfold eqV
        simp
      rw [this]
      simp
    · have : eqV (V.str (tx m)) (V.str (tx l)) = false := by
        unfold eqV
        simp only [decide_eq_false_iff_not, beq_eq_false_iff_ne, ne_eq]
        exact fun z => h (tx_inj z)
      rw [this]
      have h' : ¬ l = m := fun z => h z.symm
      simp [h']
/-- a text among texts -/
theorem xc_inT {l : List Nat} {ls : List (List Nat)} {c : Ab} (ha : Xd C a A (.dat (pS l))) (hb : Xd C b A c) (hs : seqA c = some (ls.map pS)) (hm : behindInMarks .In b = false := by rfl) : Xdc C (.Compare a [.In] [b] pos) A (.dat (.bool (decide (l ∈ ls)))) :=
  xe_cmp (r := rIn C.K false) (fun X hX => by have q := op_in_seq (X := X); rw [hX.K] at q; exact q) ha hb (rv_d fun x y G H e i1 i2 Q q => by
    obtain ⟨p, vs, rfl, h1, h2⟩ := is_seq hs i2
    rw [is_str i1]
    refine ⟨p, vs, rfl, h1.elim (fun h => Or.inl (e.sl h)) (fun h => Or.inr (e.st h)), rfl, ?_, ?_⟩
    · rw [dps_strs h2]
      exact flat_strs ls
    · rw [if_neg (by decide), dps_strs h2, inV_strs]
      exact fin e q rfl mk_bool) hm
theorem xc_ninT {l : List Nat} {ls : List (List Nat)} {c : Ab} (ha : Xd C a A (.dat (pS l))) (hb : Xd C b A c) (hs : seqA c = some (ls.map pS)) (hm : behindInMarks .NotIn b = false := by rfl) : Xdc C (.Compare a [.NotIn] [b] pos) A (.dat (.bool (!decide (l ∈ ls)))) :=
  xe_cmp (r := rIn C.K true) (fun X hX => by have q := op_notIn_seq (X := X); rw [hX.K] at q; exact q) ha hb (rv_d fun x y G H e i1 i2 Q q => by
    obtain ⟨p, vs, rfl, h1, h2⟩ := is_seq hs i2
    rw [is_str i1]
    refine ⟨p, vs, rfl, h1.elim (fun h => Or.inl (e.sl h)) (fun h => Or.inr (e.st h)), rfl, ?_, ?_⟩
    · rw [dps_strs h2]
      exact flat_strs ls
    · rw [if_pos rfl, dps_strs h2, inV_strs]
      exact fin e q rfl mk_bool) hm
/-- data among data -/
theorem xc_ninD {d : PyData} {ds : List PyData} (ha : Xd C a A (.dat d)) (hb : Xd C b A (.dat (.list ds))) (h1 : SeqAt.shaped d = true) (h2 : SeqAt.shaped (.list ds) = true) (hm : behindInMarks .NotIn b = false := by rfl) : Xdc C (.Compare a [.NotIn] [b] pos) A (.dat (.bool (!ds.any fun z => PyData.eqv z d))) :=
  xe_cmp (r := rNotInD C.K) (fun X hX => by
    have q := op_notInD (X := X) (by have := hX.room.un; omega)
    rw [hX.K] at q
    exact q) ha hb (rv_d fun x y G H e i1 i2 Q q => ⟨d, ds, e.dp i1, e.dp i2, h1, h2, fin e q rfl mk_bool⟩) hm
/-- a truth among truths -/
theorem flat_bls : ∀ (bs : List Bool), (bs.map V.bl).all flatV = true
  | [] => rfl
  | l :: ls => by
    rw [List.map_cons, List.all_cons, flat_bls ls]
    rfl
theorem inV_bls (l : Bool) : ∀ (ls : List Bool), inV (V.bl l) (ls.map V.bl) = decide (l ∈ ls)
  | [] => by simp [inV]
  | m :: ls => by
    have ih := inV_bls l ls
    unfold inV at ih ⊢
    rw [List.map_cons, List.any_cons, ih]
    cases m <;> cases l <;> simp [eqV]
theorem xc_inL {i : Bool} {bs : List Bool} {c : Ab} (ha : Xd C a A (.dat (.bool i))) (hb : Xd C b A (.dat (.list (bs.map PyData.bool)))) (hm : behindInMarks .In b = false := by rfl) : Xdc C (.Compare a [.In] [b] pos) A (.dat (.bool (decide (i ∈ bs)))) :=
  xe_cmp (r := rIn C.K false) (fun X hX => by have q := op_in_seq (X := X); rw [hX.K] at q; exact q) ha hb (rv_d fun x y G H e i1 i2 Q q => by
    obtain ⟨p, vs, rfl, h1, h2⟩ := is_list i2
    rw [is_bool i1]
    refine ⟨p, vs, rfl, Or.inl (e.sl h1), rfl, ?_, ?_⟩
    · rw [dps_bools h2]
      exact flat_bls bs
    · rw [if_neg (by decide), dps_bools h2, inV_bls]
      exact fin e q rfl mk_bool) hm
theorem xc_ninL {i : Bool} {bs : List Bool} {c : Ab} (ha : Xd C a A (.dat (.bool i))) (hb : Xd C b A (.dat (.list (bs.map PyData.bool)))) (hm : behindInMarks .NotIn b = false := by rfl) : Xdc C (.Compare a [.NotIn] [b] pos) A (.dat (.bool (!decide (i ∈ bs)))) :=
  xe_cmp (r := rIn C.K true) (fun X hX => by have q := op_notIn_seq (X := X); rw [hX.K] at q; exact q) ha hb (rv_d fun x y G H e i1 i2 Q q => by
    obtain ⟨p, vs, rfl, h1, h2⟩ := is_list i2
    rw [is_bool i1]
    refine ⟨p, vs, rfl, Or.inl (e.sl h1), rfl, ?_, ?_⟩
    · rw [dps_bools h2]
      exact flat_bls bs
    · rw [if_pos rfl, dps_bools h2, inV_bls]
      exact fin e q rfl mk_bool) hm
/-! ### -1, 10 ** 18 -/
theorem xd_neg {i : Int} (ha : Xd C a A (.dat (.int i))) : Xd C (.UnaryOp .USub a pos) A (.dat (.int (-i))) := by
  obtain ⟨ta, a1, a2⟩ := ha
  refine ⟨tUn (rU fun i => .int (-i)) ta, fun X hX => pe_un un_neg (a1 X hX), fun H0 σ G H x m Q q => a2 H0 σ G H x m _ fun v G1 H1 c n1 s1 i1 => ?_⟩
  subst s1
  exact ⟨i, is_int i1, q _ G1 H1 _ n1 rfl mk_int⟩
theorem xd_neg1 {j : Nat} : Xd C (.UnaryOp .USub (.Constant (.int 1) j p) pos) A (.dat (.int (-1))) := xd_neg xd_int
theorem xd_pow {i k : Int} (ha : Xd C a A (.dat (.int i))) (hb : Xd C b A (.dat (.int k))) (h : CPow i k) : Xd C (.BinOp a .Pow b pos) A (.dat (.int (i ^ k.toNat))) := xe_bin (fun _ _ => op_pow) ha hb (rv_d (rv_Ii h))

/-! ### dicts read -/
theorem on_units {X : Cx} (hX : C.On X) : X.A.units + 1 < cLine := by have := hX.room.un; omega
theorem xd_dget {c d : Ab} {kd : PyData} (ha : Xd C a A c) (hb : Xd C b A (.dat kd)) (h : ∀ G H x y, Ex G H → Is C.K G x c → Is C.K G y (.dat kd) → ∃ ad v, x = .ref ad ∧ DGet H ad y (some v) ∧ Is C.K G v d) (hs : PlainIx b := by exact fun _ _ => rfl) : Xd C (.Subscript a b pos) A d := by
  obtain ⟨ta, a1, a2⟩ := ha
  obtain ⟨tb, b1, b2⟩ := hb
  refine ⟨tDGet ta tb, fun X hX => pe_dget (on_units hX) (a1 X hX) (b1 X hX) (nosl hs), fun H0 σ G H x m Q q => a2 H0 σ G H x m _ fun v G1 H1 z n1 s1 i1 => b2 H0 σ G1 H1 n1.s (m.up n1) _ fun u G2 H2 z2 n2 s2 i2 => ?_⟩
  subst s1 s2
  obtain ⟨ad, w, rfl, h1, h2⟩ := h G2 H2 v u n2.s (is_up n2.g i1) i2
  exact ⟨ad, w, rfl, h1, q w G2 H2 _ (n1.trans n2) rfl h2⟩
theorem xc_din {c : Ab} {kd : PyData} {r : Bool} (ha : Xd C a A (.dat kd)) (hb : Xd C b A c) (h : ∀ G H x y, Ex G H → Is C.K G x c → Is C.K G y (.dat kd) → ∃ ad o, x = .ref ad ∧ DGet H ad y o ∧ o.isSome = r) (hm : behindInMarks .In b = false := by rfl) : Xdc C (.Compare a [.In] [b] pos) A (.dat (.bool r)) := by
  obtain ⟨ta, a1, a2⟩ := ha
  obtain ⟨tb, b1, b2⟩ := hb
  refine ⟨tDIn ta tb, fun X hX => by
    have z := pc_din (on_units hX) (a1 X hX) (b1 X hX)
    exact ⟨pe_cmp z hm, pt_cmp z hm⟩, fun H0 σ G H x m Q q => a2 H0 σ G H x m _ fun v G1 H1 z n1 s1 i1 => b2 H0 σ G1 H1 n1.s (m.up n1) _ fun u G2 H2 z2 n2 s2 i2 => ?_⟩
  subst s1 s2
  obtain ⟨ad, o, rfl, h1, h2⟩ := h G2 H2 u v n2.s i2 (is_up n2.g i1)
  refine ⟨ad, o, rfl, h1, ?_⟩
  rw [h2]
  exact q _ G2 H2 _ (n1.trans n2) rfl mk_bool
def lkB (kvs : List (Nat × T8)) (c : Nat) : Option T8 := (kvs.find? fun p => decide (p.1 = c)).map Prod.snd
theorem bkK_lk (c : Nat) : ∀ (kvs : List (Nat × T8)), valV (bkK kvs) (Sum.inr (tx [c])) = (lkB kvs c).map fun t => V.str (tx (tt t))
  | [] => rfl
  | p :: r => by
    have ih := bkK_lk c r
    unfold valV lkB at ih ⊢
    show (List.find? _ ((Sum.inr (tx [p.1]), V.str (tx (tt p.2))) :: bkK r)).map _ = _
    by_cases h : p.1 = c
    · subst h
      rw [List.find?_cons_of_pos (by simp), List.find?_cons_of_pos (by simp)]
      rfl
    · rw [List.find?_cons_of_neg (by simp only [decide_eq_true_eq]; intro z; have := tx_inj (Sum.inr.inj z); simp at this; exact h this), List.find?_cons_of_neg (by simpa using h)]
      exact ih
theorem xd_getB {kvs : List (Nat × T8)} {c : Nat} {t : T8} (ha : Xd C a A (.book kvs)) (hb : Xd C b A (.dat (pS [c]))) (hl : lkB kvs c = some t) (hs : PlainIx b := by exact fun _ _ => rfl) : Xd C (.Subscript a b pos) A (.dat (pT t)) :=
  xd_dget ha hb (fun G H x y e i1 i2 => by
    obtain ⟨ad, rfl, h⟩ := i1
    refine ⟨ad, V.str (tx (tt t)), rfl, Or.inl ⟨_, Sum.inr (tx [c]), e.dk h, is_str i2, ?_⟩, mk_str⟩
    rw [bkK_lk, hl]
    rfl) hs
theorem xc_inB {kvs : List (Nat × T8)} {c : Nat} (ha : Xd C a A (.dat (pS [c]))) (hb : Xd C b A (.book kvs)) (hm : behindInMarks .In b = false := by rfl) : Xdc C (.Compare a [.In] [b] pos) A (.dat (.bool (lkB kvs c).isSome)) :=
  xc_din ha hb (fun G H x y e i1 i2 => by
    obtain ⟨ad, rfl, h⟩ := i1
    refine ⟨ad, _, rfl, Or.inl ⟨_, Sum.inr (tx [c]), e.dk h, is_str i2, rfl⟩, ?_⟩
    rw [bkK_lk, Option.isSome_map]) hm
theorem valV_hit {k : Key} {v : V} {r : List (Key × V)} : valV ((k, v) :: r) k = some v := by
  unfold valV
  rw [List.find?_cons_of_pos (by simp)]
  rfl
theorem valV_miss {x y : Str} {v : V} {r : List (Key × V)} (h : x ≠ y) : valV ((Sum.inr x, v) :: r) (Sum.inr y) = valV r (Sum.inr y) := by
  unfold valV
  rw [List.find?_cons_of_neg (by simp only [decide_eq_true_eq]; exact fun z => h (Sum.inr.inj z))]
theorem land_lk {r s b w : V} : valV (landK r s b w) (Sum.inr "rows") = some r ∧ valV (landK r s b w) (Sum.inr "start") = some s ∧ valV (landK r s b w) (Sum.inr "book") = some b ∧ valV (landK r s b w) (Sum.inr "wished") = some w := by
  unfold landK
  refine ⟨valV_hit, ?_, ?_, ?_⟩
  · rw [valV_miss (by decide +kernel), valV_hit]
  · rw [valV_miss (by decide +kernel), valV_miss (by decide +kernel), valV_hit]
  · rw [valV_miss (by decide +kernel), valV_miss (by decide +kernel), valV_miss (by decide +kernel), valV_hit]
section
variable {rows : List (List Nat)} {st : Sd} {bk : List (Nat × T8)} {ws : List Pl} {j : Nat}
theorem xd_lRows (ha : Xd C a A (.land rows st bk ws)) : Xd C (.Subscript a (.Constant (.str "rows") j p) pos) A (.dat (.list (rows.map pS))) := xd_dget ha xd_str0 (fun G H x y e i1 i2 => by
  obtain ⟨ad, r, s, b, w, rfl, h, h1, h2, h3, h4⟩ := i1
  exact ⟨ad, r, rfl, Or.inl ⟨_, Sum.inr "rows", e.dk h, is_str i2, land_lk.1.symm⟩, h1⟩)
theorem xd_lStart (ha : Xd C a A (.land rows st bk ws)) : Xd C (.Subscript a (.Constant (.str "start") j p) pos) A (.dat (pSd st)) := xd_dget ha xd_str0 (fun G H x y e i1 i2 => by
  obtain ⟨ad, r, s, b, w, rfl, h, h1, h2, h3, h4⟩ := i1
  exact ⟨ad, s, rfl, Or.inl ⟨_, Sum.inr "start", e.dk h, is_str i2, land_lk.2.1.symm⟩, h2⟩)
theorem xd_lBook (ha : Xd C a A (.land rows st bk ws)) : Xd C (.Subscript a (.Constant (.str "book") j p) pos) A (.book bk) := xd_dget ha xd_str0 (fun G H x y e i1 i2 => by
  obtain ⟨ad, r, s, b, w, rfl, h, h1, h2, h3, h4⟩ := i1
  exact ⟨ad, b, rfl, Or.inl ⟨_, Sum.inr "book", e.dk h, is_str i2, land_lk.2.2.1.symm⟩, h3⟩)
theorem xd_lWished (ha : Xd C a A (.land rows st bk ws)) : Xd C (.Subscript a (.Constant (.str "wished") j p) pos) A (.dat (.list (ws.map pP))) := xd_dget ha xd_str0 (fun G H x y e i1 i2 => by
  obtain ⟨ad, r, s, b, w, rfl, h, h1, h2, h3, h4⟩ := i1
  exact ⟨ad, w, rfl, Or.inl ⟨_, Sum.inr "wished", e.dk h, is_str i2, land_lk.2.2.2.symm⟩, h4⟩)
end
/-! ### a dict of texts to data -/
theorem dctK_lk {K : PySem.W.Frag} {G : Hp} : ∀ {kvs : List (Str × PyData)} {vs : List V} {k : Str} {d : PyData}, DpAll K G vs (kvs.map Prod.snd) → lkA kvs k = some d → ∃ v, valV (dctK kvs vs) (Sum.inr k) = some v ∧ Dp K G v d
  | [], _, k, d, _, h => by cases h
  | (j, a) :: r, _, k, d, hd, h => by
    cases hd with
    | @cons v vs _ _ h1 h2 =>
      by_cases e : j = k
      · subst e
        unfold lkA at h
        rw [List.find?_cons_of_pos (by simp)] at h
        cases h
        refine ⟨v, ?_, h1⟩
        show valV ((Sum.inr j, v) :: dctK r vs) (Sum.inr j) = some v
        unfold valV
        rw [List.find?_cons_of_pos (by simp)]
        rfl
      · unfold lkA at h
        rw [List.find?_cons_of_neg (by simpa using e)] at h
        obtain ⟨u, k1, k2⟩ := dctK_lk h2 h
        refine ⟨u, ?_, k2⟩
        show valV ((Sum.inr j, v) :: dctK r vs) (Sum.inr k) = _
        unfold valV at k1 ⊢
        rw [List.find?_cons_of_neg (by simpa using e)]
        exact k1
theorem xd_getC {kvs : List (Str × PyData)} {z : Str} {d : PyData} (ha : Xd C a A (.dct kvs)) (hb : Xd C b A (.dat (.str z))) (hl : lkA kvs z = some d) (hs : PlainIx b := by exact fun _ _ => rfl) : Xd C (.Subscript a b pos) A (.dat d) :=
  xd_dget ha hb (fun G H x y e i1 i2 => by
    obtain ⟨ad, vs, rfl, h, hd⟩ := i1
    obtain ⟨v, h1, h2⟩ := dctK_lk hd hl
    exact ⟨ad, v, rfl, Or.inl ⟨_, Sum.inr z, e.dk h, is_str i2, h1.symm⟩, h2⟩) hs
theorem xi_eq {tg iter : Expr} {its its' : List (List Ab)} (h : Xid C tg iter A its) (e : its = its') : Xid C tg iter A its' := e ▸ h
theorem flat_one {α : Type} (r : List α) (f : α → Nat) : (r.map fun d => [f d]).flatten = r.map f := by
  induction r with
  | nil => rfl
  | cons d r ih => rw [List.map_cons, List.flatten_cons, ih]; rfl
theorem filt {α : Type} (l : List α) : l.filter (fun _ => true) = l := by
  induction l with
  | nil => rfl
  | cons a l ih => rw [List.filter_cons_of_pos rfl, ih]
theorem xd_lenS {l : List Nat} (ha : Xd C e A (.dat (pS l))) (hl : l.length ≤ 100000) (hg : gloB C.sc "len" = true := by (try dsimp only [Ct.blk]); decide +kernel) (hst : noStars [e] = true := by rfl) : Xd C (.Call (.Name "len" p) [e] [] pos) A (.dat (.int l.length)) :=
  xd_len ha (by
    show (if (tx l).length ≤ 100000 then some (tx l).length else none) = some l.length
    rw [tx_len, if_pos hl]) hg hst
end
end Oh
set_option maxHeartbeats 4000000
/-! OhJ: displays of dicts, what is ours made known, dict(..). -/
namespace Oh
open PySem L2 PySem.Spec PyProof.Rows
/-! ### displays -/
def EvP (K : PySem.W.Frag) (trs : List (TE × TE)) (A : AS) (S : List (Str × Ab) → Prop) : Prop := ∀ (H0 : Hp) (σ : L2.St) (G H : Hp), Ex G H → M K A H0 σ G H → ∀ Q : List (V × V) → Hp → Prop, (∀ kvs vs G' H', Nx G H G' H' → S kvs → IsA K G' vs (kvs.map Prod.snd) → Q ((odK kvs vs).map fun kv => (kV kv.1, kv.2)) H') → tPairs trs σ H Q
def Xp2 (C : Ct) (keys : List (Option Expr)) (values : List Expr) (A : AS) (S : List (Str × Ab) → Prop) : Prop := ∃ trs, (∀ X, C.On X → ∀ pos, PPs X pos keys values trs) ∧ EvP C.K trs A S
section
variable {C : Ct} {A : AS} {e k : Expr} {keys : List (Option Expr)} {values : List Expr} {pos p : Pos} {z : Str} {S S2 : List (Str × Ab) → Prop} {Sa : Ab → Prop}
theorem x2_nil : Xp2 C [] [] A (fun kvs => kvs = []) := ⟨[], fun _ _ _ => pps_nil, fun H0 σ G H x m Q q => q [] [] G H (Nx.refl x) rfl trivial⟩
theorem x2_cons {j : Nat} (ha : Xe C e A Sa) (hr : Xp2 C keys values A S) (hs : ∀ a kvs, Sa a → S kvs → S2 ((z, a) :: kvs)) : Xp2 C (some (.Constant (.str z) j p) :: keys) (e :: values) A S2 := by
  obtain ⟨ta, a1, a2⟩ := ha
  obtain ⟨trs, r1, r2⟩ := hr
  refine ⟨(tC (.str z), ta) :: trs, fun X hX pos => pps_cons pe_str (a1 X hX) (r1 X hX pos), fun H0 σ G H x m Q q => ?_⟩
  show ta σ H fun y H2 => tPairs trs σ H2 fun ps H3 => Q ((V.str z, y) :: ps) H3
  refine a2 H0 σ G H x m _ fun v G1 H1 a n1 s1 i1 => r2 H0 σ G1 H1 n1.s (m.up n1) _ fun kvs vs G2 H2 n2 s2 i2 => ?_
  exact q ((z, a) :: kvs) (v :: vs) G2 H2 (n1.trans n2) (hs a kvs s1 s2) ⟨is_up n2.g i1, i2⟩
abbrev Xp2d (C : Ct) (keys : List (Option Expr)) (values : List Expr) (A : AS) (kvs : List (Str × Ab)) : Prop := Xp2 C keys values A (fun z => z = kvs)
theorem x2_consD {j : Nat} {a : Ab} {kvs : List (Str × Ab)} (ha : Xd C e A a) (hr : Xp2d C keys values A kvs) : Xp2d C (some (.Constant (.str z) j p) :: keys) (e :: values) A ((z, a) :: kvs) := x2_cons ha hr fun _ _ e1 e2 => by rw [e1, e2]
theorem x2_nilD : Xp2d C [] [] A [] := x2_nil
theorem mergeK_app : ∀ (more kvs : List (Key × V)), (more.map Prod.fst).Nodup → (∀ p ∈ more, p.1 ∉ kvs.map Prod.fst) → mergeK kvs more = kvs ++ more
  | [], kvs, _, _ => by simp [mergeK]
  | p :: r, kvs, hn, hd => by
    have hp : valV kvs p.1 = none := by
      unfold valV
      rw [Option.map_eq_none_iff, List.find?_eq_none]
      intro q hq
      simp only [decide_eq_true_eq]
      intro z
      exact hd p List.mem_cons_self (List.mem_map.mpr ⟨q, hq, z⟩)
    show mergeK (putK kvs p.1 p.2) r = _
    rw [putK_new p.2 hp]
    rw [List.map_cons, List.nodup_cons] at hn
    rw [mergeK_app r _ hn.2 fun q hq z => ?_]
    · simp
    · rw [List.map_append, List.mem_append] at z
      rcases z with z | z
      · exact hd q (List.mem_cons_of_mem _ hq) z
      · have : q.1 = p.1 := by simpa using z
        exact hn.1 (List.mem_map.mpr ⟨q, hq, this⟩)
theorem mergeK_nil {more : List (Key × V)} (h : (more.map Prod.fst).Nodup) : mergeK [] more = more := by
  rw [mergeK_app more [] h fun p _ z => by cases z]
  rfl
theorem nodup_map {α β : Type} {f : α → β} (hf : ∀ a b, f a = f b → a = b) : ∀ {l : List α}, l.Nodup → (l.map f).Nodup
  | [], _ => List.nodup_nil
  | a :: l, h => by
    rw [List.map_cons, List.nodup_cons]
    rw [List.nodup_cons] at h
    refine ⟨fun m => ?_, nodup_map hf h.2⟩
    obtain ⟨b, hb, e⟩ := List.mem_map.mp m
    rw [hf b a e] at hb
    exact h.1 hb
theorem nodup_inr {l : List Str} (h : l.Nodup) : (l.map fun z => (Sum.inr z : Key)).Nodup := nodup_map (fun a b e => Sum.inr.inj e) h
theorem xo_disp (h : Xp2 C keys values A S) (hn : ∀ kvs, S kvs → (kvs.map Prod.fst).Nodup ∧ kvs.length ≤ 15) (h1 : keys.all (·.isSome) = true := by rfl) (h2 : keys.length = values.length := by rfl) (h3 : keys ≠ [] := by exact nofun) (h4 : keys.length ≤ 15 := by exact Nat.le_of_ble_eq_true rfl) : Xo C (.Dict keys values pos) A (fun o => ∃ kvs, S kvs ∧ o = .od kvs) := by
  obtain ⟨trs, r1, r2⟩ := h
  refine ⟨tDisp trs, fun X hX => pe_disp (r1 X hX pos) h1 h2 h3 h4, fun H0 σ G H x m Q q p hp => ?_⟩
  have n0 : Nx G H G (upd H p (.dK [])) := Nx.hid x hp
  refine r2 H0 σ G _ n0.s (m.up n0) _ fun kvs vs G1 H1 n1 s1 i1 => ?_
  obtain ⟨g1, h1'⟩ := n1.n p _ (by exact trivial) (x.back hp) upd_same
  have hk : (odK kvs vs).map Prod.fst = kvs.map (fun p => Sum.inr p.1) := odK_keys i1
  have hnd : ((odK kvs vs).map Prod.fst).Nodup := by
    rw [hk]
    have := nodup_inr (hn kvs s1).1
    rw [List.map_map] at this
    exact this
  refine ⟨h1', odK kvs vs, rfl, ?_, ?_⟩
  · rw [odK_len (by rw [i1.len, List.length_map])]
    exact (hn kvs s1).2
  · rw [mergeK_nil hnd]
    exact q p G1 _ _ ((n0.trans n1).mut hp g1) hp g1 ⟨kvs, s1, rfl⟩ ⟨vs, upd_same, i1⟩
theorem xo_dispD {kvs : List (Str × Ab)} (h : Xp2d C keys values A kvs) (hn : (kvs.map Prod.fst).Nodup := by decide +kernel) (hl : kvs.length ≤ 15 := by exact Nat.le_of_ble_eq_true rfl) (h1 : keys.all (·.isSome) = true := by rfl) (h2 : keys.length = values.length := by rfl) (h3 : keys ≠ [] := by exact nofun) (h4 : keys.length ≤ 15 := by exact Nat.le_of_ble_eq_true rfl) : Xo C (.Dict keys values pos) A (fun o => o = .od kvs) :=
  (xo_disp h (fun z e => by rw [e]; exact ⟨hn, hl⟩) h1 h2 h3 h4).imp fun o ⟨z, e, ho⟩ => by rw [ho, e]

/-! ### made known -/
def datA (kvs : List (Str × PyData)) : List (Str × Ab) := kvs.map fun p => (p.1, Ab.dat p.2)
theorem odK_dct : ∀ (kvs : List (Str × PyData)) (vs : List V), odK (datA kvs) vs = dctK kvs vs
  | [], _ => rfl
  | _ :: _, [] => rfl
  | p :: r, v :: vs => by
    show (Sum.inr p.1, v) :: odK (datA r) vs = (Sum.inr p.1, v) :: dctK r vs
    rw [odK_dct r vs]
theorem isA_datA {K : PySem.W.Frag} {G : Hp} : ∀ {kvs : List (Str × PyData)} {vs : List V}, IsA K G vs ((datA kvs).map Prod.snd) → DpAll K G vs (kvs.map Prod.snd)
  | [], [], _ => .nil
  | [], _ :: _, h => h.elim
  | _ :: _, [], h => h.elim
  | _ :: _, _ :: _, h => .cons h.1 (isA_datA h.2)
theorem pub_dct {K : PySem.W.Frag} {kvs : List (Str × PyData)} : PubTo K (.od (datA kvs)) (.dct kvs) := fun G0 H0 G H p x h0 hg h => by
  obtain ⟨vs, h1, h2⟩ := h
  exact ⟨upd G p (.dK (odK (datA kvs) vs)), x.pub h0 hg h1, Ex.new hg, p, vs, rfl, by rw [odK_dct]; exact Rd.of upd_same, (Ex.new hg).dps (isA_datA h2)⟩
theorem Xo.dct {kvs : List (Str × PyData)} {ks : List (Str × Ab)} (h : Xo C e A (fun o => o = .od ks)) (hk : ks = datA kvs) : Xd C e A (.dct kvs) := h.xe fun o e => ⟨_, by rw [e, hk]; exact pub_dct, rfl⟩
def bkA (bk : List (Nat × T8)) : List (Str × Ab) := bk.map fun p => (tx [p.1], Ab.dat (pT p.2))
theorem odK_bk {K : PySem.W.Frag} {G : Hp} : ∀ {bk : List (Nat × T8)} {vs : List V}, IsA K G vs ((bkA bk).map Prod.snd) → odK (bkA bk) vs = bkK bk
  | [], [], _ => rfl
  | [], _ :: _, h => h.elim
  | _ :: _, [], h => h.elim
  | p :: r, v :: vs, h => by
    show (Sum.inr (tx [p.1]), v) :: odK (bkA r) vs = (Sum.inr (tx [p.1]), V.str (tx (tt p.2))) :: bkK r
    rw [odK_bk h.2, is_str h.1]
theorem pub_book {K : PySem.W.Frag} {bk : List (Nat × T8)} : PubTo K (.od (bkA bk)) (.book bk) := fun G0 H0 G H p x h0 hg h => by
  obtain ⟨vs, h1, h2⟩ := h
  exact ⟨upd G p (.dK (odK (bkA bk) vs)), x.pub h0 hg h1, Ex.new hg, p, rfl, by rw [odK_bk h2]; exact Rd.of upd_same⟩
def landA (rows : List (List Nat)) (st : Sd) (bk : List (Nat × T8)) (ws : List Pl) : List (Str × Ab) := [("rows", .dat (.list (rows.map pS))), ("start", .dat (pSd st)), ("book", .book bk), ("wished", .dat (.list (ws.map pP)))]
theorem odK_cons {z : Str} {a : Ab} {r : List (Str × Ab)} {v : V} {vs : List V} : odK ((z, a) :: r) (v :: vs) = (Sum.inr z, v) :: odK r vs := rfl
theorem odK_land {rows : List (List Nat)} {st : Sd} {bk : List (Nat × T8)} {ws : List Pl} {r s b w : V} : odK (landA rows st bk ws) [r, s, b, w] = landK r s b w := by
  unfold landA landK
  rw [odK_cons, odK_cons, odK_cons, odK_cons]
  rfl
theorem isA_four {K : PySem.W.Frag} {G : Hp} {vs : List V} {c d f h : Ab} (i : IsA K G vs [c, d, f, h]) : ∃ v u w z, vs = [v, u, w, z] ∧ Is K G v c ∧ Is K G u d ∧ Is K G w f ∧ Is K G z h := by
  match vs, i with
  | [v, u, w, z], i => exact ⟨v, u, w, z, rfl, i.1, i.2.1, i.2.2.1, i.2.2.2.1⟩
theorem landA_snd {rows : List (List Nat)} {st : Sd} {bk : List (Nat × T8)} {ws : List Pl} : (landA rows st bk ws).map Prod.snd = [.dat (.list (rows.map pS)), .dat (pSd st), .book bk, .dat (.list (ws.map pP))] := rfl
theorem pub_land {K : PySem.W.Frag} {rows : List (List Nat)} {st : Sd} {bk : List (Nat × T8)} {ws : List Pl} : PubTo K (.od (landA rows st bk ws)) (.land rows st bk ws) := fun G0 H0 G H p x h0 hg h => by
  obtain ⟨vs, h1, h2⟩ := h
  rw [landA_snd] at h2
  obtain ⟨r, s, b, w, rfl, i1, i2, i3, i4⟩ := isA_four h2
  rw [odK_land] at h1
  have e := Ex.new (o := .dK (landK r s b w)) hg
  exact ⟨upd G p (.dK (landK r s b w)), x.pub h0 hg h1, e, p, r, s, b, w, rfl, Rd.of upd_same, e.dp i1, e.dp i2, isB_up e i3, e.dp i4⟩
/-- dict(land), a copy of ours -/
theorem xo_dictL [g : Gx C.ga] {a : Expr} {p2 : Pos} {rows : List (List Nat)} {st : Sd} {bk : List (Nat × T8)} {ws : List Pl} (ha : Xd C a A (.land rows st bk ws)) (hg : gloB C.sc "dict" = true := by (try dsimp only [Ct.blk]); decide +kernel) (hst : noStars [a] = true := by rfl) : Xo C (.Call (.Name "dict" p2) [a] [] pos) A (fun o => o = .od (landA rows st bk ws)) := by
  obtain ⟨t, a1, a2⟩ := xs_cons ha xs_nil (noStars_cons hst).1
  refine ⟨tCB _ t, fun X hX => pe_callTy call_dictD (hX.gl hg) (by rw [hX.mg]; exact g.bDict) (by decide +kernel) (a1 X hX) (by decide +kernel) (by decide +kernel) (star_one (noStars_cons hst).1) (backTo_any (noStars_any (noStars_cons hst).2)), fun H0 σ G H x m Q q => a2 H0 σ G H x m _ fun vs G1 H1 as n1 s1 i1 => ?_⟩
  subst s1
  obtain ⟨v, rfl, ad, r, s, b, w, rfl, h, h1, h2, h3, h4⟩ := isA_one i1
  refine ⟨ad, _, rfl, n1.s.dk h, fun l hl => ?_⟩
  exact q l G1 _ _ (n1.trans (Nx.hid n1.s hl)) (n1.e.dom l hl) (n1.s.back hl) rfl ⟨[r, s, b, w], by rw [odK_land]; exact upd_same, by rw [landA_snd]; exact ⟨h1, h2, h3, h4, trivial⟩⟩
/-- dict([(letter, turn), ..]) -/
theorem xe_dictP [g : Gx C.ga] {a : Expr} {p2 : Pos} {P : List (Nat × T8) → Prop} (ha : Xe C a A (fun z => ∃ bk : List (Nat × T8), P bk ∧ z = .dat (.list (bk.map fun p => .tuple [pS [p.1], pT p.2])))) (hn : ∀ bk, P bk → (bk.map Prod.fst).Nodup) (hg : gloB C.sc "dict" = true := by (try dsimp only [Ct.blk]); decide +kernel) (hst : noStars [a] = true := by rfl) : Xe C (.Call (.Name "dict" p2) [a] [] pos) A (fun z => ∃ bk, P bk ∧ z = .book bk) :=
  xe_callTy (fun X hX => by have q := call_dictP (X := X) hX.calm; rw [hX.K] at q; exact q) g.bDict (by decide +kernel) (xa_cons (S2 := fun as => ∃ bk : List (Nat × T8), P bk ∧ as = [.dat (.list (bk.map fun p => .tuple [pS [p.1], pT p.2]))]) ha xa_nil (fun c cs h1 h2 => by obtain ⟨bk, hP, e⟩ := h1; exact ⟨bk, hP, by rw [e, h2]⟩) (noStars_cons hst).1) (fun as ⟨bk, hP, eas⟩ vs G H x ia Q q => by
    subst eas
    have hn := hn bk hP
    obtain ⟨v, rfl, i⟩ := isA_one ia
    obtain ⟨l, us, rfl, h1, h2⟩ := is_list i
    have key : ∀ (bk : List (Nat × T8)) (us : List V), DpAll C.K G us (bk.map fun p => .tuple [pS [p.1], pT p.2]) → ∃ ps, us = ps.map V.ref ∧ Paired (fun p (kv : Key × V) => SqT C.K H p [kV kv.1, kv.2]) ps (bkK bk) := by
      intro bk
      induction bk with
      | nil =>
        intro us h
        cases h
        exact ⟨[], rfl, .nil⟩
      | cons p r ih =>
        intro us h
        cases h with
        | cons k1 k2 =>
          obtain ⟨ps, rfl, hp⟩ := ih _ k2
          obtain ⟨tp, ws, rfl, e1, e2⟩ := is_tup k1
          cases e2 with
          | cons c1 c2 =>
            cases c2 with
            | cons c2 c3 =>
              cases c3
              rw [is_str c1, is_str c2] at e1
              exact ⟨tp :: ps, rfl, .cons (x.st e1) hp⟩
    obtain ⟨ps, rfl, hp⟩ := key bk us h2
    refine ⟨l, ps, bkK bk, rfl, x.sl h1, hp, fun d hd => ?_⟩
    have hnd : ((bkK bk).map Prod.fst).Nodup := by
      have e : (bkK bk).map Prod.fst = (bk.map Prod.fst).map fun c => (Sum.inr (tx [c]) : Key) := by
        unfold bkK
        rw [List.map_map, List.map_map]
        rfl
      rw [e]
      exact nodup_map (fun a b z => by have := tx_inj (Sum.inr.inj z); simpa using this) hn
    rw [mergeK_nil hnd]
    exact q _ _ _ _ (Nx.new (o := .dK (bkK bk)) x hd) ⟨bk, hP, rfl⟩ ⟨d, rfl, Rd.of upd_same⟩) hg hst
theorem xd_dictP [g : Gx C.ga] {a : Expr} {p2 : Pos} {bk : List (Nat × T8)} (ha : Xd C a A (.dat (.list (bk.map fun p => .tuple [pS [p.1], pT p.2])))) (hn : (bk.map Prod.fst).Nodup) (hg : gloB C.sc "dict" = true := by (try dsimp only [Ct.blk]); decide +kernel) (hst : noStars [a] = true := by rfl) : Xd C (.Call (.Name "dict" p2) [a] [] pos) A (.book bk) :=
  (xe_dictP (P := fun b => b = bk) (ha.imp fun z e => ⟨bk, rfl, e⟩) (fun b e => by rw [e]; exact hn) hg hst).imp fun z ⟨b, e1, e2⟩ => by rw [e2, e1]
theorem x2_consT (l : List Nat) {j : Nat} {a : Ab} {kvs : List (Str × Ab)} (ha : Xd C e A a) (hr : Xp2d C keys values A kvs) (hz : z = tx l := by decide +kernel) : Xp2d C (some (.Constant (.str z) j p) :: keys) (e :: values) A ((tx l, a) :: kvs) := by
  subst hz
  exact x2_consD ha hr
theorem lkT {α : Type} {l m : List Nat} {a : α} {r : List (Str × α)} : lkA ((tx l, a) :: r) (tx m) = if l = m then some a else lkA r (tx m) := by
  by_cases h : l = m
  · subst h
    unfold lkA
    rw [if_pos rfl, List.find?_cons_of_pos (by simp)]
    rfl
  · unfold lkA
    rw [if_neg h, List.find?_cons_of_neg (by simp only [decide_eq_true_eq]; exact fun e => h (tx_inj e))]
theorem nodup_tx {ls : List (List Nat)} (h : ls.Nodup) : (ls.map tx).Nodup := nodup_map (fun _ _ e => tx_inj e) h
end
end Oh
set_option maxHeartbeats 4000000
/-! OhK: instances made and filled. -/
namespace Oh
open PySem L2 PySem.Spec PyProof.Rows
def putI (f : Str) (a : Ab) : List (Str × Ab) → List (Str × Ab)
  | [] => [(f, a)]
  | (g, x) :: r => if g = f then (g, a) :: r else (g, x) :: putI f a r
theorem insK_put {K : PySem.W.Frag} {G : Hp} {f : Str} {a : Ab} {v : V} (hv : Is K G v a) : ∀ {fs : List (Str × Ab)} {vs : List V}, IsA K G vs (fs.map Prod.snd) → ∃ us, putF f v (insK fs vs) = insK (putI f a fs) us ∧ IsA K G us ((putI f a fs).map Prod.snd)
  | [], [], _ => ⟨[v], rfl, hv, trivial⟩
  | [], _ :: _, h => h.elim
  | _ :: _, [], h => h.elim
  | (g, x) :: r, u :: us, h => by
    by_cases e : g = f
    · refine ⟨v :: us, ?_, ?_⟩
      · show putF f v ((g, u) :: insK r us) = insK (if g = f then (g, a) :: r else _) _
        rw [if_pos e]
        show (if g = f then _ else _) = _
        rw [if_pos e]
        rfl
      · show IsA K G _ ((if g = f then (g, a) :: r else _).map Prod.snd)
        rw [if_pos e]
        exact ⟨hv, h.2⟩
    · obtain ⟨ws, h1, h2⟩ := insK_put hv (fs := r) (vs := us) h.2
      refine ⟨u :: ws, ?_, ?_⟩
      · show putF f v ((g, u) :: insK r us) = insK (if g = f then _ else (g, x) :: putI f a r) _
        rw [if_neg e]
        show (if g = f then _ else _) = _
        rw [if_neg e, h1]
        rfl
      · show IsA K G _ ((if g = f then _ else (g, x) :: putI f a r).map Prod.snd)
        rw [if_neg e]
        exact ⟨h.1, h2⟩
theorem insK_len {fs : List (Str × Ab)} {vs : List V} (h : vs.length = fs.length) : (insK fs vs).length = fs.length := by
  unfold insK
  rw [List.length_map, List.length_zip, h, Nat.min_self]
section
variable {C : Ct} {A : AS} {E : AE} {S : Ab → Prop} {e : Expr} {es : List Expr} {pos p apos : Pos} {x f : Str}
/-- self.f = e -/
theorem xq_fldO (i : Nat) {y Cl : Addr} {fs : List (Str × Ab)} (how : A.ow = some (i, .oi y Cl fs)) (hcl : Cls C.K Cl) (hna : NoAttr C.K Cl f) (he : Xe C e A S) (k : ∀ a, S a → E.nx (A.ows (.oi y Cl (putI f a fs)))) (hl : fs.length < 1000 := by exact Nat.le_of_ble_eq_true rfl) (hN : C.N[i]? = some x := by rfl) (hv : visB C.sc x = true := by (try dsimp only [Ct.blk]); decide +kernel)
    (hdb : (x == ("__debug__" : Str)) = false := by decide +kernel) (hcd : (x == ("__classdict__" : Str)) = false := by decide +kernel) (hs : ∀ env : Env, swapsWith e (some (.Attribute (.Name x p) f apos)) pos.line env = pure false := by intro _; rfl) : Xq C (.Assign [.Attribute (.Name x p) f apos] e pos) A E := fun D G0 H0 ok σ G H n0 m => by
  refine ⟨sFld C.K (tVar i) (UE C e) f, fun X hX => by
    have z := ps_fld (pos' := apos) (f := f) (pos := pos) (pe_var (pos := p) (by rw [hX.N]; exact hN) (hX.vis hv) hdb hcd) (pe_UE (e := e) hX) (hs X.env)
    rw [hX.K] at z
    exact z, he.ev H0 σ G H n0.s m _ fun v G1 H1 a n1 s1 i1 => ?_⟩
  have mo := (m.up n1).own
  rw [how] at mo
  obtain ⟨pa, h1, h2, h3, hy, dx, vs, h4, h5⟩ := mo
  obtain ⟨us, e1, e2⟩ := insK_put (f := f) i1 h5
  refine ⟨.ref pa, h1, pa, Cl, dx, _, rfl, h4, hcl, hna, ?_, ?_⟩
  · rw [insK_len (by rw [h5.len, List.length_map])]
    exact hl
  · rw [e1]
    exact ok.nx _ σ G1 _ (k a s1) ((n0.step n1).mut h2 h3) ((m.up n1).reown how h1 h2 h3 ⟨hy, dx, us, upd_same, e2⟩)
theorem xq_fldD (i : Nat) {y Cl : Addr} {fs : List (Str × Ab)} {a : Ab} (how : A.ow = some (i, .oi y Cl fs)) (hcl : Cls C.K Cl) (hna : NoAttr C.K Cl f) (he : Xd C e A a) (k : E.nx (A.ows (.oi y Cl (putI f a fs)))) (hl : fs.length < 1000 := by exact Nat.le_of_ble_eq_true rfl) (hN : C.N[i]? = some x := by rfl) (hv : visB C.sc x = true := by (try dsimp only [Ct.blk]); decide +kernel)
    (hdb : (x == ("__debug__" : Str)) = false := by decide +kernel) (hcd : (x == ("__classdict__" : Str)) = false := by decide +kernel) (hs : ∀ env : Env, swapsWith e (some (.Attribute (.Name x p) f apos)) pos.line env = pure false := by intro _; rfl) : Xq C (.Assign [.Attribute (.Name x p) f apos] e pos) A E :=
  xq_fldO i how hcl hna he (fun b e => by rw [e]; exact k) hl hN hv hdb hcd hs
end

/-! ### __init__ -/
structure ConI where
  α : Type
  pre : α → Prop
  args : α → List Ab
  fin : α → List (Str × Ab)
def spI (K : PySem.W.Frag) (Cl : Addr) (c : ConI) : Sp := fun vs H Q _ => ∃ (g : c.α) (G H0 : Hp) (x dx : Addr) (rest : List V), c.pre g ∧ vs = .ref x :: rest ∧ Nx G H0 G H ∧ H0 x = none ∧ G x = none ∧ H x = some (.ins Cl dx []) ∧ IsA K G rest (c.args g) ∧
  ∀ G' H', Nx G H0 G' H' → G' x = none → OwIs K H0 G' H' x (.oi x Cl (c.fin g)) → Q .non H'
def AS.ofI (x Cl : Addr) (N : List Str) (as : List Ab) : AS := ⟨none :: (as.map some ++ List.replicate (N.length - 1 - as.length) none), some (0, .oi x Cl [])⟩
section
variable {Γ : Ga} {k : Nat} {c : ConI} {y qual : Str} {params : Arguments} {body : List Stmt} {scope : Scope} {dvs : List V} {kws : List (Str × V)} {f Cl : Addr} {fd : FuncData} {N ps : List Str}
theorem fn_okI (F : FunD Γ.K y qual params body scope dvs kws f fd) (S : FnScope N ps scope) (hl : ∀ g, c.pre g → (c.args g).length + 1 = ps.length)
    (hb : ∀ g x, c.pre g → Xp ⟨Γ, N, scope, k, fun _ => true⟩ body (AS.ofI x Cl N (c.args g)) ⟨fun B => B.ow = some (0, .oi x Cl (c.fin g)), fun a => False, fun _ => False, fun _ => False⟩) : FnOk Γ.P Γ.w Γ.K Γ.mg Γ.base CX0 (k + 1) f fd ps (spI Γ.K Cl c) := by
  refine F.ok S (fun vs H Q E h => ?_) (fun cdv A outer s H vs Q E hr h => ?_)
  · obtain ⟨g, G, H0, x, dx, rest, hp, rfl, _, _, _, _, hi, _⟩ := h
    show rest.length + 1 = _
    rw [hi.len]
    exact hl g hp
  · obtain ⟨g, G, H0, x, dx, rest, hp, rfl, hx, h0, hg, hH, hi, q⟩ := h
    obtain ⟨t, h1, h2⟩ := hb g x hp { nx := fun _ H' => Q .non H', rt := Q } G H0 ⟨fun A σ G' H' z n m => by
      have mo := m.own
      rw [show A.ow = _ from z] at mo
      obtain ⟨pa, k1, k2, k3, k4⟩ := mo
      have e : pa = x := k4.1
      subst e
      exact q G' H' n k3 k4, fun a v G' H' z n i => z.elim, fun _ _ _ _ z => z.elim, fun _ _ _ _ z => z.elim⟩ (L2.start N (.ref x :: rest)) G H hx (by
      refine ⟨?_, ?_, x, ?_, h0, hg, rfl, dx, [], hH, trivial⟩
      · unfold L2.start AS.ofI
        simp only [List.length_append, List.length_map, List.length_replicate, List.length_cons]
        rw [hi.len]
        omega
      · intro i a e
        cases i with
        | zero => cases e
        | succ i =>
          have e' : ((c.args g).map some ++ List.replicate (N.length - 1 - (c.args g).length) none)[i]? = some (some a) := by
            unfold AS.ofI at e
            simpa using e
          obtain ⟨v, k1, k2⟩ := start_at hi _ i a e'
          refine ⟨v, ?_, k2⟩
          unfold L2.start
          have e2 : N.length - (V.ref x :: rest).length = N.length - 1 - (c.args g).length := by
            rw [List.length_cons, hi.len]
            omega
          rw [e2]
          simpa using k1
      · unfold L2.start
        rfl)
    exact ⟨t, PSs.nox (h1 _ ⟨rfl, rfl, rfl, rfl, rfl, rfl, rfl, rfl, rfl, hr, S.nd, rfl⟩), h2⟩
end
def HasI (Γ : Ga) (k : Nat) (Cl : Addr) (c : ConI) : Prop := ∃ (f : Addr) (fd : FuncData) (ps : List Str), FnOk Γ.P Γ.w Γ.K Γ.mg Γ.base CX0 k f fd ps (spI Γ.K Cl c) ∧ Mk Γ.K Cl f ∧ Binds Γ.K fd ps []
section
variable {C : Ct} {A : AS} {E : AE} {S : Ab → Prop} {e : Expr} {es : List Expr} {pos p apos : Pos} {x f : Str} {k : Nat} {c : ConI} {Cl : Addr}
theorem made_own {K : PySem.W.Frag} {G1 H1 : Hp} (x1 : Ex G1 H1) {x dx : Addr} (hx : H1 x = none) (hdx : H1 dx = none) (hne : dx ≠ x) : Nx G1 H1 G1 (upd (upd H1 dx (.own x)) x (.ins Cl dx [])) ∧ (upd (upd H1 dx (.own x)) x (.ins Cl dx [])) x = some (.ins Cl dx []) := by
  have n1 : Nx G1 H1 G1 (upd H1 dx (.own x)) := Nx.hid x1 hdx
  have hx2 : (upd H1 dx (.own x)) x = none := by rw [upd_ne (Ne.symm hne)]; exact hx
  exact ⟨n1.trans (Nx.hid n1.s hx2), upd_same⟩
/-- C(e, ..) -/
theorem xo_make (F : HasI C.ga k Cl c) (hm : C.ga.mg x = some (.ref Cl)) (hk : k + 1 ≤ C.k) (g : c.α) (hp : c.pre g) (ha : Xs C (e :: es) A (c.args g)) (hg : gloB C.sc x = true := by (try dsimp only [Ct.blk]); decide +kernel) (hst : noStars (e :: es) = true := by rfl) (hdb : (x == ("__debug__" : Str)) = false := by decide +kernel) :
    Xo C (.Call (.Name x p) (e :: es) [] pos) A (fun o => ∃ y, o = .oi y Cl (c.fin g)) := by
  obtain ⟨f, fd, ps, F, M, hb⟩ := F
  obtain ⟨t, a1, a2⟩ := ha
  refine ⟨tMake Cl (spI C.K Cl c) [] E0 t, fun X hX => pe_make (by rw [hX.K]; exact M) (On_fn hX F) (hX.room.mono hk) (hX.gl hg) (by rw [hX.mg]; exact hm) (by rw [hX.K]; exact hb) .nil pass0 (a1 X hX) hdb (star_one (noStars_cons hst).1) (backTo_any (noStars_any (noStars_cons hst).2)),
    fun H0 σ G H x m Q q => a2 H0 σ G H x m _ fun vs G1 H1 as n1 s1 i1 => ?_⟩
  subst s1
  intro y dx hy hdx hne
  obtain ⟨n2, h2⟩ := made_own (K := C.K) (Cl := Cl) n1.s hy hdx hne
  show spI C.K Cl c (V.ref y :: (vs ++ [])) _ _ _
  rw [List.append_nil]
  exact ⟨g, G1, H1, y, dx, vs, hp, rfl, n2, hy, n1.s.back hy, h2, i1, fun G' H' n3 hg3 ho => ⟨rfl, q y G' H' _ (n1.trans n3) (n1.e.dom y hy) hg3 ⟨y, rfl⟩ (OwIs.base n1.e ho)⟩⟩
/-! ### instances known -/
theorem pub_flo {K : PySem.W.Frag} {y : Addr} {rows : List (List Nat)} : PubTo K (.oi y (CF K) [("texts", .dat (.tuple (rows.map pS)))]) (.flo rows) := fun G0 H0 G H p x h0 hg h => by
  obtain ⟨_, dx, vs, h1, h2⟩ := h
  obtain ⟨v, rfl, i1⟩ := isA_one h2
  have e := Ex.new (o := .ins (CF K) dx [("texts", v)]) hg
  exact ⟨upd G p (.ins (CF K) dx [("texts", v)]), x.pub h0 hg h1, e, p, dx, v, rfl, upd_same, e.dp i1⟩
theorem pub_han {K : PySem.W.Frag} {y : Addr} {ws : List Wd} : PubTo K (.oi y (CH K) [("ones", .wls true ws)]) (.han ws) := fun G0 H0 G H p x h0 hg h => by
  obtain ⟨_, dx, vs, h1, h2⟩ := h
  obtain ⟨v, rfl, q, us, rfl, i1, i2⟩ := isA_one h2
  have e := Ex.new (o := .ins (CH K) dx [("ones", .ref q)]) hg
  exact ⟨upd G p (.ins (CH K) dx [("ones", .ref q)]), x.pub h0 hg h1, e, p, dx, q, us, rfl, upd_same, e.st i1, isWs_up e i2⟩
def wdA (w : Wd) : List (Str × Ab) := [("ground", .flo w.rows), ("pages", .book w.book), ("goals", .dat (.tuple (w.goals.map pP))), ("opening", .dat (pP w.opening)), ("first", .dat (pSd w.first))]
theorem isA_five {K : PySem.W.Frag} {G : Hp} {vs : List V} {c d f h j : Ab} (i : IsA K G vs [c, d, f, h, j]) : ∃ v u w z y, vs = [v, u, w, z, y] ∧ Is K G v c ∧ Is K G u d ∧ Is K G w f ∧ Is K G z h ∧ Is K G y j := by
  match vs, i with
  | [v, u, w, z, y], i => exact ⟨v, u, w, z, y, rfl, i.1, i.2.1, i.2.2.1, i.2.2.2.1, i.2.2.2.2.1⟩
theorem pub_wor {K : PySem.W.Frag} {y : Addr} {w : Wd} : PubTo K (.oi y (CW K) (wdA w)) (.wor w) := fun G0 H0 G H p x h0 hg h => by
  obtain ⟨_, dx, vs, h1, h2⟩ := h
  obtain ⟨a, b, c, d, f, rfl, i1, i2, i3, i4, i5⟩ := isA_five (show IsA K G vs [_, _, _, _, _] from h2)
  have h1' : H p = some (.ins (CW K) dx (worF a b c d f)) := h1
  have e := Ex.new (o := .ins (CW K) dx (worF a b c d f)) hg
  exact ⟨upd G p (.ins (CW K) dx (worF a b c d f)), x.pub h0 hg h1', e, p, dx, a, b, c, d, f, rfl, upd_same, isF_up e i1, isB_up e i2, e.dp i3, e.dp i4, e.dp i5⟩
end
end Oh
set_option maxHeartbeats 4000000
/-! OhM: what the defs compute, in plain Lean; their contracts. -/
namespace Oh
open PySem L2

/-! ### turns -/
/-- first a, then b -/
def cm (a b : T8) : T8 := ((List.finRange 8).find? fun c => (List.finRange 4).all fun d => tn c d == tn b (tn a d)).getD 0
def inv (a : T8) : T8 := ((List.finRange 8).find? fun c => (List.finRange 4).all fun d => tn c (tn a d) == d).getD 0
theorem tn_cm : ∀ (a b : T8) (d : D4), tn (cm a b) d = tn b (tn a d) := by decide +kernel
theorem tn_inv : ∀ (a : T8) (d : D4), tn (inv a) (tn a d) = d ∧ tn a (tn (inv a) d) = d := by decide +kernel
theorem tn_ext : ∀ (a b : T8), (∀ d, tn a d = tn b d) → a = b := by decide +kernel
theorem tt_inj : ∀ (a b : T8), tt a = tt b → a = b := by decide +kernel
theorem dc_inj : ∀ (a b : D4), dc a = dc b → a = b := by decide +kernel
theorem cm_assoc (a b c : T8) : cm (cm a b) c = cm a (cm b c) := tn_ext _ _ fun d => by rw [tn_cm, tn_cm, tn_cm, tn_cm]
theorem cm_inv (a : T8) : cm a (inv a) = 0 := tn_ext _ _ fun d => by rw [tn_cm, (tn_inv a d).1]; rfl
theorem inv_cm (a : T8) : cm (inv a) a = 0 := tn_ext _ _ fun d => by rw [tn_cm, (tn_inv a d).2]; rfl
theorem cm_zero (a : T8) : cm a 0 = a := tn_ext _ _ fun d => by rw [tn_cm]; rfl
theorem zero_cm (a : T8) : cm 0 a = a := tn_ext _ _ fun d => by rw [tn_cm]; rfl
theorem cm_left {a b c : T8} (h : cm a b = cm a c) : b = c := by
  have e := congrArg (cm (inv a)) h
  rw [← cm_assoc, ← cm_assoc, inv_cm, zero_cm, zero_cm] at e
  exact e
def D4s : List D4 := [0, 1, 2, 3]
theorem tt_eq (t : T8) : tt t = D4s.map fun d => dc (tn t d) := rfl
theorem mem_D4s : ∀ d : D4, d ∈ D4s := by decide
/-- a row of deeds -/
def rw4 (r : List D4) : List Nat := r.map dc

/-! ### places -/
def inR (p : Pl) (h w : Int) : Bool := (decide (0 ≤ p.1) && decide (p.1 ≤ h - 1)) && (decide (0 ≤ p.2) && decide (p.2 ≤ w - 1))
/-- place_turned -/
def pt (t : T8) (p : Pl) (h w : Int) : Pl := match t with
  | 0 => p
  | 1 => (p.2, h - 1 - p.1)
  | 2 => (h - 1 - p.1, w - 1 - p.2)
  | 3 => (w - 1 - p.2, p.1)
  | 4 => (p.1, w - 1 - p.2)
  | 5 => (h - 1 - p.1, p.2)
  | 6 => (p.2, p.1)
  | 7 => (w - 1 - p.2, h - 1 - p.1)
def stp (d : D4) : Pl := match d with
  | 0 => (-1, 0)
  | 1 => (0, 1)
  | 2 => (1, 0)
  | 3 => (0, -1)
def nxt (p : Pl) (d : D4) : Pl := (p.1 + (stp d).1, p.2 + (stp d).2)

/-! ### floors -/
def SIGNS : List Nat := [35, 126, 120, 46, 97, 98, 99, 100]
def hgt (rows : List (List Nat)) : Nat := rows.length
def wid (rows : List (List Nat)) : Nat := (rows.headD []).length
structure FlOk (rows : List (List Nat)) : Prop where
  h1 : 1 ≤ rows.length
  h2 : rows.length ≤ 6
  w1 : 1 ≤ wid rows
  w2 : wid rows ≤ 6
  w : ∀ r ∈ rows, r.length = wid rows
  s : ∀ r ∈ rows, ∀ c ∈ r, c ∈ SIGNS
def at2 (rows : List (List Nat)) (p : Pl) : Nat := (rows.getD p.1.toNat []).getD p.2.toNat 0
def inF (rows : List (List Nat)) (p : Pl) : Bool := inR p (hgt rows) (wid rows)
def seen (rows : List (List Nat)) (p : Pl) : Nat := if inF rows p then at2 rows p else 35
def LETTERS : List Nat := [97, 98, 99, 100]
def OPEN : List Nat := [46, 97, 98, 99, 100]
def letters (rows : List (List Nat)) : List Nat := LETTERS.filter fun c => rows.any fun r => decide (c ∈ r)
def places (h w : Nat) : List Pl := ((List.range h).map fun (y : Nat) => (List.range w).map fun (x : Nat) => (((y : Int), (x : Int)) : Pl)).flatten
def opens (rows : List (List Nat)) : List Pl := (places (hgt rows) (wid rows)).filter fun p => decide (seen rows p ∈ OPEN)
def canSt (rows : List (List Nat)) (p : Pl) : Bool := inF rows p && decide (seen rows p ∈ OPEN ++ [126])
/-- the slide -/
def sl (rows : List (List Nat)) (d : D4) : Nat → Pl → Pl → Option Pl
  | 0, here, there => if seen rows there = 35 then some here else if seen rows there = 120 then none else some there
  | n + 1, here, there => if seen rows there = 126 then sl rows d n there (nxt there d) else if seen rows there = 35 then some here else if seen rows there = 120 then none else some there
def goes (rows : List (List Nat)) (p : Pl) (d : D4) : Option Pl := sl rows d 8 p (nxt p d)
def pPo : Option Pl → PyData
  | none => .none
  | some p => pP p
/-- a step -/
def behind (rows : List (List Nat)) (bk : List (Nat × T8)) (s : Sd) (d : D4) : Sd := match s with
  | none => none
  | some (p, t) => match goes rows p (tn t d) with
    | none => none
    | some q => if q = p then some (p, t) else some (q, match lkB bk (seen rows q) with
      | some u => cm t u
      | none => t)
def walk (rows : List (List Nat)) (bk : List (Nat × T8)) : Sd → List D4 → List Sd
  | s, [] => [s]
  | s, d :: r => s :: walk rows bk (behind rows bk s d) r
def StOk (rows : List (List Nat)) : Sd → Prop
  | none => True
  | some (p, _) => canSt rows p = true
/-- a world that stands -/
structure WdOk (w : Wd) : Prop where
  f : FlOk w.rows
  b : w.book.map Prod.fst = letters w.rows
  g1 : ∀ p ∈ w.goals, inF w.rows p = true
  g2 : w.goals.Nodup
  g3 : w.goals.length < 60
  o : w.opening ∈ opens w.rows
  s : StOk w.rows w.first

/-! ### contracts: plain, turns -/
abbrev c_is_whole : Con := conD (α := Int) (fun _ => True) (fun g => [.dat (.int g)]) (fun _ => .dat (.bool true))
abbrev c_is_from : Con := conD (α := Int × Int × Int) (fun _ => True) (fun g => [.dat (.int g.1), .dat (.int g.2.1), .dat (.int g.2.2)]) (fun g => .dat (.bool (decide (g.2.1 ≤ g.1) && decide (g.1 ≤ g.2.2))))
abbrev c_is_place : Con := conD (α := Pl × Int × Int) (fun _ => True) (fun g => [.dat (pP g.1), .dat (.int g.2.1), .dat (.int g.2.2)]) (fun g => .dat (.bool (inR g.1 g.2.1 g.2.2)))
abbrev c_is_turn : Con := conD (α := T8) (fun _ => True) (fun t => [.dat (pT t)]) (fun _ => .dat (.bool true))
abbrev c_want_turn : Con := conD (α := T8) (fun _ => True) (fun t => [.dat (pT t)]) (fun _ => .dat .none)
abbrev c_want_row : Con := conD (α := List D4) (fun r => r.length ≤ 1000) (fun r => [.dat (pS (rw4 r))]) (fun _ => .dat .none)
abbrev c_want_deed : Con := conD (α := D4) (fun _ => True) (fun d => [.dat (pD d)]) (fun _ => .dat .none)
abbrev c_way : Con := conD (α := T8 × D4) (fun _ => True) (fun g => [.dat (pT g.1), .dat (pD g.2)]) (fun g => .dat (pD (tn g.1 g.2)))
abbrev c_row_turned : Con := conD (α := T8 × List D4) (fun g => g.2.length ≤ 1000) (fun g => [.dat (pT g.1), .dat (pS (rw4 g.2))]) (fun g => .dat (pS (rw4 (g.2.map (tn g.1)))))
abbrev c_then : Con := conD (α := T8 × T8) (fun _ => True) (fun g => [.dat (pT g.1), .dat (pT g.2)]) (fun g => .dat (pT (cm g.1 g.2)))
abbrev c_back : Con := conD (α := T8) (fun _ => True) (fun t => [.dat (pT t)]) (fun t => .dat (pT (inv t)))
abbrev c_place_turned : Con := conD (α := T8 × Pl × Int × Int) (fun g => inR g.2.1 g.2.2.1 g.2.2.2 = true) (fun g => [.dat (pT g.1), .dat (pP g.2.1), .dat (.int g.2.2.1), .dat (.int g.2.2.2)]) (fun g => .dat (pP (pt g.1 g.2.1 g.2.2.1 g.2.2.2)))

/-! ### contracts: floors -/
def TxOk (l : List Nat) : Prop := 1 ≤ l.length ∧ l.length ≤ 6 ∧ ∀ c ∈ l, c ∈ SIGNS
abbrev c_is_text : Con := conD (α := List Nat) TxOk (fun l => [.dat (pS l)]) (fun _ => .dat (.bool true))
abbrev c_want_rows : Con := conD (α := List (List Nat)) FlOk (fun rows => [.dat (.list (rows.map pS))]) (fun _ => .dat .none)
abbrev c_next_to : Con := conD (α := Pl × D4) (fun _ => True) (fun g => [.dat (pP g.1), .dat (pD g.2)]) (fun g => .dat (pP (nxt g.1 g.2)))
abbrev ci_Floor : ConI := ⟨List (List Nat), FlOk, fun rows => [.dat (.list (rows.map pS))], fun rows => [("texts", .dat (.tuple (rows.map pS)))]⟩
abbrev c_feq : Con := conD (α := List (List Nat) × List (List Nat)) (fun g => FlOk g.1 ∧ FlOk g.2) (fun g => [.flo g.1, .flo g.2]) (fun g => .dat (.bool (decide (g.1 = g.2))))
abbrev c_size : Con := conD (α := List (List Nat)) FlOk (fun rows => [.flo rows]) (fun rows => .dat (.tuple [.int (hgt rows), .int (wid rows)]))
abbrev c_has : Con := conD (α := List (List Nat) × Pl) (fun g => FlOk g.1) (fun g => [.flo g.1, .dat (pP g.2)]) (fun g => .dat (.bool (inF g.1 g.2)))
abbrev c_seen : Con := conD (α := List (List Nat) × Pl) (fun g => FlOk g.1) (fun g => [.flo g.1, .dat (pP g.2)]) (fun g => .dat (pS [seen g.1 g.2]))
abbrev c_letters : Con := conD (α := List (List Nat)) FlOk (fun rows => [.flo rows]) (fun rows => .dat (pS (letters rows)))
abbrev c_places : Con := conD (α := List (List Nat)) FlOk (fun rows => [.flo rows]) (fun rows => .dat (.list ((places (hgt rows) (wid rows)).map pP)))
abbrev c_opens : Con := conD (α := List (List Nat)) FlOk (fun rows => [.flo rows]) (fun rows => .dat (.list ((opens rows).map pP)))
abbrev c_can_stand : Con := conD (α := List (List Nat) × Pl) (fun g => FlOk g.1) (fun g => [.flo g.1, .dat (pP g.2)]) (fun g => .dat (.bool (canSt g.1 g.2)))
abbrev c_goes : Con := conD (α := List (List Nat) × Pl × D4) (fun g => FlOk g.1 ∧ canSt g.1 g.2.1 = true) (fun g => [.flo g.1, .dat (pP g.2.1), .dat (pD g.2.2)]) (fun g => .dat (pPo (goes g.1 g.2.1 g.2.2)))
end Oh
set_option maxHeartbeats 4000000
/-! OhN: walks: plain, turns. -/
namespace Oh
open PySem L2
theorem lv {a b : Nat} (h : Nat.ble a b = true := by rfl) : a ≤ b := Nat.le_of_ble_eq_true h
theorem tt_mem : ∀ t : T8, tt t ∈ (List.finRange 8).map tt := by decide +kernel
theorem dc_mem : ∀ d : D4, dc d ∈ [117, 114, 100, 108] := by decide +kernel
theorem dc_occ : ∀ d : D4, Builtin.Str.occurrences (tx [117, 114, 100, 108]) (tx [dc d]) 0 4 1 = [d.val] := by decide +kernel
theorem tt_occ : ∀ (t : T8) (d : D4), Builtin.Str.occurrences (tx (tt t)) (tx [dc d]) 0 4 1 = [(tn (inv t) d).val] := by decide +kernel
theorem tt_at : ∀ (t : T8) (d : D4), atI (tt t) (d.val : Int) = some (dc (tn t d)) := by decide +kernel
theorem dd_at : ∀ (d : D4), atI [117, 114, 100, 108] (d.val : Int) = some (dc d) := by decide +kernel
theorem tt_rw (t : T8) : tt t = rw4 (D4s.map (tn t)) := rfl
theorem cm_rw : ∀ (a b : T8), rw4 ((D4s.map (tn a)).map (tn b)) = tt (cm a b) := by decide +kernel
section
variable {Γ : Ga} [Gx Γ]
theorem sc_is_whole : FnScope ["thing"] ["thing"] (defScope (top 11)) := ⟨rfl, rfl, rfl, by decide +kernel, rfl, by decide +kernel, by decide +kernel⟩
theorem ok_is_whole (D : Def Γ "is_whole" (top 11) ["thing"]) : HasF Γ 1 "is_whole" c_is_whole := by
  refine hasF D sc_is_whole (fun _ _ => rfl) fun i _ => ?_
  exact xp_one (xq_retD (xd_and (xd_isiB "int" (xd_var 0 rfl) Gx.bInt (by decide +kernel) ⟨nofun, by with_unfolding_all rfl⟩) fun _ => (xe_one (xd_not (xd_isiB "bool" (xd_var 0 rfl) Gx.bBool (by decide +kernel) ⟨nofun, by with_unfolding_all rfl⟩)))) rfl)
theorem sc_is_from : FnScope ["thing", "least", "most"] ["thing", "least", "most"] (defScope (top 12)) := ⟨rfl, rfl, rfl, by decide +kernel, rfl, by decide +kernel, by decide +kernel⟩
theorem ok_is_from (D : Def Γ "is_from" (top 12) ["thing", "least", "most"]) (h_is_whole : HasF Γ 1 "is_whole" c_is_whole) : HasF Γ 2 "is_from" c_is_from := by
  refine hasF D sc_is_from (fun _ _ => rfl) fun ⟨i, lo, hi⟩ _ => ?_
  exact xp_one (xq_retD (xd_and (xd_call h_is_whole lv _ trivial (xs_cons (xd_var 0 rfl) xs_nil) rfl) fun _ => (xe_one (Xc.e (xc_chain (fun _ _ => op_le) (fun _ _ => op_le) (xd_var 1 rfl) (xd_var 0 rfl) (xd_var 2 rfl))))) rfl)
theorem sc_is_place : FnScope ["thing", "rows", "columns", "row", "column"] ["thing", "rows", "columns"] (defScope (top 13)) := ⟨rfl, rfl, rfl, by decide +kernel, rfl, by decide +kernel, by decide +kernel⟩
theorem ok_is_place (D : Def Γ "is_place" (top 13) ["thing", "rows", "columns"]) (h_is_from : HasF Γ 2 "is_from" c_is_from) : HasF Γ 3 "is_place" c_is_place := by
  refine hasF D sc_is_place (fun _ _ => rfl) fun ⟨p, h, w⟩ _ => ?_
  refine xp_then (xq_ifB (xt_w (xw_or (xt_not (xt_v (xd_isiB "tuple" (xd_var 0 rfl) Gx.bTuple (by decide +kernel) ⟨nofun, by with_unfolding_all rfl⟩))) fun _ => (xw_or1 (xt_c (xc_neI (xd_len (xd_var 0 rfl) rfl) xd_int))))) (fun hT => by cases hT) (fun _ => xp_nil rfl)) ?_
  refine xp_then (xq_asgD [3, 4] (xd_var 0 rfl) (xg_pairD 3 4) rfl) ?_
  exact xp_one (xq_retD (xd_and (xd_call h_is_from lv (_, _, _) trivial (xs_cons (xd_var 3 rfl) (xs_cons xd_int (xs_cons (xd_sub (xd_var 1 rfl) xd_int) xs_nil))) rfl) fun _ => (xe_one (xd_call h_is_from lv (_, _, _) trivial (xs_cons (xd_var 4 rfl) (xs_cons xd_int (xs_cons (xd_sub (xd_var 2 rfl) xd_int) xs_nil))) rfl))) rfl)
theorem sc_is_turn : FnScope ["thing"] ["thing"] (defScope (top 17)) := ⟨rfl, rfl, rfl, by decide +kernel, rfl, by decide +kernel, by decide +kernel⟩
theorem ok_is_turn (D : Def Γ "is_turn" (top 17) ["thing"]) : HasF Γ 1 "is_turn" c_is_turn := by
  refine hasF D sc_is_turn (fun _ _ => rfl) fun t _ => ?_
  exact xp_one (xq_retD (Xe.as (xd_and (xd_isiB "str" (xd_var 0 rfl) Gx.bStr (by decide +kernel) ⟨nofun, by with_unfolding_all rfl⟩) fun _ => (xe_one (Xc.e (xc_inT (xd_var 0 rfl) xd_cTURNS rfl)))) (by rw [decide_eq_true (tt_mem t)]; rfl)) rfl)
theorem sc_want_turn : FnScope ["thing"] ["thing"] (defScope (top 18)) := ⟨rfl, rfl, rfl, by decide +kernel, rfl, by decide +kernel, by decide +kernel⟩
theorem ok_want_turn (D : Def Γ "want_turn" (top 18) ["thing"]) (h_is_turn : HasF Γ 1 "is_turn" c_is_turn) : HasF Γ 2 "want_turn" c_want_turn := by
  refine hasF D sc_want_turn (fun _ _ => rfl) fun t _ => ?_
  exact xp_one (xq_ifB (xt_not (xt_v (xd_call h_is_turn lv _ trivial (xs_cons (xd_var 0 rfl) xs_nil) rfl))) (fun hT => by cases hT) (fun _ => xp_nil rfl))
theorem sc_want_row : FnScope ["thing", "at", "deed"] ["thing"] (defScope (top 19)) := ⟨rfl, rfl, rfl, by decide +kernel, rfl, by decide +kernel, by decide +kernel⟩
theorem ok_want_row (D : Def Γ "want_row" (top 19) ["thing"]) : HasF Γ 2 "want_row" c_want_row := by
  refine hasF D sc_want_row (fun _ _ => rfl) fun r hr => ?_
  refine xp_then (xq_ifB (xt_not (xt_v (xd_isiB "str" (xd_var 0 rfl) Gx.bStr (by decide +kernel) ⟨nofun, by with_unfolding_all rfl⟩))) (fun hT => by cases hT) (fun _ => xp_nil rfl)) ?_
  refine xp_one (xq_for [1, 2] (fun _ A => ∃ u v, A = ⟨[some (.dat (pS (rw4 r))), u, v], none⟩) (xi_enumS (xd_var 0 rfl) Gx.bEnum) ⟨none, none, rfl⟩ (fun i it A' hit hI => ?_) fun _ _ => rfl)
  obtain ⟨u, v, rfl⟩ := hI
  obtain ⟨j, hj, hm, rfl⟩ := map_get hit
  have hj' : j < (rw4 r).length := List.mem_range.mp hm
  refine ⟨_, xg_pair 1 2, ?_⟩
  refine xp_one (xq_ifB (xt_c (xc_ninS (xd_var 2 rfl) xd_cDEEDS)) (fun hT => ?_) (fun _ => xp_nil ⟨_, _, rfl⟩))
  exfalso
  rw [List.getD_eq_getElem?_getD, List.getElem?_eq_getElem hj'] at hT
  have : (rw4 r)[j] ∈ rw4 r := List.getElem_mem hj'
  obtain ⟨d, _, hd⟩ := List.mem_map.mp this
  rw [← hd] at hT
  simp only [Option.getD_some] at hT
  rw [decide_eq_true (dc_mem d)] at hT
  cases hT
theorem sc_want_deed : FnScope ["thing"] ["thing"] (defScope (top 20)) := ⟨rfl, rfl, rfl, by decide +kernel, rfl, by decide +kernel, by decide +kernel⟩
theorem ok_want_deed (D : Def Γ "want_deed" (top 20) ["thing"]) : HasF Γ 2 "want_deed" c_want_deed := by
  refine hasF D sc_want_deed (fun _ _ => rfl) fun d _ => ?_
  refine xp_then (xq_ifB (xt_not (xt_v (xd_isiB "str" (xd_var 0 rfl) Gx.bStr (by decide +kernel) ⟨nofun, by with_unfolding_all rfl⟩))) (fun hT => by cases hT) (fun _ => xp_nil rfl)) ?_
  refine xp_one (xq_ifB (xt_w (xw_or (xt_c (xc_neI (xd_len (xd_var 0 rfl) rfl) xd_int)) fun _ => (xw_or1 (xt_c (xc_ninS (xd_var 0 rfl) xd_cDEEDS))))) (fun hT => ?_) (fun _ => xp_nil rfl))
  rw [decide_eq_true (dc_mem d)] at hT
  cases hT
theorem sc_way : FnScope ["turn", "deed"] ["turn", "deed"] (defScope (top 21)) := ⟨rfl, rfl, rfl, by decide +kernel, rfl, by decide +kernel, by decide +kernel⟩
theorem ok_way (D : Def Γ "way" (top 21) ["turn", "deed"]) (h_want_turn : HasF Γ 2 "want_turn" c_want_turn) (h_want_deed : HasF Γ 2 "want_deed" c_want_deed) : HasF Γ 3 "way" c_way := by
  refine hasF D sc_way (fun _ _ => rfl) fun ⟨t, d⟩ _ => ?_
  refine xp_then (xq_expr (xd_call h_want_turn lv _ trivial (xs_cons (xd_var 0 rfl) xs_nil) rfl) rfl) ?_
  refine xp_then (xq_expr (xd_call h_want_deed lv _ trivial (xs_cons (xd_var 1 rfl) xs_nil) rfl) rfl) ?_
  exact xp_one (xq_retD (xd_ixS (xd_var 0 rfl) (xd_index xd_cDEEDS (xd_var 1 rfl) (dc_occ d)) (tt_at t d) (by show 4 ≤ 100000; decide)) rfl)
theorem sc_row_turned : FnScope ["turn", "row", "deed"] ["turn", "row"] (defScope (top 22)) := ⟨rfl, rfl, rfl, by decide +kernel, rfl, by decide +kernel, by decide +kernel⟩
theorem ok_row_turned (D : Def Γ "row_turned" (top 22) ["turn", "row"]) (h_want_turn : HasF Γ 2 "want_turn" c_want_turn) (h_want_row : HasF Γ 2 "want_row" c_want_row) (h_way : HasF Γ 3 "way" c_way) : HasF Γ 4 "row_turned" c_row_turned := by
  refine hasF D sc_row_turned (fun _ _ => rfl) fun ⟨t, r⟩ hr => ?_
  refine xp_then (xq_expr (xd_call h_want_turn lv _ trivial (xs_cons (xd_var 0 rfl) xs_nil) rfl) rfl) ?_
  refine xp_then (xq_expr (xd_call h_want_row lv _ hr (xs_cons (xd_var 1 rfl) xs_nil) rfl) rfl) ?_
  have hl : (rw4 r).length ≤ 1000 := by unfold rw4; rw [List.length_map]; exact hr
  refine xp_one (xq_retD (xd_join (ls := r.map fun d => [dc (tn t d)]) (xd_str []) (Xe.as (Xo.lst (xo_lc r (fun d => [Ab.dat (pD d)]) (fun _ => true) (fun d => pD (tn t d)) [("deed", 2)] (xi_eq (xi_txt (xd_var 1 rfl)) ?_) (by show r.length ≤ _; have : r.length ≤ 1000 := hr; omega) (fun d _ => ⟨_, xg_name 2, xts_nil, fun _ => xd_call h_way lv (_, _) trivial (xs_cons (xd_var 0 rfl) (xs_cons (xd_var 2 rfl) xs_nil)) rfl⟩))) ?_) ?_) ?_)
  · show itsT (r.map dc) = _
    unfold itsT
    rw [List.map_map]
    rfl
  · rw [filt, List.map_map]
    rfl
  · rw [flat_one, List.length_map]
    have : r.length ≤ 1000 := hr
    omega
  · show Ab.dat (pS _) = Ab.dat (pS _)
    rw [flat_one]
    show _ = Ab.dat (pS ((r.map (tn t)).map dc))
    rw [List.map_map]
    rfl
theorem sc_then : FnScope ["one", "other"] ["one", "other"] (defScope (top 23)) := ⟨rfl, rfl, rfl, by decide +kernel, rfl, by decide +kernel, by decide +kernel⟩
theorem ok_then (D : Def Γ "then" (top 23) ["one", "other"]) (h_want_turn : HasF Γ 2 "want_turn" c_want_turn) (h_row_turned : HasF Γ 4 "row_turned" c_row_turned) : HasF Γ 5 "then" c_then := by
  refine hasF D sc_then (fun _ _ => rfl) fun ⟨a, b⟩ _ => ?_
  refine xp_then (xq_expr (xd_call h_want_turn lv _ trivial (xs_cons (xd_var 0 rfl) xs_nil) rfl) rfl) ?_
  refine xp_then (xq_expr (xd_call h_want_turn lv _ trivial (xs_cons (xd_var 1 rfl) xs_nil) rfl) rfl) ?_
  refine xp_one (xq_retD (xd_call h_row_turned lv (b, D4s.map (tn a)) (by show 4 ≤ 1000; decide) (xs_cons (xd_var 1 rfl) (xs_cons (xd_var 0 rfl) xs_nil)) rfl) ?_)
  show Ab.dat (pS _) = Ab.dat (pS _)
  rw [cm_rw]
theorem sc_back : FnScope ["turn", "deed"] ["turn"] (defScope (top 24)) := ⟨rfl, rfl, rfl, by decide +kernel, rfl, by decide +kernel, by decide +kernel⟩
theorem ok_back (D : Def Γ "back" (top 24) ["turn"]) (h_want_turn : HasF Γ 2 "want_turn" c_want_turn) : HasF Γ 3 "back" c_back := by
  refine hasF D sc_back (fun _ _ => rfl) fun t _ => ?_
  refine xp_then (xq_expr (xd_call h_want_turn lv _ trivial (xs_cons (xd_var 0 rfl) xs_nil) rfl) rfl) ?_
  refine xp_one (xq_retD (xd_join (ls := D4s.map fun d => [dc (tn (inv t) d)]) (xd_str []) (Xe.as (Xo.lst (xo_lc D4s (fun d => [Ab.dat (pD d)]) (fun _ => true) (fun d => pD (tn (inv t) d)) [("deed", 1)] (xi_eq (xi_txt xd_cDEEDS) rfl) (by decide) (fun d _ => ⟨_, xg_name 1, xts_nil, fun _ => xd_ixS xd_cDEEDS (xd_index (xd_var 0 rfl) (xd_var 1 rfl) (tt_occ t d)) (dd_at _) (by decide)⟩))) ?_) ?_) ?_)
  · rw [filt, List.map_map]
    rfl
  · rw [flat_one, List.length_map]
    decide
  · show Ab.dat (pS _) = Ab.dat (pS _)
    rw [flat_one]
    rfl
theorem sc_place_turned : FnScope ["turn", "place", "rows", "columns", "y", "x", "low", "far", "found"] ["turn", "place", "rows", "columns"] (defScope (top 25)) := ⟨rfl, rfl, rfl, by decide +kernel, rfl, by decide +kernel, by decide +kernel⟩
def ptK (y x low far : Int) : List (List Nat × PyData) := [([117, 114, 100, 108], pP (y, x)), ([114, 100, 108, 117], pP (x, low)), ([100, 108, 117, 114], pP (low, far)), ([108, 117, 114, 100], pP (far, y)),
  ([117, 108, 100, 114], pP (y, far)), ([100, 114, 117, 108], pP (low, x)), ([108, 100, 114, 117], pP (x, y)), ([114, 117, 108, 100], pP (far, low))]
theorem ptK_lk (t : T8) (p : Pl) (h w : Int) : lkA ((ptK p.1 p.2 (h - 1 - p.1) (w - 1 - p.2)).map fun q => (tx q.1, q.2)) (tx (tt t)) = some (pP (pt t p h w)) := by
  unfold ptK
  simp only [List.map_cons, List.map_nil, lkT]
  match t with
  | 0 => rfl
  | 1 => rfl
  | 2 => rfl
  | 3 => rfl
  | 4 => rfl
  | 5 => rfl
  | 6 => rfl
  | 7 => rfl
theorem ok_place_turned (D : Def Γ "place_turned" (top 25) ["turn", "place", "rows", "columns"]) (h_want_turn : HasF Γ 2 "want_turn" c_want_turn) (h_is_place : HasF Γ 3 "is_place" c_is_place) : HasF Γ 4 "place_turned" c_place_turned := by
  refine hasF D sc_place_turned (fun _ _ => rfl) fun ⟨t, q, h, w⟩ hq => ?_
  have hq : inR q h w = true := hq
  refine xp_then (xq_expr (xd_call h_want_turn lv _ trivial (xs_cons (xd_var 0 rfl) xs_nil) rfl) rfl) ?_
  refine xp_then (xq_ifB (xt_not (xt_v (xd_call h_is_place lv (q, _, _) trivial (xs_cons (xd_var 1 rfl) (xs_cons (xd_var 2 rfl) (xs_cons (xd_var 3 rfl) xs_nil))) rfl))) (fun hT => by rw [hq] at hT; cases hT) (fun _ => xp_nil rfl)) ?_
  refine xp_then (xq_asgD [4, 5] (xd_var 1 rfl) (xg_pairD 4 5) rfl) ?_
  refine xp_then (xq_parD 6 7 (xs_cons (xd_sub (xd_sub (xd_var 2 rfl) xd_int) (xd_var 4 rfl)) (xs_cons (xd_sub (xd_sub (xd_var 3 rfl) xd_int) (xd_var 5 rfl)) xs_nil)) rfl) ?_
  refine xp_then (xq_setD 8 (Xo.dct (kvs := (ptK q.1 q.2 (h - 1 - q.1) (w - 1 - q.2)).map fun q => (tx q.1, q.2)) (xo_dispD
    (x2_consT [117, 114, 100, 108] (xd_tup (ds := [.int q.1, .int q.2]) (xs_cons (xd_var 4 rfl) (xs_cons (xd_var 5 rfl) xs_nil)))
    (x2_consT [114, 100, 108, 117] (xd_tup (ds := [.int q.2, .int (h - 1 - q.1)]) (xs_cons (xd_var 5 rfl) (xs_cons (xd_var 6 rfl) xs_nil)))
    (x2_consT [100, 108, 117, 114] (xd_tup (ds := [.int (h - 1 - q.1), .int (w - 1 - q.2)]) (xs_cons (xd_var 6 rfl) (xs_cons (xd_var 7 rfl) xs_nil)))
    (x2_consT [108, 117, 114, 100] (xd_tup (ds := [.int (w - 1 - q.2), .int q.1]) (xs_cons (xd_var 7 rfl) (xs_cons (xd_var 4 rfl) xs_nil)))
    (x2_consT [117, 108, 100, 114] (xd_tup (ds := [.int q.1, .int (w - 1 - q.2)]) (xs_cons (xd_var 4 rfl) (xs_cons (xd_var 7 rfl) xs_nil)))
    (x2_consT [100, 114, 117, 108] (xd_tup (ds := [.int (h - 1 - q.1), .int q.2]) (xs_cons (xd_var 6 rfl) (xs_cons (xd_var 5 rfl) xs_nil)))
    (x2_consT [108, 100, 114, 117] (xd_tup (ds := [.int q.2, .int q.1]) (xs_cons (xd_var 5 rfl) (xs_cons (xd_var 4 rfl) xs_nil)))
    (x2_consT [114, 117, 108, 100] (xd_tup (ds := [.int (w - 1 - q.2), .int (h - 1 - q.1)]) (xs_cons (xd_var 7 rfl) (xs_cons (xd_var 6 rfl) xs_nil)))
    x2_nilD)))))))) (nodup_tx (ls := [[117, 114, 100, 108], [114, 100, 108, 117], [100, 108, 117, 114], [108, 117, 114, 100], [117, 108, 100, 114], [100, 114, 117, 108], [108, 100, 114, 117], [114, 117, 108, 100]]) (by decide)) (Nat.le_of_ble_eq_true rfl)) rfl) rfl) ?_
  exact xp_one (xq_retD (xd_getC (xd_var 8 rfl) (xd_var 0 rfl) (ptK_lk t q h w)) rfl)
end
end Oh
set_option maxHeartbeats 4000000
/-! OhL: data: shapes, equality. -/
namespace Oh
open PySem L2
/-! ### shapes -/
def Sh (k : Nat) (d : PyData) : Prop := d.canLay0 = true ∧ d.depth ≤ k
theorem sh_ok {k : Nat} {d : PyData} (h : Sh k d) (hk : k ≤ 64 := by decide) : SeqAt.shaped d = true := by
  unfold SeqAt.shaped
  rw [h.1, decide_eq_true (Nat.le_trans h.2 hk)]
  rfl
theorem sh_up {j k : Nat} {d : PyData} (h : Sh j d) (hk : j ≤ k) : Sh k d := ⟨h.1, Nat.le_trans h.2 hk⟩
theorem sh_int (i : Int) : Sh 0 (.int i) := ⟨by simp only [PyData.canLay0], by simp only [PyData.depth]; exact Nat.le_refl _⟩
theorem sh_bool (i : Bool) : Sh 0 (.bool i) := ⟨by simp only [PyData.canLay0], by simp only [PyData.depth]; exact Nat.le_refl _⟩
theorem sh_none : Sh 0 .none := ⟨by simp only [PyData.canLay0], by simp only [PyData.depth]; exact Nat.le_refl _⟩
theorem sh_txt {l : List Nat} (h : ∀ c ∈ l, c < 1000) : Sh 0 (pS l) := by
  refine ⟨?_, by unfold pS; simp only [PyData.depth]; exact Nat.le_refl _⟩
  unfold pS
  simp only [PyData.canLay0]
  unfold PyData.strOk tx
  rw [List.all_toArray, List.all_eq_true]
  intro c hc
  exact decide_eq_true (Nat.lt_trans (h c hc) (by decide))
theorem sh_all {k : Nat} : ∀ {ds : List PyData}, (∀ d ∈ ds, Sh k d) → PyData.canLayAll0 ds = true ∧ PyData.depthAll ds ≤ k
  | [], _ => ⟨by simp only [PyData.canLayAll0], by simp only [PyData.depthAll]; exact Nat.zero_le _⟩
  | d :: ds, h => by
    obtain ⟨h1, h2⟩ := sh_all fun e he => h e (List.mem_cons_of_mem _ he)
    have h3 := h d List.mem_cons_self
    refine ⟨?_, ?_⟩
    · simp only [PyData.canLayAll0, h3.1, h1]
      rfl
    · simp only [PyData.depthAll]
      exact Nat.max_le.mpr ⟨h3.2, h2⟩
theorem sh_list {k : Nat} {ds : List PyData} (h : ∀ d ∈ ds, Sh k d) : Sh (k + 1) (.list ds) := by
  obtain ⟨h1, h2⟩ := sh_all h
  exact ⟨by simp only [PyData.canLay0]; exact h1, by simp only [PyData.depth]; omega⟩
theorem sh_tup {k : Nat} {ds : List PyData} (h : ∀ d ∈ ds, Sh k d) : Sh (k + 1) (.tuple ds) := by
  obtain ⟨h1, h2⟩ := sh_all h
  exact ⟨by simp only [PyData.canLay0]; exact h1, by simp only [PyData.depth]; omega⟩
theorem sh_map {α : Type} {k : Nat} {f : α → PyData} {l : List α} (h : ∀ a ∈ l, Sh k (f a)) : ∀ d ∈ l.map f, Sh k d := fun d hd => by
  obtain ⟨a, ha, rfl⟩ := List.mem_map.mp hd
  exact h a ha
theorem sh_pP (p : Pl) : Sh 1 (pP p) := sh_tup fun d hd => by
  rcases List.mem_cons.mp hd with rfl | hd
  · exact sh_int _
  · rcases List.mem_cons.mp hd with rfl | hd
    · exact sh_int _
    · cases hd
theorem dc_lt : ∀ d : D4, dc d < 1000 := by decide
theorem tt_lt : ∀ t : T8, ∀ c ∈ tt t, c < 1000 := by decide +kernel
theorem sh_pT (t : T8) : Sh 0 (pT t) := sh_txt (tt_lt t)
theorem sh_pSd : ∀ s : Sd, Sh 2 (pSd s)
  | none => sh_up sh_none (by decide)
  | some (p, t) => sh_tup fun d hd => by
    rcases List.mem_cons.mp hd with rfl | hd
    · exact sh_pP p
    · rcases List.mem_cons.mp hd with rfl | hd
      · exact sh_up (sh_pT t) (by decide)
      · cases hd
theorem sg_lt : ∀ c ∈ SIGNS, c < 1000 := by decide
theorem sh_pPo : ∀ s : Option Pl, Sh 1 (pPo s)
  | none => sh_up sh_none (by decide)
  | some p => sh_pP p

/-! ### equality -/
theorem eqvAll_map {α : Type} [DecidableEq α] {f : α → PyData} (h : ∀ a b, PyData.eqv (f a) (f b) = decide (a = b)) : ∀ l m : List α, PyData.eqvAll (l.map f) (m.map f) = decide (l = m)
  | [], [] => by simp [PyData.eqvAll]
  | [], _ :: _ => by simp [PyData.eqvAll]
  | _ :: _, [] => by simp [PyData.eqvAll]
  | a :: l, b :: m => by
    rw [List.map_cons, List.map_cons]
    simp only [PyData.eqvAll]
    rw [h, eqvAll_map h l m]
    by_cases h1 : a = b
    · by_cases h2 : l = m <;> simp [h1, h2]
    · simp [h1]
theorem eqv_list {α : Type} [DecidableEq α] {f : α → PyData} (h : ∀ a b, PyData.eqv (f a) (f b) = decide (a = b)) (l m : List α) : PyData.eqv (.list (l.map f)) (.list (m.map f)) = decide (l = m) := by
  simp only [PyData.eqv]
  exact eqvAll_map h l m
theorem eqv_tup {α : Type} [DecidableEq α] {f : α → PyData} (h : ∀ a b, PyData.eqv (f a) (f b) = decide (a = b)) (l m : List α) : PyData.eqv (.tuple (l.map f)) (.tuple (m.map f)) = decide (l = m) := by
  simp only [PyData.eqv]
  exact eqvAll_map h l m
theorem eqv_pP (p q : Pl) : PyData.eqv (pP p) (pP q) = decide (p = q) := by
  unfold pP
  simp only [PyData.eqv, PyData.eqvAll, Bool.and_true]
  obtain ⟨a, b⟩ := p
  obtain ⟨c, d⟩ := q
  by_cases h1 : a = c <;> by_cases h2 : b = d <;> simp [h1, h2]
theorem eqv_pT (t u : T8) : PyData.eqv (pT t) (pT u) = decide (t = u) := by
  unfold pT
  rw [eqv_pS]
  by_cases h : t = u
  · rw [h]; simp
  · rw [decide_eq_false h, decide_eq_false fun e => h (tt_inj t u e)]
theorem eqv_pSd : ∀ s u : Sd, PyData.eqv (pSd s) (pSd u) = decide (s = u)
  | none, none => by simp [pSd, PyData.eqv]
  | none, some (p, t) => by simp [pSd, PyData.eqv]
  | some (p, t), none => by simp [pSd, PyData.eqv]
  | some (p, t), some (q, u) => by
    unfold pSd
    simp only [PyData.eqv, PyData.eqvAll, Bool.and_true]
    rw [eqv_pP, eqv_pT]
    by_cases h1 : p = q <;> by_cases h2 : t = u <;> simp [h1, h2]
theorem eqv_pPo : ∀ s u : Option Pl, PyData.eqv (pPo s) (pPo u) = decide (s = u)
  | none, none => by simp [pPo, PyData.eqv]
  | none, some p => by simp [pPo, pP, PyData.eqv]
  | some p, none => by simp [pPo, pP, PyData.eqv]
  | some p, some q => by
    unfold pPo
    simp only
    rw [eqv_pP]
    by_cases h1 : p = q <;> simp [h1]
theorem mem_map {α : Type} [DecidableEq α] {f : α → PyData} (h : ∀ a b, PyData.eqv (f a) (f b) = decide (a = b)) (a : α) (l : List α) : ((l.map f).any fun z => PyData.eqv z (f a)) = decide (a ∈ l) := by
  induction l with
  | nil => simp
  | cons b l ih =>
    rw [List.map_cons, List.any_cons, ih, h]
    by_cases h1 : b = a
    · subst h1; simp
    · have : ¬ a = b := fun e => h1 e.symm
      simp [h1, this]
/-! ### floors, seen -/
theorem FlOk.row {rows : List (List Nat)} (F : FlOk rows) {y : Nat} (hy : y < rows.length) : rows.getD y [] = rows[y] ∧ rows[y].length = wid rows ∧ ∀ c ∈ rows[y], c ∈ SIGNS := by
  have hm := List.getElem_mem hy
  refine ⟨?_, F.w _ hm, F.s _ hm⟩
  rw [List.getD_eq_getElem?_getD, List.getElem?_eq_getElem hy]
  rfl
theorem inF_iff {rows : List (List Nat)} {p : Pl} : inF rows p = true ↔ (0 ≤ p.1 ∧ p.1 ≤ (hgt rows : Int) - 1) ∧ (0 ≤ p.2 ∧ p.2 ≤ (wid rows : Int) - 1) := by
  unfold inF inR
  simp only [Bool.and_eq_true, decide_eq_true_eq]
theorem atI_pos {α : Type} {xs : List α} {i : Int} {v : α} (h0 : 0 ≤ i) (h : xs[i.toNat]? = some v) : atI xs i = some v := by
  obtain ⟨n, rfl⟩ := Int.eq_ofNat_of_zero_le h0
  exact atI_nat h
theorem FlOk.at2 {rows : List (List Nat)} (F : FlOk rows) {p : Pl} (h : inF rows p = true) : ∃ r, atI (rows.map pS) p.1 = some (pS r) ∧ atI r p.2 = some (at2 rows p) ∧ r.length ≤ 6 ∧ at2 rows p ∈ SIGNS := by
  obtain ⟨⟨a1, a2⟩, b1, b2⟩ := inF_iff.mp h
  unfold hgt at a2
  have hy : p.1.toNat < rows.length := by omega
  obtain ⟨e1, e2, e3⟩ := F.row hy
  have hx : p.2.toNat < (rows[p.1.toNat]).length := by
    rw [e2]
    omega
  have e4 : Oh.at2 rows p = (rows[p.1.toNat])[p.2.toNat] := by
    unfold Oh.at2
    rw [e1, List.getD_eq_getElem?_getD, List.getElem?_eq_getElem hx]
    rfl
  refine ⟨rows[p.1.toNat], ?_, ?_, by rw [e2]; exact F.w2, ?_⟩
  · refine atI_pos a1 ?_
    rw [List.getElem?_map, List.getElem?_eq_getElem hy]
    rfl
  · rw [e4]
    exact atI_pos b1 (List.getElem?_eq_getElem hx)
  · rw [e4]
    exact e3 _ (List.getElem_mem hx)
theorem seen_in {rows : List (List Nat)} (F : FlOk rows) (p : Pl) : seen rows p ∈ SIGNS := by
  unfold seen
  split
  · rename_i h
    obtain ⟨_, _, _, _, h4⟩ := F.at2 h
    exact h4
  · decide
end Oh
set_option maxHeartbeats 4000000
/-! OhO: walks: floors. -/
namespace Oh
open PySem L2
section
variable {Γ : Ga} [Gx Γ]
theorem sc_is_text : FnScope ["thing", "sign"] ["thing"] (defScope (top 35)) := ⟨rfl, rfl, rfl, by decide +kernel, rfl, by decide +kernel, by decide +kernel⟩
theorem ok_is_text (D : Def Γ "is_text" (top 35) ["thing"]) : HasF Γ 1 "is_text" c_is_text := by
  refine hasF D sc_is_text (fun _ _ => rfl) fun l ⟨h1, h2, h3⟩ => ?_
  refine xp_then (xq_ifB (xt_w (xw_or (xt_not (xt_v (xd_isiB "str" (xd_var 0 rfl) Gx.bStr (by decide +kernel) ⟨nofun, by with_unfolding_all rfl⟩))) fun _ => (xw_or1 (xt_not (xt_c (xc_chain (fun _ _ => op_le) (fun _ _ => op_le) xd_int (xd_lenS (xd_var 0 rfl) (by omega)) xd_cMOST)))))) (fun hT => ?_) (fun _ => xp_nil rfl)) ?_
  · rw [decide_eq_true (by omega : (1 : Int) ≤ (l.length : Int)), decide_eq_true (by omega : (l.length : Int) ≤ 6)] at hT
    cases hT
  · refine xp_one (xq_retD (Xe.as (xd_all (bs := l.map fun c => decide (c ∈ SIGNS)) (Xe.as (Xo.lst (xo_lc l (fun c => [Ab.dat (pS [c])]) (fun _ => true) (fun c => .bool (decide (c ∈ SIGNS))) [("sign", 1)] (xi_txt (xd_var 0 rfl)) (by omega) (fun c _ => ⟨_, xg_name 1, xts_nil, fun _ => Xc.e (xc_inS (xd_var 1 rfl) xd_cSIGNS)⟩))) ?_)) ?_) rfl)
    · rw [filt, List.map_map]
      rfl
    · rw [List.all_map]
      congr 2
      rw [List.all_eq_true]
      intro c hc
      exact decide_eq_true (h3 c hc)
theorem sc_want_rows : FnScope ["thing", "at", "text"] ["thing"] (defScope (top 36)) := ⟨rfl, rfl, rfl, by decide +kernel, rfl, by decide +kernel, by decide +kernel⟩
theorem ok_want_rows (D : Def Γ "want_rows" (top 36) ["thing"]) (h_is_text : HasF Γ 1 "is_text" c_is_text) : HasF Γ 2 "want_rows" c_want_rows := by
  refine hasF D sc_want_rows (fun _ _ => rfl) fun rows F => ?_
  have F : FlOk rows := F
  have hl : (rows.map pS).length = rows.length := List.length_map ..
  have f1 := F.h1
  have f2 := F.h2
  have f3 := F.w2
  refine xp_then (xq_ifB (xt_w (xw_or (xt_not (xt_v (xd_isiB "list" (xd_var 0 rfl) Gx.bList (by decide +kernel) ⟨nofun, by with_unfolding_all rfl⟩))) fun _ => (xw_or1 (xt_not (xt_c (xc_chain (fun _ _ => op_le) (fun _ _ => op_le) xd_int (xd_len (xd_var 0 rfl) rfl) xd_cMOST)))))) (fun hT => ?_) (fun _ => xp_nil rfl)) ?_
  · rw [hl, decide_eq_true (by omega : (1 : Int) ≤ (rows.length : Int)), decide_eq_true (by omega : (rows.length : Int) ≤ 6)] at hT
    cases hT
  · refine xp_one (xq_for [1, 2] (fun _ A => ∃ u v, A = ⟨[some (.dat (.list (rows.map pS))), u, v], none⟩) (xi_enum (xd_var 0 rfl) Gx.bEnum) ⟨none, none, rfl⟩ (fun i it A' hit hI => ?_) fun _ _ => rfl)
    obtain ⟨u, v, rfl⟩ := hI
    obtain ⟨j, hj, hm, rfl⟩ := map_get hit
    have hj' : j < (rows.map pS).length := List.mem_range.mp hm
    have hj2 : j < rows.length := by rw [hl] at hj'; exact hj'
    have hd : (rows.map pS).getD j .none = pS rows[j] := by
      rw [List.getD_eq_getElem?_getD, List.getElem?_map, List.getElem?_eq_getElem hj2]
      rfl
    have hr := List.getElem_mem hj2
    have h0 : atI (rows.map pS) 0 = some (pS (rows.headD [])) := by
      cases rows with
      | nil => simp at f1
      | cons r rs => exact atI_nat (j := 0) rfl
    rw [hd]
    refine ⟨_, xg_pair 1 2, ?_⟩
    refine xp_one (xq_ifB (xt_w (xw_or (xt_not (xt_v (xd_call h_is_text lv rows[j] ⟨by rw [F.w _ hr]; exact F.w1, by rw [F.w _ hr]; exact F.w2, F.s _ hr⟩ (xs_cons (xd_var 2 rfl) xs_nil) rfl))) fun _ => (xw_or1 (xt_c (xc_neI (xd_lenS (xd_var 2 rfl) (by rw [F.w _ hr]; omega)) (xd_lenS (xd_ixL (xd_var 0 rfl) xd_int h0) (by show wid rows ≤ _; omega))))))) (fun hT => ?_) (fun _ => xp_nil ⟨_, _, rfl⟩))
    rw [decide_eq_true (by rw [F.w _ hr]; rfl : ((rows[j].length : Nat) : Int) = (((rows.headD []).length : Nat) : Int))] at hT
    cases hT
theorem sc_next_to : FnScope ["place", "way", "down", "along"] ["place", "way"] (defScope (top 37)) := ⟨rfl, rfl, rfl, by decide +kernel, rfl, by decide +kernel, by decide +kernel⟩
theorem stp_at : ∀ d : D4, atI [pP (-1, 0), pP (0, 1), pP (1, 0), pP (0, -1)] (d.val : Int) = some (pP (stp d))
  | 0 => rfl
  | 1 => rfl
  | 2 => rfl
  | 3 => rfl
theorem ok_next_to (D : Def Γ "next_to" (top 37) ["place", "way"]) : HasF Γ 1 "next_to" c_next_to := by
  refine hasF D sc_next_to (fun _ _ => rfl) fun ⟨p, d⟩ _ => ?_
  refine xp_then (xq_asgD [2, 3] (xd_ixT xd_cSTEPS (xd_index xd_cDEEDS (xd_var 1 rfl) (dc_occ d)) (stp_at d)) (xg_pairD 2 3) rfl) ?_
  exact xp_one (xq_retD (xd_tup (ds := [.int _, .int _]) (xs_cons (xd_add (xd_ixT (xd_var 0 rfl) xd_int rfl) (xd_var 2 rfl)) (xs_cons (xd_add (xd_ixT (xd_var 0 rfl) xd_int rfl) (xd_var 3 rfl)) xs_nil))) rfl)
abbrev fl (j : Nat) : Stmt := inClass (top 38) j
theorem headD_at {rows : List (List Nat)} (F : FlOk rows) : atI (rows.map pS) 0 = some (pS (rows.headD [])) := by
  have f1 := F.h1
  cases rows with
  | nil => simp at f1
  | cons r rs => exact atI_nat (j := 0) rfl
theorem sc_finit : FnScope ["self", "rows"] ["self", "rows"] (defScope (fl 0)) := ⟨rfl, rfl, rfl, by decide +kernel, rfl, by decide +kernel, by decide +kernel⟩
theorem ok_finit {f : Addr} {fd : FuncData} (F : FunD Γ.K "__init__" "Floor.__init__" (defArgs (fl 0)) (defBody (fl 0)) (defScope (fl 0)) [] [] f fd) (M : Mk Γ.K (CF Γ.K) f) (hb : Binds Γ.K fd ["self", "rows"] []) (h_want_rows : HasF Γ 2 "want_rows" c_want_rows) : HasI Γ 3 (CF Γ.K) ci_Floor := by
  refine ⟨f, fd, _, fn_okI F sc_finit (fun _ _ => rfl) fun rows x hp => ?_, M, hb⟩
  refine xp_then (xq_expr (xd_call h_want_rows lv rows hp (xs_cons (xd_var 1 rfl) xs_nil) rfl) rfl) ?_
  exact xp_one (xq_fldD 0 rfl Gx.clF Gx.aTexts (xd_tuple (xd_var 1 rfl) rfl) rfl)
theorem sc_feq : FnScope ["self", "other"] ["self", "other"] (defScope (fl 1)) := ⟨rfl, rfl, rfl, by decide +kernel, rfl, by decide +kernel, by decide +kernel⟩
theorem ok_feq (D : MDef Γ (CF Γ.K) "__eq__" "Floor.__eq__" (fl 1) ["self", "other"]) : HasM Γ 1 (CF Γ.K) "__eq__" c_feq := by
  refine hasM D sc_feq (fun _ _ => rfl) fun ⟨r, q⟩ ⟨hr, hq⟩ => ?_
  have hs : ∀ rows : List (List Nat), FlOk rows → SeqAt.shaped (.tuple (rows.map pS)) = true := fun rows F => sh_ok (sh_tup (k := 0) (sh_map fun a ha => sh_txt fun c hc => sg_lt c (F.s a ha c hc)))
  refine xp_one (xq_retD (Xe.as (xd_and (xd_isiC (xd_var 1 rfl) Gx.mgF rfl) fun _ => (xe_one (Xc.e (xc_eqD (xd_texts (xd_var 0 rfl)) (xd_texts (xd_var 1 rfl)) (hs r hr) (hs q hq))))) ?_) rfl)
  rw [eqv_tup eqv_pS]
  rfl
theorem sc_size : FnScope ["self"] ["self"] (defScope (fl 4)) := ⟨rfl, rfl, rfl, by decide +kernel, rfl, by decide +kernel, by decide +kernel⟩
theorem ok_size (D : MDef Γ (CF Γ.K) "size" "Floor.size" (fl 4) ["self"]) : HasM Γ 1 (CF Γ.K) "size" c_size := by
  refine hasM D sc_size (fun _ _ => rfl) fun rows F => ?_
  have F : FlOk rows := F
  have f3 := F.w2
  refine xp_one (xq_retD (xd_tup (ds := [.int _, .int _]) (xs_cons (Xe.as (xd_len (xd_texts (xd_var 0 rfl)) rfl) (by rw [List.length_map]; rfl)) (xs_cons (xd_lenS (xd_ixT (xd_texts (xd_var 0 rfl)) xd_int (headD_at F)) (by show wid rows ≤ _; omega)) xs_nil))) rfl)
theorem sc_has : FnScope ["self", "thing", "rows", "columns"] ["self", "thing"] (defScope (fl 5)) := ⟨rfl, rfl, rfl, by decide +kernel, rfl, by decide +kernel, by decide +kernel⟩
theorem ok_has (D : MDef Γ (CF Γ.K) "has" "Floor.has" (fl 5) ["self", "thing"]) (h_size : HasM Γ 1 (CF Γ.K) "size" c_size) (h_is_place : HasF Γ 3 "is_place" c_is_place) : HasM Γ 4 (CF Γ.K) "has" c_has := by
  refine hasM D sc_has (fun _ _ => rfl) fun ⟨rows, p⟩ F => ?_
  refine xp_then (xq_asgD [2, 3] (xd_meth0 h_size lv Gx.clF (xd_var 0 rfl) ins_flo rows F rfl rfl) (xg_pairD 2 3) rfl) ?_
  exact xp_one (xq_retD (xd_call h_is_place lv (p, _, _) trivial (xs_cons (xd_var 1 rfl) (xs_cons (xd_var 2 rfl) (xs_cons (xd_var 3 rfl) xs_nil))) rfl) rfl)
theorem sc_seen : FnScope ["self", "place"] ["self", "place"] (defScope (fl 6)) := ⟨rfl, rfl, rfl, by decide +kernel, rfl, by decide +kernel, by decide +kernel⟩
theorem ok_seen (D : MDef Γ (CF Γ.K) "seen" "Floor.seen" (fl 6) ["self", "place"]) (h_has : HasM Γ 4 (CF Γ.K) "has" c_has) : HasM Γ 5 (CF Γ.K) "seen" c_seen := by
  refine hasM D sc_seen (fun _ _ => rfl) fun ⟨rows, p⟩ F => ?_
  have F : FlOk rows := F
  refine xp_cons (Mid := fun B => inF rows p = true ∧ B = _) (xq_ifB (xt_not (xt_v (xd_meth h_has lv Gx.clF (xd_var 0 rfl) ins_flo (rows, p) F (xs_cons (xd_var 1 rfl) xs_nil) rfl rfl))) (fun hT => ?_) (fun hF => xp_nil ⟨by simpa using hF, rfl⟩)) ?_
  · refine xp_one (xq_retD xd_cWALL ?_)
    show Ab.dat (pS [35]) = Ab.dat (pS [seen rows p])
    unfold seen
    rw [show inF rows p = false by simpa using hT]
    rfl
  · rintro B ⟨hin, rfl⟩
    obtain ⟨r, h1, h2, h3, _⟩ := F.at2 hin
    refine xp_one (xq_retD (xd_ixS (xd_ixT (xd_texts (xd_var 0 rfl)) (xd_ixT (xd_var 1 rfl) xd_int rfl) h1) (xd_ixT (xd_var 1 rfl) xd_int rfl) h2 (by omega)) ?_)
    show Ab.dat (pS [_]) = Ab.dat (pS [seen rows p])
    unfold seen
    rw [hin]
    rfl
theorem sc_letters : FnScope ["self", "letter", "text"] ["self"] (defScope (fl 8)) := ⟨rfl, rfl, rfl, by decide +kernel, rfl, by decide +kernel, by decide +kernel⟩
theorem ok_letters (D : MDef Γ (CF Γ.K) "letters" "Floor.letters" (fl 8) ["self"]) : HasM Γ 1 (CF Γ.K) "letters" c_letters := by
  refine hasM D sc_letters (fun _ _ => rfl) fun rows F => ?_
  have F : FlOk rows := F
  have f2 := F.h2
  refine xp_one (xq_retD (xd_join (ls := (letters rows).map fun c => [c]) (xd_str []) (Xe.as (Xo.lst (xo_lc LETTERS (fun c => [Ab.dat (pS [c])]) (fun c => rows.any fun r => decide (c ∈ r)) (fun c => pS [c]) [("letter", 1)] (xi_eq (xi_txt xd_cLETTERS) rfl) (by decide) (fun c _ =>
    ⟨_, xg_name 1, xts_one (xt_v (Xe.as (xd_any (bs := rows.map fun r => decide (c ∈ r)) (Xe.as (Xo.lst (xo_lc rows (fun r => [Ab.dat (pS r)]) (fun _ => true) (fun r => .bool (decide (c ∈ r))) [("text", 2)] (xi_eq (xi_tup (xd_texts (xd_var 0 rfl))) ?_) (by omega) (fun r _ => ⟨_, xg_name 2, xts_nil, fun _ => Xc.e (xc_inS (xd_var 1 rfl) (xd_var 2 rfl))⟩))) ?_)) ?_)), fun _ => xd_var 1 rfl⟩))) ?_) ?_) ?_)
  · unfold its1
    rw [List.map_map]
    rfl
  · rw [filt, List.map_map]
    rfl
  · rw [List.any_map]
    rfl
  · rw [List.map_map]
    rfl
  · rw [flat_one]
    have h : (letters rows).length ≤ 4 := List.length_filter_le ..
    rw [List.length_map]
    omega
  · show Ab.dat (pS _) = Ab.dat (pS _)
    rw [flat_one, List.map_id']
theorem range_its {n : Nat} : itsR 0 1 ((n : Int)).toNat = (List.range n).map fun i => [Ab.dat (.int (i : Nat))] := by
  unfold itsR
  rw [Int.toNat_natCast]
  refine List.map_congr_left fun i _ => ?_
  rw [Int.mul_one, Int.zero_add]
theorem midN {n : Nat} (h : n ≤ 100000) : midI (n : Int) := ⟨by omega, by omega⟩
theorem sc_places : FnScope ["self", "rows", "columns", "row", "column"] ["self"] (defScope (fl 9)) := ⟨rfl, rfl, rfl, by decide +kernel, rfl, by decide +kernel, by decide +kernel⟩
theorem ok_places (D : MDef Γ (CF Γ.K) "places" "Floor.places" (fl 9) ["self"]) (h_size : HasM Γ 1 (CF Γ.K) "size" c_size) : HasM Γ 2 (CF Γ.K) "places" c_places := by
  refine hasM D sc_places (fun _ _ => rfl) fun rows F => ?_
  have F : FlOk rows := F
  have f2 : hgt rows ≤ 6 := F.h2
  have f3 := F.w2
  refine xp_then (xq_asgD [1, 2] (xd_meth0 h_size lv Gx.clF (xd_var 0 rfl) ins_flo rows F rfl rfl) (xg_pairD 1 2) rfl) ?_
  refine xp_one (xq_retD (Xe.as (d := .dat (.list ((places (hgt rows) (wid rows)).map pP))) (Xo.lst (xo_lc2 (List.range (hgt rows)) (fun i => [Ab.dat (.int (i : Nat))]) (List.range (wid rows)) (fun i => [Ab.dat (.int (i : Nat))]) (fun y x => pP ((y : Nat), (x : Nat))) [("row", 3), ("column", 4)] [4] (xi_eq (xi_rng1 (xd_var 1 rfl) (midN (by omega)) Gx.bRange) range_its) ?_ (fun y _ =>
    ⟨_, xg_name 3, xi_eq (xi_rng1 (xd_var 2 rfl) (midN (by omega)) Gx.bRange) range_its, rfl, fun x _ => ⟨_, xg_name 4, xd_tup (ds := [.int _, .int _]) (xs_cons (xd_var 3 rfl) (xs_cons (xd_var 4 rfl) xs_nil))⟩⟩))) ?_) rfl)
  · rw [List.length_range, List.length_range]
    calc hgt rows * wid rows ≤ 6 * 6 := Nat.mul_le_mul f2 f3
      _ ≤ 100000 := by decide
  · unfold places
    rw [List.map_flatten, List.map_map]
    congr 3
    refine List.map_congr_left fun y _ => ?_
    show _ = List.map pP _
    rw [List.map_map]
    rfl
theorem places_len (h w : Nat) : (places h w).length = h * w := by
  unfold places
  rw [List.length_flatten, List.map_map]
  have : (List.map (List.length ∘ fun (y : Nat) => (List.range w).map fun (x : Nat) => (((y : Int), (x : Int)) : Pl)) (List.range h)) = List.replicate h w := by
    rw [List.eq_replicate_iff]
    refine ⟨by simp, fun b hb => ?_⟩
    obtain ⟨y, _, rfl⟩ := List.mem_map.mp hb
    simp
  rw [this]
  simp
theorem sc_opens : FnScope ["self", "place"] ["self"] (defScope (fl 10)) := ⟨rfl, rfl, rfl, by decide +kernel, rfl, by decide +kernel, by decide +kernel⟩
theorem ok_opens (D : MDef Γ (CF Γ.K) "open_places" "Floor.open_places" (fl 10) ["self"]) (h_places : HasM Γ 2 (CF Γ.K) "places" c_places) (h_seen : HasM Γ 5 (CF Γ.K) "seen" c_seen) : HasM Γ 6 (CF Γ.K) "open_places" c_opens := by
  refine hasM D sc_opens (fun _ _ => rfl) fun rows F => ?_
  have F : FlOk rows := F
  have f2 : hgt rows ≤ 6 := F.h2
  have f3 := F.w2
  refine xp_one (xq_retD (Xo.lst (xo_lc (places (hgt rows) (wid rows)) (fun p => [Ab.dat (pP p)]) (fun p => decide (seen rows p ∈ OPEN)) pP [("place", 1)] (xi_eq (xi_list (xd_meth0 h_places lv Gx.clF (xd_var 0 rfl) ins_flo rows F rfl rfl)) ?_) ?_ (fun p _ => ⟨_, xg_name 1, xts_one (xt_c (xc_inS (xd_meth h_seen lv Gx.clF (xd_var 0 rfl) ins_flo (rows, p) F (xs_cons (xd_var 1 rfl) xs_nil) rfl rfl) xd_cOPEN)), fun _ => xd_var 1 rfl⟩))) rfl)
  · unfold its1
    rw [List.map_map]
    rfl
  · rw [places_len]
    calc hgt rows * wid rows ≤ 6 * 6 := Nat.mul_le_mul f2 f3
      _ ≤ 100000 := by decide
theorem sc_can_stand : FnScope ["self", "thing"] ["self", "thing"] (defScope (fl 11)) := ⟨rfl, rfl, rfl, by decide +kernel, rfl, by decide +kernel, by decide +kernel⟩
theorem ok_can_stand (D : MDef Γ (CF Γ.K) "can_stand" "Floor.can_stand" (fl 11) ["self", "thing"]) (h_has : HasM Γ 4 (CF Γ.K) "has" c_has) (h_seen : HasM Γ 5 (CF Γ.K) "seen" c_seen) : HasM Γ 6 (CF Γ.K) "can_stand" c_can_stand := by
  refine hasM D sc_can_stand (fun _ _ => rfl) fun ⟨rows, p⟩ F => ?_
  exact xp_one (xq_retD (xd_and (xd_meth h_has lv Gx.clF (xd_var 0 rfl) ins_flo (rows, p) F (xs_cons (xd_var 1 rfl) xs_nil) rfl rfl) fun _ => (xe_one (Xc.e (xc_inS (xd_meth h_seen lv Gx.clF (xd_var 0 rfl) ins_flo (rows, p) F (xs_cons (xd_var 1 rfl) xs_nil) rfl rfl) (xd_cat xd_cOPEN xd_cICE (by decide)))))) rfl)
/-- how far the border is -/
def far (rows : List (List Nat)) (d : D4) (p : Pl) : Int := match d with
  | 0 => p.1 + 1
  | 1 => (wid rows : Int) - p.2
  | 2 => (hgt rows : Int) - p.1
  | 3 => p.2 + 1
theorem far_in {rows : List (List Nat)} {d : D4} {p : Pl} (h : inF rows p = true) : 1 ≤ far rows d p := by
  obtain ⟨⟨a, b⟩, c, e⟩ := inF_iff.mp h
  match d with
  | 0 => show 1 ≤ p.1 + 1; omega
  | 1 => show 1 ≤ (wid rows : Int) - p.2; omega
  | 2 => show 1 ≤ (hgt rows : Int) - p.1; omega
  | 3 => show 1 ≤ p.2 + 1; omega
theorem far_nxt {rows : List (List Nat)} {d : D4} {p : Pl} : far rows d (nxt p d) = far rows d p - 1 := by
  match d with
  | 0 => show p.1 + -1 + 1 = p.1 + 1 - 1; omega
  | 1 => show (wid rows : Int) - (p.2 + 1) = (wid rows : Int) - p.2 - 1; omega
  | 2 => show (hgt rows : Int) - (p.1 + 1) = (hgt rows : Int) - p.1 - 1; omega
  | 3 => show p.2 + -1 + 1 = p.2 + 1 - 1; omega
theorem far_le {rows : List (List Nat)} (F : FlOk rows) {d : D4} {p : Pl} (h : inF rows p = true) : far rows d p ≤ 6 := by
  obtain ⟨⟨a, b⟩, c, e⟩ := inF_iff.mp h
  have f2 : hgt rows ≤ 6 := F.h2
  have f3 := F.w2
  match d with
  | 0 => show p.1 + 1 ≤ 6; omega
  | 1 => show (wid rows : Int) - p.2 ≤ 6; omega
  | 2 => show (hgt rows : Int) - p.1 ≤ 6; omega
  | 3 => show p.2 + 1 ≤ 6; omega
theorem seen_ice {rows : List (List Nat)} {p : Pl} (h : seen rows p = 126) : inF rows p = true := by
  unfold seen at h
  split at h
  · assumption
  · cases h
def slE (rows : List (List Nat)) (here there : Pl) : Option Pl := if seen rows there = 35 then some here else if seen rows there = 120 then none else some there
theorem sl_end {rows : List (List Nat)} {d : D4} {here there : Pl} (h : seen rows there ≠ 126) : ∀ k, sl rows d k here there = slE rows here there
  | 0 => rfl
  | k + 1 => by
    unfold sl
    rw [if_neg h]
    rfl
theorem canSt_in {rows : List (List Nat)} {p : Pl} (h : canSt rows p = true) : inF rows p = true := by
  unfold canSt at h
  rw [Bool.and_eq_true] at h
  exact h.1
theorem sc_goes : FnScope ["self", "place", "way", "here", "there"] ["self", "place", "way"] (defScope (fl 12)) := ⟨rfl, rfl, rfl, by decide +kernel, rfl, by decide +kernel, by decide +kernel⟩
theorem ok_goes (D : MDef Γ (CF Γ.K) "goes" "Floor.goes" (fl 12) ["self", "place", "way"]) (h_can_stand : HasM Γ 6 (CF Γ.K) "can_stand" c_can_stand) (h_seen : HasM Γ 5 (CF Γ.K) "seen" c_seen) (h_next_to : HasF Γ 1 "next_to" c_next_to) (h_want_deed : HasF Γ 2 "want_deed" c_want_deed) : HasM Γ 7 (CF Γ.K) "goes" c_goes := by
  refine hasM D sc_goes (fun _ _ => rfl) fun ⟨rows, p, d⟩ ⟨F, hc⟩ => ?_
  have F : FlOk rows := F
  have hc : canSt rows p = true := hc
  refine xp_then (xq_ifB (xt_not (xt_v (xd_meth h_can_stand lv Gx.clF (xd_var 0 rfl) ins_flo (rows, p) F (xs_cons (xd_var 1 rfl) xs_nil) rfl rfl))) (fun hT => by rw [hc] at hT; cases hT) (fun _ => xp_nil rfl)) ?_
  refine xp_then (xq_expr (xd_call h_want_deed lv _ trivial (xs_cons (xd_var 2 rfl) xs_nil) rfl) rfl) ?_
  refine xp_then (xq_parD 3 4 (xs_cons (xd_var 1 rfl) (xs_cons (xd_call h_next_to lv (p, d) trivial (xs_cons (xd_var 1 rfl) (xs_cons (xd_var 2 rfl) xs_nil)) rfl) xs_nil)) rfl) ?_
  refine xp_cons (Mid := fun B => ∃ here there, B = ⟨[some (.flo rows), some (.dat (pP p)), some (.dat (pD d)), some (.dat (pP here)), some (.dat (pP there))], none⟩ ∧ slE rows here there = goes rows p d) (xq_while (fun k A => ∃ here there, A = ⟨[some (.flo rows), some (.dat (pP p)), some (.dat (pD d)), some (.dat (pP here)), some (.dat (pP there))], none⟩ ∧ sl rows d k here there = goes rows p d ∧ far rows d there ≤ k) (n0 := 8) ⟨p, nxt p d, rfl, rfl, by rw [far_nxt]; have := far_le F (d := d) (canSt_in hc); omega⟩ (fun k A' hI => ?_)) ?_
  · obtain ⟨here, there, rfl, hs, hf⟩ := hI
    refine ⟨decide ([seen rows there] = [126]), xt_c (xc_eqS (xd_meth h_seen lv Gx.clF (xd_var 0 rfl) ins_flo (rows, there) F (xs_cons (xd_var 4 rfl) xs_nil) rfl rfl) xd_cICE), fun hb => ?_, fun hb => ?_⟩
    · have hb' : seen rows there = 126 := by simpa using hb
      have h1 := far_in (d := d) (seen_ice hb')
      cases k with
      | zero => exfalso; omega
      | succ k =>
        refine xp_one (xq_parD 3 4 (xs_cons (xd_var 4 rfl) (xs_cons (xd_call h_next_to lv (there, d) trivial (xs_cons (xd_var 4 rfl) (xs_cons (xd_var 2 rfl) xs_nil)) rfl) xs_nil)) ⟨k, Nat.lt_succ_self k, there, nxt there d, rfl, ?_, ?_⟩)
        · rw [← hs]
          show _ = sl rows d (k + 1) here there
          unfold sl
          rw [if_pos hb']
          cases k <;> rfl
        · rw [far_nxt]
          omega
    · have hb' : seen rows there ≠ 126 := by simpa using hb
      exact ⟨here, there, rfl, by rw [← hs, sl_end hb']⟩
  · rintro B ⟨here, there, rfl, hs⟩
    refine xp_cons (Mid := fun B => seen rows there ≠ 35 ∧ B = _) (xq_ifB (xt_c (xc_eqS (xd_meth h_seen lv Gx.clF (xd_var 0 rfl) ins_flo (rows, there) F (xs_cons (xd_var 4 rfl) xs_nil) rfl rfl) xd_cWALL)) (fun hT => ?_) (fun hF => xp_nil ⟨by simpa using hF, rfl⟩)) ?_
    · refine xp_one (xq_retD (xd_var 3 rfl) ?_)
      have hT' : seen rows there = 35 := by simpa using hT
      show Ab.dat (pP here) = Ab.dat (pPo (goes rows p d))
      rw [← hs]
      unfold slE
      rw [if_pos hT']
      rfl
    · rintro B ⟨h35, rfl⟩
      refine xp_one (xq_retD (a := .dat (pPo (goes rows p d))) (xe_if (xt_c (xc_eqS (xd_meth h_seen lv Gx.clF (xd_var 0 rfl) ins_flo (rows, there) F (xs_cons (xd_var 4 rfl) xs_nil) rfl rfl) xd_cPIT)) (fun hp => Xe.as xd_non ?_) (fun hp => Xe.as (xd_var 4 rfl) ?_)) rfl)
      · have hp' : seen rows there = 120 := by simpa using hp
        rw [← hs]
        unfold slE
        rw [if_neg h35, if_pos hp']
        rfl
      · have hp' : seen rows there ≠ 120 := by simpa using hp
        rw [← hs]
        unfold slE
        rw [if_neg h35, if_neg hp']
        rfl
end
end Oh
set_option maxHeartbeats 4000000
/-! OhR: walks: the law's draws. -/
namespace Oh
open PySem L2
/-- an int from 0 on, below B -/
def nbI (B : Int) (z : Ab) : Prop := ∃ i : Int, z = .dat (.int i) ∧ 0 ≤ i ∧ i < B
abbrev c_mixed : Con := ⟨Int × Int, fun _ => True, fun g => [.dat (.int g.1), .dat (.int g.2)], fun _ => anyI⟩
abbrev c_source : Con := conD (α := Int) (fun _ => True) (fun i => [.dat (.int i)]) (fun _ => .src)
abbrev c_take : Con := ⟨Int, fun n => 0 < n ∧ n ≤ 1000, fun n => [.src, .dat (.int n)], fun n => nbI n⟩
abbrev c_oneL : Con := ⟨List PyData, fun ds => ds ≠ [] ∧ ds.length ≤ 1000, fun ds => [.src, .dat (.list ds)], fun ds z => ∃ d ∈ ds, z = .dat d⟩
abbrev c_oneS : Con := ⟨List Nat, fun l => l ≠ [] ∧ l.length ≤ 1000, fun l => [.src, .dat (pS l)], fun l z => ∃ c ∈ l, z = .dat (pS [c])⟩
def anyT (z : Ab) : Prop := ∃ t : T8, z = .dat (pT t)
abbrev c_sense : Con := ⟨Unit, fun _ => True, fun _ => [.src], fun _ => anyT⟩
section
variable {C : Ct} {A : AS} {S S' : Ab → Prop} {a b e o : Expr} {es : List Expr} {pos p : Pos} {x : Str}
/-- a call of which an argument is known in part -/
theorem xe_callP {c : Con} {k : Nat} {St : List Ab → Prop} (F : HasF C.ga k x c) (hk : k ≤ C.k) (ha : Xa C (e :: es) A St) (hs : ∀ as, St as → ∃ g, c.pre g ∧ as = c.args g ∧ ∀ z, c.res g z → S z) (hg : gloB C.sc x = true := by (try dsimp only [Ct.blk]); decide +kernel) (hst : noStars (e :: es) = true := by rfl)
    (hdb : (x == ("__debug__" : Str)) = false := by decide +kernel) : Xe C (.Call (.Name x p) (e :: es) [] pos) A S := xe_callS F hk ha hs hg hst hdb
theorem xe_modA {i : Int → Prop} {k : Int} (ha : Xe C a A anyI) (hb : Xd C b A (.dat (.int k))) (h : 0 < k) : Xe C (.BinOp a .Mod b pos) A (nbI k) := xe_bin (fun _ _ => op_mod) ha hb fun c d hc hd => by
  obtain ⟨i, rfl⟩ := hc
  subst hd
  intro x y G H e i1 i2 Q q
  exact ⟨i, k, is_int i1, is_int i2, h, q _ G H _ (Nx.refl e) ⟨_, rfl, Int.emod_nonneg _ (by omega), Int.emod_lt_of_pos _ h⟩ mk_int⟩
theorem xe_fdivA {k : Int} (ha : Xe C a A anyI) (hb : Xd C b A (.dat (.int k))) (h : CDivW 0 k) : Xe C (.BinOp a .FloorDiv b pos) A anyI := xe_bin (fun _ _ => op_fdivW) ha hb fun c d hc hd => by
  obtain ⟨i, rfl⟩ := hc
  subst hd
  intro x y G H e i1 i2 Q q
  exact ⟨i, k, is_int i1, is_int i2, h, q _ G H _ (Nx.refl e) ⟨_, rfl⟩ mk_int⟩
theorem xe_addA {k : Int} (ha : Xe C a A anyI) (hb : Xd C b A (.dat (.int k))) : Xe C (.BinOp a .Add b pos) A anyI := xe_bin (fun _ _ => op_add) ha hb fun c d hc hd => by
  obtain ⟨i, rfl⟩ := hc
  subst hd
  intro x y G H e i1 i2 Q q
  exact ⟨i, k, is_int i1, is_int i2, q _ G H _ (Nx.refl e) ⟨_, rfl⟩ mk_int⟩
theorem xc_geA {k : Int} (ha : Xe C a A anyI) (hb : Xd C b A (.dat (.int k))) : Xc C (.Compare a [.GtE] [b] pos) A (fun z => ∃ r, z = .dat (.bool r)) := xe_cmp (fun _ _ => op_ge) ha hb fun c d hc hd => by
  obtain ⟨i, rfl⟩ := hc
  subst hd
  intro x y G H e i1 i2 Q q
  exact ⟨i, k, is_int i1, is_int i2, q _ G H _ (Nx.refl e) ⟨_, rfl⟩ mk_bool⟩
/-- an index known in part -/
theorem xe_ixLS {ds : List PyData} {S : Ab → Prop} (ha : Xd C a A (.dat (.list ds))) (hb : Xe C b A (nbI ds.length)) (h : ∀ d ∈ ds, S (.dat d)) (hs : PlainIx b := by exact fun _ _ => rfl) : Xe C (.Subscript a b pos) A S := xe_ix on_ixL ha hb (fun c d hc hd => by
  subst hc
  obtain ⟨i, rfl, h0, h1⟩ := hd
  have hi : i.toNat < ds.length := by omega
  have e := atI_pos h0 (List.getElem?_eq_getElem hi)
  exact fun x y G H ex i1 i2 Q q => rv_ixL (C := C) e x y G H ex i1 i2 Q fun v G' H' c n s i => q v G' H' c n (by rw [s]; exact h _ (List.getElem_mem hi)) i) hs
theorem xe_ixSS {l : List Nat} {S : Ab → Prop} (ha : Xd C a A (.dat (pS l))) (hb : Xe C b A (nbI l.length)) (hl : l.length ≤ 100000) (h : ∀ c ∈ l, S (.dat (pS [c]))) (hs : PlainIx b := by exact fun _ _ => rfl) : Xe C (.Subscript a b pos) A S := xe_ix (fun _ _ => ix_str) ha hb (fun c d hc hd => by
  subst hc
  obtain ⟨i, rfl, h0, h1⟩ := hd
  have hi : i.toNat < l.length := by omega
  have e := atI_pos h0 (List.getElem?_eq_getElem hi)
  exact fun x y G H ex i1 i2 Q q => ⟨tx l, i, _, is_str i1, is_int i2, small_le hl, e, q _ G H _ (Nx.refl ex) (h _ (List.getElem_mem hi)) mk_str⟩) hs
end
section
variable {Γ : Ga} [Gx Γ]
theorem sc_mixed : FnScope ["_law_cell", "_law_k", "_law_figure"] ["_law_cell", "_law_k"] (defScope (top 55)) := ⟨rfl, rfl, rfl, by decide +kernel, rfl, by decide +kernel, by decide +kernel⟩
theorem ok_mixed (D : Def Γ "_law_mixed" (top 55) ["_law_cell", "_law_k"]) : HasF Γ 1 "_law_mixed" c_mixed := by
  refine hasF D sc_mixed (fun _ _ => rfl) fun ⟨i, k⟩ _ => ?_
  refine xp_then (xq_setD 2 (xd_mod (xd_mul (xd_add (xd_mod (xd_var 0 rfl) xd_int (by decide)) xd_int) (xd_add (xd_mul (xd_var 1 rfl) xd_int (Or.inr (by decide))) xd_int) (Or.inl ⟨by omega, by omega⟩)) xd_int (by decide)) rfl) ?_
  refine xp_then (xq_setD 2 (xd_mod (xd_mul (xd_add (xd_var 2 rfl) (xd_mul (xd_mod (xd_fdiv (xd_var 0 rfl) xd_int ⟨by decide, by decide +kernel⟩) xd_int (by decide)) (xd_add (xd_var 1 rfl) xd_int) (Or.inl ⟨by omega, by omega⟩))) xd_int (Or.inr (by decide))) xd_int (by decide)) rfl) ?_
  refine xp_then (xq_setD 2 (xd_mod (xd_mul (xd_var 2 rfl) (xd_add (xd_add (xd_fdiv (xd_var 2 rfl) xd_int ⟨by decide, by decide +kernel⟩) xd_int) (xd_var 1 rfl)) (Or.inl ⟨by omega, by omega⟩)) xd_int (by decide)) rfl) ?_
  exact xp_one (xq_retD (xd_mod (xd_mul (xd_var 2 rfl) (xd_add (xd_fdiv (xd_var 2 rfl) xd_int ⟨by decide, by decide +kernel⟩) xd_int) (Or.inl ⟨by omega, by omega⟩)) xd_int (by decide)) ⟨_, rfl⟩)
theorem sc_source : FnScope ["_law_cell"] ["_law_cell"] (defScope (top 56)) := ⟨rfl, rfl, rfl, by decide +kernel, rfl, by decide +kernel, by decide +kernel⟩
theorem ok_source (D : Def Γ "_law_source" (top 56) ["_law_cell"]) : HasF Γ 1 "_law_source" c_source := by
  refine hasF D sc_source (fun _ _ => rfl) fun i _ => ?_
  exact xp_one (xq_retD (xe_src (xs_cons (xd_var 0 rfl) (xs_cons (xd_var 0 rfl) (xs_cons xd_int xs_nil))) fun as e => ⟨i, i, 0, e⟩) rfl)
theorem log_small {n : Int} (h : n ≤ 1000) (h0 : 0 < n) : CDivW 0 n := by
  refine ⟨h0, ?_⟩
  have h1 : n.natAbs ≤ 1000 := by omega
  have h2 : n.natAbs.log2 ≤ n.natAbs := Nat.log2_le_self _
  omega
theorem sc_take : FnScope ["_law_source_here", "_law_size", "_law_found"] ["_law_source_here", "_law_size"] (defScope (top 57)) := ⟨rfl, rfl, rfl, by decide +kernel, rfl, by decide +kernel, by decide +kernel⟩
theorem ok_take (D : Def Γ "_law_take" (top 57) ["_law_source_here", "_law_size"]) (h_mixed : HasF Γ 1 "_law_mixed" c_mixed) : HasF Γ 2 "_law_take" c_take := by
  refine hasF D sc_take (fun _ _ => rfl) fun n ⟨h0, h1⟩ => ?_
  have cd := log_small h1 h0
  refine xp_then (xq_if (T := fun _ => True) (xt_cS (xc_geA (xe_ixSrc (k := 0) (xd_var 0 rfl) xd_int (by decide)) (xd_pow xd_int xd_int ⟨by decide, by decide, by decide⟩)) fun z hz => let ⟨r, hr⟩ := hz; ⟨r, hr, trivial⟩) (fun _ => ?_) (fun _ => xp_nil rfl)) ?_
  · refine xp_cons (Mid := fun B => ∃ i : Int, (0 ≤ i ∧ i < n) ∧ B = ⟨[some .src, some (.dat (.int n)), some (.dat (.int i))], none⟩) (xq_set 2 (xe_modA (i := fun _ => True) (xe_ixSrc (k := 0) (xd_var 0 rfl) xd_int (by decide)) (xd_var 1 rfl) h0) fun z ⟨i, hz, h⟩ => ⟨i, h, by rw [hz]; rfl⟩) ?_
    rintro B ⟨i, hi, rfl⟩
    refine xp_then (xq_setSrc (k := 0) (xe_fdivA (xe_ixSrc (k := 0) (xd_var 0 rfl) xd_int (by decide)) (xd_var 1 rfl) cd) (xd_var 0 rfl) xd_int (by decide) rfl) ?_
    exact xp_one (xq_retD (xd_var 2 rfl) ⟨i, rfl, hi⟩)
  · refine xp_then (xq_setSrc (k := 2) (xe_addA (xe_ixSrc (k := 2) (xd_var 0 rfl) xd_int (by decide)) xd_int) (xd_var 0 rfl) xd_int (by decide) rfl) ?_
    refine xp_one (xq_ret (xe_modA (i := fun _ => True) (xe_callP h_mixed lv (xa_cons (S2 := fun as => ∃ i j : Int, as = [.dat (.int i), .dat (.int j)]) (xe_ixSrc (k := 1) (xd_var 0 rfl) xd_int (by decide)) (xa_cons (S2 := fun as => ∃ j : Int, as = [.dat (.int j)]) (xe_ixSrc (k := 2) (xd_var 0 rfl) xd_int (by decide)) xa_nil fun c cs ⟨j, hj⟩ hc => ⟨j, by rw [hj, hc]⟩) fun c cs ⟨i, hi⟩ ⟨j, hj⟩ => ⟨i, j, by rw [hi, hj]⟩) fun as ⟨i, j, e⟩ => ⟨(i, j), trivial, e, fun z hz => hz⟩) (xd_var 1 rfl) h0) fun z hz => hz)
theorem sc_one : FnScope ["_law_source_here", "_law_some"] ["_law_source_here", "_law_some"] (defScope (top 58)) := ⟨rfl, rfl, rfl, by decide +kernel, rfl, by decide +kernel, by decide +kernel⟩
theorem ok_oneL (D : Def Γ "_law_one" (top 58) ["_law_source_here", "_law_some"]) (h_take : HasF Γ 2 "_law_take" c_take) : HasF Γ 3 "_law_one" c_oneL := by
  refine hasF D sc_one (fun _ _ => rfl) fun ds ⟨h0, h1⟩ => ?_
  have hp : 0 < ds.length := List.length_pos_iff.mpr h0
  exact xp_one (xq_ret (xe_ixLS (xd_var 1 rfl) (xe_callK h_take lv ((ds.length : Nat) : Int) ⟨by omega, by omega⟩ (xs_cons (xd_var 0 rfl) (xs_cons (xd_len (xd_var 1 rfl) rfl) xs_nil)) fun z hz => hz) fun d hd => ⟨d, hd, rfl⟩) fun z hz => hz)
theorem ok_oneS (D : Def Γ "_law_one" (top 58) ["_law_source_here", "_law_some"]) (h_take : HasF Γ 2 "_law_take" c_take) : HasF Γ 3 "_law_one" c_oneS := by
  refine hasF D sc_one (fun _ _ => rfl) fun l ⟨h0, h1⟩ => ?_
  have hp : 0 < l.length := List.length_pos_iff.mpr h0
  exact xp_one (xq_ret (xe_ixSS (xd_var 1 rfl) (xe_callK h_take lv ((l.length : Nat) : Int) ⟨by omega, by omega⟩ (xs_cons (xd_var 0 rfl) (xs_cons (xd_lenS (xd_var 1 rfl) (by omega)) xs_nil)) fun z hz => hz) (by omega) fun d hd => ⟨d, hd, rfl⟩) fun z hz => hz)
def senses : List (List Nat) := [[117, 114, 100, 108], [114, 100, 108, 117], [100, 108, 117, 114], [108, 117, 114, 100], [117, 108, 100, 114], [100, 114, 117, 108], [108, 100, 114, 117], [114, 117, 108, 100]]
theorem senses_t : ∀ l ∈ senses ++ [[117, 114, 100, 108], [117, 114, 100, 108]], ∃ t : T8, l = tt t := by
  intro l h
  have h' : l ∈ (List.finRange 8).map tt := by
    have key : ∀ l ∈ senses ++ [[117, 114, 100, 108], [117, 114, 100, 108]], l ∈ (List.finRange 8).map tt := by decide +kernel
    exact key l h
  obtain ⟨t, _, ht⟩ := List.mem_map.mp h'
  exact ⟨t, ht.symm⟩
theorem sc_sense : FnScope ["_law_source_here", "_law_some"] ["_law_source_here"] (defScope (top 59)) := ⟨rfl, rfl, rfl, by decide +kernel, rfl, by decide +kernel, by decide +kernel⟩
theorem ok_sense (D : Def Γ "_law_sense" (top 59) ["_law_source_here"]) (h_one : HasF Γ 3 "_law_one" c_oneL) : HasF Γ 4 "_law_sense" c_sense := by
  refine hasF D sc_sense (fun _ _ => rfl) fun _ _ => ?_
  refine xp_then (xq_setD 1 (xd_lst (ds := (senses ++ [[117, 114, 100, 108], [117, 114, 100, 108]]).map pS) (xs_cons (xd_str [117, 114, 100, 108]) (xs_cons (xd_str [114, 100, 108, 117]) (xs_cons (xd_str [100, 108, 117, 114]) (xs_cons (xd_str [108, 117, 114, 100]) (xs_cons (xd_str [117, 108, 100, 114]) (xs_cons (xd_str [100, 114, 117, 108]) (xs_cons (xd_str [108, 100, 114, 117]) (xs_cons (xd_str [114, 117, 108, 100]) (xs_cons (xd_str [117, 114, 100, 108]) (xs_cons (xd_str [117, 114, 100, 108]) xs_nil))))))))))) rfl) ?_
  refine xp_one (xq_ret (xe_callK h_one lv ((senses ++ [[117, 114, 100, 108], [117, 114, 100, 108]]).map pS) ⟨by simp [senses], by decide⟩ (xs_cons (xd_var 0 rfl) (xs_cons (xd_var 1 rfl) xs_nil)) fun z hz => hz) fun z ⟨d, hd, hz⟩ => ?_)
  obtain ⟨l, hl, rfl⟩ := List.mem_map.mp hd
  obtain ⟨t, rfl⟩ := senses_t l hl
  exact ⟨t, hz⟩
theorem sc_turn : FnScope ["_law_source_here"] ["_law_source_here"] (defScope (top 75)) := ⟨rfl, rfl, rfl, by decide +kernel, rfl, by decide +kernel, by decide +kernel⟩
theorem ok_turn (D : Def Γ "_law_turn" (top 75) ["_law_source_here"]) (h_one : HasF Γ 3 "_law_one" c_oneL) : HasF Γ 4 "_law_turn" c_sense := by
  refine hasF D sc_turn (fun _ _ => rfl) fun _ _ => ?_
  refine xp_one (xq_ret (xe_callK h_one lv (senses.map pS) ⟨by simp [senses], by decide⟩ (xs_cons (xd_var 0 rfl) (xs_cons (xd_lst (ds := senses.map pS) (xs_cons (xd_str [117, 114, 100, 108]) (xs_cons (xd_str [114, 100, 108, 117]) (xs_cons (xd_str [100, 108, 117, 114]) (xs_cons (xd_str [108, 117, 114, 100]) (xs_cons (xd_str [117, 108, 100, 114]) (xs_cons (xd_str [100, 114, 117, 108]) (xs_cons (xd_str [108, 100, 114, 117]) (xs_cons (xd_str [114, 117, 108, 100]) xs_nil))))))))) xs_nil)) fun z hz => hz) fun z ⟨d, hd, hz⟩ => ?_)
  obtain ⟨l, hl, rfl⟩ := List.mem_map.mp hd
  obtain ⟨t, rfl⟩ := senses_t l (List.mem_append_left _ hl)
  exact ⟨t, hz⟩
end
end Oh
set_option maxHeartbeats 4000000
/-! OhS: walks: the law's own floors and walks. -/
namespace Oh
open PySem L2
abbrev c_becomes : Con := conD (α := T8 × List D4) (fun g => g.2.length ≤ 1000) (fun g => [.dat (pT g.1), .dat (pS (rw4 g.2))]) (fun g => .dat (pS (rw4 (g.2.map (tn g.1)))))
abbrev c_lsign : Con := conD (α := List (List Nat) × Pl) (fun g => FlOk g.1) (fun g => [.dat (.list (g.1.map pS)), .dat (pP g.2)]) (fun g => .dat (pS [seen g.1 g.2]))
abbrev c_lgoes : Con := conD (α := List (List Nat) × Pl × D4) (fun g => FlOk g.1 ∧ inF g.1 g.2.1 = true) (fun g => [.dat (.list (g.1.map pS)), .dat (pP g.2.1), .dat (pD g.2.2)]) (fun g => .dat (pPo (goes g.1 g.2.1 g.2.2)))
/-- a land -/
structure Ld where
  rows : List (List Nat)
  st : Sd
  bk : List (Nat × T8)
  ws : List Pl
structure LdOk (L : Ld) : Prop where
  f : FlOk L.rows
  b : L.bk.map Prod.fst = letters L.rows
abbrev Ld.ab (L : Ld) : Ab := .land L.rows L.st L.bk L.ws
abbrev c_lbehind : Con := conD (α := Ld × Sd × D4) (fun g => LdOk g.1 ∧ StOk g.1.rows g.2.1) (fun g => [g.1.ab, .dat (pSd g.2.1), .dat (pD g.2.2)]) (fun g => .dat (pSd (behind g.1.rows g.1.bk g.2.1 g.2.2)))
abbrev c_lgone : Con := conD (α := Ld × List D4) (fun g => LdOk g.1 ∧ StOk g.1.rows g.1.st ∧ g.2.length ≤ 1000) (fun g => [g.1.ab, .dat (pS (rw4 g.2))]) (fun g => .dat (.list ((walk g.1.rows g.1.bk g.1.st g.2).map pSd)))
abbrev c_lspun : Con := conD (α := T8 × Pl × Int × Int) (fun g => 1 ≤ g.2.2.1 ∧ 1 ≤ g.2.2.2) (fun g => [.dat (pT g.1), .dat (pP g.2.1), .dat (.int g.2.2.1), .dat (.int g.2.2.2)]) (fun g => .dat (pP (pt g.1 g.2.1 g.2.2.1 g.2.2.2)))
def rowOf (n : Nat) (z : Ab) : Prop := ∃ r : List D4, r.length ≤ n ∧ z = .dat (pS (rw4 r))
abbrev c_lline : Con := ⟨Nat, fun n => n ≤ 100, fun n => [.src, .dat (.int n)], fun n => rowOf n⟩
/-! ### floors, more -/
theorem open_signs : ∀ c ∈ SIGNS, c ≠ 126 → c ≠ 35 → c ≠ 120 → c ∈ OPEN := by decide
theorem seen_out {rows : List (List Nat)} {p : Pl} (h : seen rows p ≠ 35) : inF rows p = true := by
  unfold seen at h
  split at h
  · assumption
  · exact (h rfl).elim
theorem sl_can {rows : List (List Nat)} (F : FlOk rows) {d : D4} : ∀ (k : Nat) (here there q : Pl), canSt rows here = true → (k = 0 → seen rows there ≠ 126) → sl rows d k here there = some q → (∀ j, j < k → True) → canSt rows q = true ∨ seen rows q = 126
  | 0, here, there, q, hh, h0, h, _ => by
    unfold sl at h
    split at h
    · cases h
      exact Or.inl hh
    · split at h
      · cases h
      · cases h
        rename_i a b
        refine Or.inl ?_
        unfold canSt
        rw [seen_out a, decide_eq_true (List.mem_append_left _ (open_signs _ (seen_in F _) (h0 rfl) a b))]
        rfl
  | k + 1, here, there, q, hh, h0, h, _ => by
    unfold sl at h
    split at h
    · rename_i hi
      have hc : canSt rows there = true := by
        unfold canSt
        rw [seen_ice hi, hi]
        rfl
      by_cases hn : seen rows (nxt there d) = 126
      · cases k with
        | zero =>
          unfold sl at h
          rw [if_neg (by rw [hn]; decide), if_neg (by rw [hn]; decide)] at h
          cases h
          exact Or.inr hn
        | succ k => exact sl_can F (k + 1) there (nxt there d) q hc (fun z => by cases z) h fun _ _ => trivial
      · exact sl_can F k there (nxt there d) q hc (fun _ => hn) h fun _ _ => trivial
    · rename_i hi
      split at h
      · cases h
        exact Or.inl hh
      · split at h
        · cases h
        · cases h
          rename_i a b
          refine Or.inl ?_
          unfold canSt
          rw [seen_out a, decide_eq_true (List.mem_append_left _ (open_signs _ (seen_in F _) hi a b))]
          rfl
theorem goes_can {rows : List (List Nat)} (F : FlOk rows) {p q : Pl} {d : D4} (hp : canSt rows p = true) (h : goes rows p d = some q) : canSt rows q = true := by
  rcases sl_can F 8 p (nxt p d) q hp (fun z => by cases z) h fun _ _ => trivial with h1 | h1
  · exact h1
  · unfold canSt
    rw [seen_ice h1, h1]
    rfl
theorem behind_ok {rows : List (List Nat)} (F : FlOk rows) {bk : List (Nat × T8)} : ∀ {s : Sd} {d : D4}, StOk rows s → StOk rows (behind rows bk s d)
  | none, _, _ => trivial
  | some (p, t), d, h => by
    unfold behind
    simp only
    split
    · trivial
    · rename_i q hq
      split
      · exact h
      · exact goes_can F h hq
theorem walk_len {rows : List (List Nat)} {bk : List (Nat × T8)} : ∀ (r : List D4) (s : Sd), (walk rows bk s r).length = r.length + 1
  | [], _ => rfl
  | d :: r, s => by
    show (walk rows bk (behind rows bk s d) r).length + 1 = _
    rw [walk_len r]
    rfl
theorem walk_snoc {rows : List (List Nat)} {bk : List (Nat × T8)} : ∀ (r : List D4) (s : Sd) (d : D4), walk rows bk s (r ++ [d]) = walk rows bk s r ++ [behind rows bk ((walk rows bk s r).getLast?.getD none) d]
  | [], s, d => rfl
  | e :: r, s, d => by
    show s :: walk rows bk (behind rows bk s e) (r ++ [d]) = (s :: walk rows bk (behind rows bk s e) r) ++ _
    rw [walk_snoc r]
    have : (s :: walk rows bk (behind rows bk s e) r).getLast? = (walk rows bk (behind rows bk s e) r).getLast? := by
      cases h : walk rows bk (behind rows bk s e) r with
      | nil =>
        have := walk_len (rows := rows) (bk := bk) r (behind rows bk s e)
        rw [h] at this
        cases this
      | cons a l => rfl
    rw [show walk rows bk s (e :: r) = s :: walk rows bk (behind rows bk s e) r from rfl, this]
    rfl
theorem walk_last {rows : List (List Nat)} {bk : List (Nat × T8)} (r : List D4) (s : Sd) : ∃ l u, walk rows bk s r = l ++ [u] ∧ (walk rows bk s r).getLast?.getD none = u := by
  have h := walk_len (rows := rows) (bk := bk) r s
  rcases List.eq_nil_or_concat (walk rows bk s r) with e | ⟨l, u, e⟩
  · rw [e] at h
    cases h
  · exact ⟨l, u, by rw [e, List.concat_eq_append], by rw [e, List.concat_eq_append, List.getLast?_append]; rfl⟩
theorem walk_st {rows : List (List Nat)} (F : FlOk rows) {bk : List (Nat × T8)} : ∀ (r : List D4) (s : Sd), StOk rows s → ∀ u ∈ walk rows bk s r, StOk rows u
  | [], s, h, u, hu => by
    have : u = s := by simpa [walk] using hu
    rw [this]
    exact h
  | d :: r, s, h, u, hu => by
    rcases List.mem_cons.mp hu with e | hu
    · rw [e]
      exact h
    · exact walk_st F r _ (behind_ok F h) u hu
section
variable {Γ : Ga} [Gx Γ]
theorem sc_becomes : FnScope ["_law_sense_here", "_law_line_here", "_law_step"] ["_law_sense_here", "_law_line_here"] (defScope (top 65)) := ⟨rfl, rfl, rfl, by decide +kernel, rfl, by decide +kernel, by decide +kernel⟩
theorem ok_becomes (D : Def Γ "_law_becomes" (top 65) ["_law_sense_here", "_law_line_here"]) : HasF Γ 1 "_law_becomes" c_becomes := by
  refine hasF D sc_becomes (fun _ _ => rfl) fun ⟨t, r⟩ hr => ?_
  have hr : r.length ≤ 1000 := hr
  refine xp_one (xq_retD (xd_join (ls := r.map fun d => [dc (tn t d)]) (xd_str []) (Xe.as (Xo.lst (xo_lc r (fun d => [Ab.dat (pD d)]) (fun _ => true) (fun d => pD (tn t d)) [("_law_step", 2)] (xi_eq (xi_txt (xd_var 1 rfl)) ?_) (by omega) (fun d _ => ⟨_, xg_name 2, xts_nil, fun _ => xd_ixS (xd_var 0 rfl) (xd_index (xd_str [117, 114, 100, 108]) (xd_var 2 rfl) (dc_occ d)) (tt_at t d) (by show 4 ≤ 100000; decide)⟩))) ?_) ?_) ?_)
  · show itsT (r.map dc) = _
    unfold itsT
    rw [List.map_map]
    rfl
  · rw [filt, List.map_map]
    rfl
  · rw [flat_one, List.length_map]
    omega
  · show Ab.dat (pS _) = Ab.dat (pS _)
    rw [flat_one]
    show _ = Ab.dat (pS ((r.map (tn t)).map dc))
    rw [List.map_map]
    rfl
theorem sc_both : FnScope ["_law_one_here", "_law_other"] ["_law_one_here", "_law_other"] (defScope (top 69)) := ⟨rfl, rfl, rfl, by decide +kernel, rfl, by decide +kernel, by decide +kernel⟩
theorem ok_both (D : Def Γ "_law_both" (top 69) ["_law_one_here", "_law_other"]) (h_becomes : HasF Γ 1 "_law_becomes" c_becomes) : HasF Γ 2 "_law_both" c_then := by
  refine hasF D sc_both (fun _ _ => rfl) fun ⟨a, b⟩ _ => ?_
  refine xp_one (xq_retD (xd_call h_becomes lv (b, D4s.map (tn a)) (by show 4 ≤ 1000; decide) (xs_cons (xd_var 1 rfl) (xs_cons (xd_var 0 rfl) xs_nil)) rfl) ?_)
  show Ab.dat (pS _) = Ab.dat (pS _)
  rw [cm_rw]
theorem sc_undone : FnScope ["_law_sense_here", "_law_step"] ["_law_sense_here"] (defScope (top 70)) := ⟨rfl, rfl, rfl, by decide +kernel, rfl, by decide +kernel, by decide +kernel⟩
theorem ok_undone (D : Def Γ "_law_undone" (top 70) ["_law_sense_here"]) : HasF Γ 1 "_law_undone" c_back := by
  refine hasF D sc_undone (fun _ _ => rfl) fun t _ => ?_
  refine xp_one (xq_retD (xd_join (ls := D4s.map fun d => [dc (tn (inv t) d)]) (xd_str []) (Xe.as (Xo.lst (xo_lc D4s (fun d => [Ab.dat (pD d)]) (fun _ => true) (fun d => pD (tn (inv t) d)) [("_law_step", 1)] (xi_eq (xi_txt (xd_str [117, 114, 100, 108])) rfl) (by decide) (fun d _ => ⟨_, xg_name 1, xts_nil, fun _ => xd_ixS (xd_str [117, 114, 100, 108]) (xd_index (xd_var 0 rfl) (xd_var 1 rfl) (tt_occ t d)) (dd_at _) (by decide)⟩))) ?_) ?_) ?_)
  · rw [filt, List.map_map]
    rfl
  · rw [flat_one, List.length_map]
    decide
  · show Ab.dat (pS _) = Ab.dat (pS _)
    rw [flat_one]
    rfl
theorem inF_lt {rows : List (List Nat)} {p : Pl} : inF rows p = ((decide (0 ≤ p.1) && decide (p.1 < (hgt rows : Int))) && (decide (0 ≤ p.2) && decide (p.2 < (wid rows : Int)))) := by
  unfold inF inR
  rw [show decide (p.1 ≤ (hgt rows : Int) - 1) = decide (p.1 < (hgt rows : Int)) from decide_eq_decide.mpr (by omega), show decide (p.2 ≤ (wid rows : Int) - 1) = decide (p.2 < (wid rows : Int)) from decide_eq_decide.mpr (by omega)]
theorem not_or {u v : Bool} (h : (!u || !v) = true) : (u && v) = false := by
  cases u <;> cases v <;> simp_all
theorem not_orF {u v : Bool} (h : (!u || !v) = false) : (u && v) = true := by
  cases u <;> cases v <;> simp_all
theorem sc_lsign : FnScope ["_law_rows", "_law_spot", "_law_y", "_law_x"] ["_law_rows", "_law_spot"] (defScope (top 63)) := ⟨rfl, rfl, rfl, by decide +kernel, rfl, by decide +kernel, by decide +kernel⟩
theorem ok_lsign (D : Def Γ "_law_sign" (top 63) ["_law_rows", "_law_spot"]) : HasF Γ 1 "_law_sign" c_lsign := by
  refine hasF D sc_lsign (fun _ _ => rfl) fun ⟨rows, p⟩ F => ?_
  have F : FlOk rows := F
  have f3 := F.w2
  refine xp_then (xq_asgD [2, 3] (xd_var 1 rfl) (xg_pairD 2 3) rfl) ?_
  refine xp_cons (Mid := fun B => inF rows p = true ∧ B = _) (xq_ifB (xt_w (xw_or (xt_not (xt_c (xc_chain (fun _ _ => op_le) (fun _ _ => op_lt) xd_int (xd_var 2 rfl) (Xe.as (d := .dat (.int (hgt rows))) (xd_len (xd_var 0 rfl) rfl) (by rw [List.length_map]; rfl))))) fun _ => (xw_or1 (xt_not (xt_c (xc_chain (fun _ _ => op_le) (fun _ _ => op_lt) xd_int (xd_var 3 rfl) (xd_lenS (xd_ixL (xd_var 0 rfl) xd_int (headD_at F)) (by show wid rows ≤ _; omega)))))))) (fun hT => ?_) (fun hF => xp_nil ⟨?_, rfl⟩)) ?_
  · refine xp_one (xq_retD (xd_str [35]) ?_)
    have hn : inF rows p = false := by
      rw [inF_lt]
      exact not_or hT
    show Ab.dat (pS [35]) = Ab.dat (pS [seen rows p])
    unfold seen
    rw [hn]
    rfl
  · rw [inF_lt]
    exact not_orF hF
  · rintro B ⟨hin, rfl⟩
    obtain ⟨r, h1, h2, h3, _⟩ := F.at2 hin
    refine xp_one (xq_retD (xd_ixS (xd_ixL (xd_var 0 rfl) (xd_var 2 rfl) h1) (xd_var 3 rfl) h2 (by omega)) ?_)
    show Ab.dat (pS [_]) = Ab.dat (pS [seen rows p])
    unfold seen
    rw [hin]
    rfl
def stpK : List (List Nat × PyData) := [([117], pP (-1, 0)), ([114], pP (0, 1)), ([100], pP (1, 0)), ([108], pP (0, -1))]
theorem stpK_lk (d : D4) : lkA (stpK.map fun q => (tx q.1, q.2)) (tx [dc d]) = some (pP (stp d)) := by
  unfold stpK
  simp only [List.map_cons, List.map_nil, lkT]
  match d with
  | 0 => rfl
  | 1 => rfl
  | 2 => rfl
  | 3 => rfl
theorem ix_two {α : Type} (a b : α) (i : Bool) : atI [a, b] (if i then 1 else 0) = some (if i then b else a) := by
  cases i
  · exact atI_nat (j := 0) rfl
  · exact atI_nat (j := 1) rfl
section
variable {C : Ct} [Gx C.ga] {A : AS} {pos q1 q2 q3 q4 q5 q6 q7 q8 q9 q10 q11 q12 q13 q14 q15 q16 q17 q18 q19 q20 : Pos} {j1 j2 j3 j4 k1 k2 k3 k4 t1 t2 t3 t4 u1 u2 u3 u4 : Nat}
/-- the four steps -/
theorem xd_steps : Xd C (.Dict [some (.Constant (.str "u") j1 q1), some (.Constant (.str "r") j2 q2), some (.Constant (.str "d") j3 q3), some (.Constant (.str "l") j4 q4)]
    [.Tuple [.UnaryOp .USub (.Constant (.int 1) k1 q5) q6, .Constant (.int 0) u1 q7] t1 q8, .Tuple [.Constant (.int 0) k2 q9, .Constant (.int 1) u2 q10] t2 q11, .Tuple [.Constant (.int 1) k3 q12, .Constant (.int 0) u3 q13] t3 q14, .Tuple [.Constant (.int 0) k4 q15, .UnaryOp .USub (.Constant (.int 1) u4 q16) q17] t4 q18] pos) A (.dct (stpK.map fun q => (tx q.1, q.2))) :=
  Xo.dct (kvs := stpK.map fun q => (tx q.1, q.2)) (xo_dispD
    (x2_consT [117] (xd_tup (ds := [.int (-1), .int 0]) (xs_cons xd_neg1 (xs_cons xd_int xs_nil)))
    (x2_consT [114] (xd_tup (ds := [.int 0, .int 1]) (xs_cons xd_int (xs_cons xd_int xs_nil)))
    (x2_consT [100] (xd_tup (ds := [.int 1, .int 0]) (xs_cons xd_int (xs_cons xd_int xs_nil)))
    (x2_consT [108] (xd_tup (ds := [.int 0, .int (-1)]) (xs_cons xd_int (xs_cons xd_neg1 xs_nil)))
    x2_nilD)))) (nodup_tx (ls := [[117], [114], [100], [108]]) (by decide)) (Nat.le_of_ble_eq_true rfl)) rfl
end
theorem sc_lgoes : FnScope ["_law_rows", "_law_spot", "_law_step", "_law_down", "_law_along", "_law_here", "_law_there", "_law_sign_here"] ["_law_rows", "_law_spot", "_law_step"] (defScope (top 64)) := ⟨rfl, rfl, rfl, by decide +kernel, rfl, by decide +kernel, by decide +kernel⟩
theorem ok_lgoes (D : Def Γ "_law_goes" (top 64) ["_law_rows", "_law_spot", "_law_step"]) (h_sign : HasF Γ 1 "_law_sign" c_lsign) : HasF Γ 2 "_law_goes" c_lgoes := by
  refine hasF D sc_lgoes (fun _ _ => rfl) fun ⟨rows, p, d⟩ ⟨F, hin⟩ => ?_
  have F : FlOk rows := F
  have hin : inF rows p = true := hin
  refine xp_then (xq_asgD [3, 4] (xd_getC xd_steps (xd_var 2 rfl) (stpK_lk d)) (xg_pairD 3 4) rfl) ?_
  refine xp_then (xq_setD 5 (xd_var 1 rfl) rfl) ?_
  refine xp_then (xq_setD 6 (xd_tup (ds := [.int _, .int _]) (xs_cons (xd_add (xd_ixT (xd_var 1 rfl) xd_int rfl) (xd_var 3 rfl)) (xs_cons (xd_add (xd_ixT (xd_var 1 rfl) xd_int rfl) (xd_var 4 rfl)) xs_nil))) rfl) ?_
  refine xp_cons (Mid := fun B => ∃ here there, B = ⟨[some (.dat (.list (rows.map pS))), some (.dat (pP p)), some (.dat (pD d)), some (.dat (.int (stp d).1)), some (.dat (.int (stp d).2)), some (.dat (pP here)), some (.dat (pP there)), none], none⟩ ∧ slE rows here there = goes rows p d) (xq_while (fun k A => ∃ here there, A = ⟨[some (.dat (.list (rows.map pS))), some (.dat (pP p)), some (.dat (pD d)), some (.dat (.int (stp d).1)), some (.dat (.int (stp d).2)), some (.dat (pP here)), some (.dat (pP there)), none], none⟩ ∧ sl rows d k here there = goes rows p d ∧ far rows d there ≤ k) (n0 := 8) ⟨p, nxt p d, rfl, rfl, by rw [far_nxt]; have := far_le F (d := d) hin; omega⟩ (fun k A' hI => ?_)) ?_
  · obtain ⟨here, there, rfl, hs, hf⟩ := hI
    refine ⟨decide ([seen rows there] = [126]), xt_c (xc_eqS (xd_call h_sign lv (rows, there) F (xs_cons (xd_var 0 rfl) (xs_cons (xd_var 6 rfl) xs_nil)) rfl) (xd_str [126])), fun hb => ?_, fun hb => ?_⟩
    · have hb' : seen rows there = 126 := by simpa using hb
      have h1 := far_in (d := d) (seen_ice hb')
      cases k with
      | zero => exfalso; omega
      | succ k =>
        refine xp_then (xq_setD 5 (xd_var 6 rfl) rfl) ?_
        refine xp_one (xq_setD 6 (xd_tup (ds := [.int _, .int _]) (xs_cons (xd_add (xd_ixT (xd_var 6 rfl) xd_int rfl) (xd_var 3 rfl)) (xs_cons (xd_add (xd_ixT (xd_var 6 rfl) xd_int rfl) (xd_var 4 rfl)) xs_nil))) ⟨k, Nat.lt_succ_self k, there, nxt there d, rfl, ?_, ?_⟩)
        · rw [← hs]
          show _ = sl rows d (k + 1) here there
          unfold sl
          rw [if_pos hb']
          cases k <;> rfl
        · rw [far_nxt]
          omega
    · have hb' : seen rows there ≠ 126 := by simpa using hb
      exact ⟨here, there, rfl, by rw [← hs, sl_end hb']⟩
  · rintro B ⟨here, there, rfl, hs⟩
    refine xp_then (xq_setD 7 (xd_call h_sign lv (rows, there) F (xs_cons (xd_var 0 rfl) (xs_cons (xd_var 6 rfl) xs_nil)) rfl) rfl) ?_
    refine xp_cons (Mid := fun B => seen rows there ≠ 35 ∧ B = _) (xq_ifB (xt_c (xc_eqS (xd_var 7 rfl) (xd_str [35]))) (fun hT => ?_) (fun hF => xp_nil ⟨by simpa using hF, rfl⟩)) ?_
    · refine xp_one (xq_retD (xd_var 5 rfl) ?_)
      have hT' : seen rows there = 35 := by simpa using hT
      show Ab.dat (pP here) = Ab.dat (pPo (goes rows p d))
      rw [← hs]
      unfold slE
      rw [if_pos hT']
      rfl
    · rintro B ⟨h35, rfl⟩
      refine xp_one (xq_retD (xd_ixL (xd_lst (ds := [pP there, .none]) (xs_cons (xd_var 6 rfl) (xs_cons xd_non xs_nil))) (xd_intB (Xc.e (xc_eqS (xd_var 7 rfl) (xd_str [120])))) (ix_two _ _ _)) ?_)
      show Ab.dat _ = Ab.dat (pPo (goes rows p d))
      rw [← hs]
      unfold slE
      rw [if_neg h35]
      by_cases hp : seen rows there = 120
      · rw [if_pos hp, if_pos (by rw [hp]; rfl)]
        rfl
      · rw [if_neg hp, if_neg (by simpa using hp)]
        rfl
end
end Oh
set_option maxHeartbeats 4000000
/-! OhT: walks: a step, a walk, rows of deeds, a place turned, by the law. -/
namespace Oh
open PySem L2
section
variable {Γ : Ga} [Gx Γ]
theorem sc_lbehind : FnScope ["_law_land_here", "_law_post", "_law_step", "_law_spot", "_law_sense_here", "_law_there", "_law_sign_here"] ["_law_land_here", "_law_post", "_law_step"] (defScope (top 66)) := ⟨rfl, rfl, rfl, by decide +kernel, rfl, by decide +kernel, by decide +kernel⟩
theorem ok_lbehind (D : Def Γ "_law_behind" (top 66) ["_law_land_here", "_law_post", "_law_step"]) (h_sign : HasF Γ 1 "_law_sign" c_lsign) (h_goes : HasF Γ 2 "_law_goes" c_lgoes) (h_becomes : HasF Γ 1 "_law_becomes" c_becomes) : HasF Γ 3 "_law_behind" c_lbehind := by
  refine hasF D sc_lbehind (fun _ _ => rfl) fun ⟨L, s, d⟩ ⟨LO, hs⟩ => ?_
  have LO : LdOk L := LO
  match s, hs with
  | none, _ => exact xp_cons (Mid := fun B => False) (xq_ifB (xt_c (xc_isN (xd_var 1 rfl))) (fun hT => xp_one (xq_retD xd_non rfl)) (fun hF => by cases hF)) fun _ h => h.elim
  | some (p, t), hs =>
    have hc : canSt L.rows p = true := hs
    refine xp_then (xq_ifB (xt_c (xc_isN (xd_var 1 rfl))) (fun hT => by cases hT) (fun _ => xp_nil rfl)) ?_
    refine xp_then (xq_asgD [3, 4] (xd_var 1 rfl) (xg_pairD 3 4) rfl) ?_
    refine xp_then (xq_setD 5 (xd_call h_goes lv (L.rows, p, tn t d) ⟨LO.f, canSt_in hc⟩ (xs_cons (xd_lRows (xd_var 0 rfl)) (xs_cons (xd_var 3 rfl) (xs_cons (xd_call h_becomes lv (t, [d]) (by show 1 ≤ 1000; decide) (xs_cons (xd_var 4 rfl) (xs_cons (xd_var 2 rfl) xs_nil)) rfl) xs_nil))) rfl) rfl) ?_
    show Xp _ _ _ ⟨_, fun a => a = Ab.dat (pSd (behind L.rows L.bk (some (p, t)) d)), _, _⟩
    unfold behind
    simp only
    cases hq : goes L.rows p (tn t d) with
    | none =>
      refine xp_cons (Mid := fun B => False) (xq_ifB (xt_w (xw_or (k := true) (xt_c (xc_isN (xd_var 5 rfl))) fun (h : isN (Ab.dat (pPo none)) = false) => by cases h)) (fun hT => xp_one (xq_retD (xd_ixL (xd_lst (ds := [pSd (some (p, t)), .none]) (xs_cons (xd_var 1 rfl) (xs_cons xd_non xs_nil))) (xd_intB (Xc.e (xc_isN (xd_var 5 rfl)))) (ix_two _ _ _)) rfl)) (fun hF => by cases hF)) fun _ h => h.elim
    | some q =>
      show Xp _ _ _ ⟨_, fun a => a = Ab.dat (pSd (if q = p then some (p, t) else some (q, match lkB L.bk (seen L.rows q) with
            | some u => cm t u
            | none => t))), _, _⟩
      by_cases hqp : q = p
      · rw [if_pos hqp]
        refine xp_cons (Mid := fun B => False) (xq_ifB (xt_w (xw_or (xt_c (xc_isN (xd_var 5 rfl))) fun h => xw_or1 (xt_c (xc_eqD (xd_var 5 rfl) (xd_var 3 rfl) (sh_ok (sh_pP q)) (sh_ok (sh_pP p)))))) (fun hT => xp_one (xq_retD (xd_ixL (xd_lst (ds := [pSd (some (p, t)), .none]) (xs_cons (xd_var 1 rfl) (xs_cons xd_non xs_nil))) (xd_intB (Xc.e (xc_isN (xd_var 5 rfl)))) (ix_two _ _ _)) rfl)) (fun hF => ?_)) fun _ h => h.elim
        exfalso
        rw [show PyData.eqv (pPo (some q)) (pP p) = decide (q = p) from eqv_pP q p, decide_eq_true hqp] at hF
        simp at hF
      · rw [if_neg hqp]
        refine xp_then (xq_ifB (xt_w (xw_or (xt_c (xc_isN (xd_var 5 rfl))) fun h => xw_or1 (xt_c (xc_eqD (xd_var 5 rfl) (xd_var 3 rfl) (sh_ok (sh_pP q)) (sh_ok (sh_pP p)))))) (fun hT => ?_) (fun _ => xp_nil rfl)) ?_
        · exfalso
          rw [show PyData.eqv (pPo (some q)) (pP p) = decide (q = p) from eqv_pP q p, decide_eq_false hqp] at hT
          cases hT
        · refine xp_then (xq_setD 6 (xd_call h_sign lv (L.rows, q) LO.f (xs_cons (xd_lRows (xd_var 0 rfl)) (xs_cons (xd_var 5 rfl) xs_nil)) rfl) rfl) ?_
          show Xp _ _ _ ⟨_, fun a => a = Ab.dat (pSd (some (q, match lkB L.bk (seen L.rows q) with
            | some u => cm t u
            | none => t))), _, _⟩
          cases hk : lkB L.bk (seen L.rows q) with
          | none =>
            refine xp_then (xq_ifB (xt_c (xc_inB (xd_var 6 rfl) (xd_lBook (xd_var 0 rfl)))) (fun hT => ?_) (fun _ => xp_nil rfl)) ?_
            · exfalso
              rw [show lkB L.bk (seen (L.rows, q).1 (L.rows, q).2) = none from hk] at hT
              cases hT
            · exact xp_one (xq_retD (xd_tup (ds := [pP q, pT t]) (xs_cons (xd_var 5 rfl) (xs_cons (xd_var 4 rfl) xs_nil))) rfl)
          | some u =>
            refine xp_then (A' := ⟨[some L.ab, some (.dat (pSd (some (p, t)))), some (.dat (pD d)), some (.dat (pP p)), some (.dat (pT (cm t u))), some (.dat (pP q)), some (.dat (pS [seen L.rows q]))], none⟩) (xq_ifB (xt_c (xc_inB (xd_var 6 rfl) (xd_lBook (xd_var 0 rfl)))) (fun hT => ?_) (fun hF => ?_)) ?_
            · refine xp_one (xq_setD 4 (xd_call h_becomes lv (u, D4s.map (tn t)) (by show 4 ≤ 1000; decide) (xs_cons (xd_getB (xd_lBook (xd_var 0 rfl)) (xd_var 6 rfl) hk) (xs_cons (xd_var 4 rfl) xs_nil)) rfl) ?_)
              show AS.mk _ _ = AS.mk _ _
              congr 1
              show [_, _, _, _, some (Ab.dat (pS (rw4 ((D4s.map (tn t)).map (tn u))))), _, _] = [_, _, _, _, some (Ab.dat (pS (tt (cm t u)))), _, _]
              rw [cm_rw]
              rfl
            · exfalso
              rw [show lkB L.bk (seen (L.rows, q).1 (L.rows, q).2) = some u from hk] at hF
              cases hF
            · exact xp_one (xq_retD (xd_tup (ds := [pP q, pT (cm t u)]) (xs_cons (xd_var 5 rfl) (xs_cons (xd_var 4 rfl) xs_nil))) rfl)
theorem sc_lgone : FnScope ["_law_land_here", "_law_line_here", "_law_found", "_law_step"] ["_law_land_here", "_law_line_here"] (defScope (top 67)) := ⟨rfl, rfl, rfl, by decide +kernel, rfl, by decide +kernel, by decide +kernel⟩
theorem ok_lgone (D : Def Γ "_law_gone" (top 67) ["_law_land_here", "_law_line_here"]) (h_behind : HasF Γ 3 "_law_behind" c_lbehind) : HasF Γ 4 "_law_gone" c_lgone := by
  refine hasF D sc_lgone (fun _ _ => rfl) fun ⟨L, r⟩ ⟨LO, hs, hr⟩ => ?_
  have LO : LdOk L := LO
  have hs : StOk L.rows L.st := hs
  have hr : r.length ≤ 1000 := hr
  refine xp_then (xq_ownD 2 (xo_lstD (ds := [pSd L.st]) (xs_cons (xd_lStart (xd_var 0 rfl)) xs_nil)) rfl) ?_
  refine xp_cons (Mid := fun B => ∃ x, B = ⟨[some L.ab, some (.dat (pS (rw4 r))), none, x], some (2, .ol ((walk L.rows L.bk L.st r).map pSd))⟩) (xq_for [3] (fun i A => ∃ x, A = ⟨[some L.ab, some (.dat (pS (rw4 r))), none, x], some (2, .ol ((walk L.rows L.bk L.st (r.take i)).map pSd))⟩) (xi_txt (xd_var 1 rfl)) ⟨none, rfl⟩ (fun i it A' hit hI => ?_) (fun A' hI => ?_)) ?_
  · obtain ⟨x, rfl⟩ := hI
    obtain ⟨c, hc, hm, rfl⟩ := map_get (show (itsT (r.map dc))[i]? = some it from hit)
    obtain ⟨d, hd, _, rfl⟩ := map_get hc
    refine ⟨_, xg_name 3 (hi := fun j o h => by cases h; decide), ?_⟩
    obtain ⟨l, u, e1, e2⟩ := walk_last (rows := L.rows) (bk := L.bk) (r.take i) L.st
    have hu : StOk L.rows u := walk_st LO.f (r.take i) L.st hs u (by rw [e1]; simp)
    refine xp_one (xq_appendD 2 (ds := (walk L.rows L.bk L.st (r.take i)).map pSd) rfl (xd_call h_behind lv (L, u, d) ⟨LO, hu⟩ (xs_cons (xd_var 0 rfl) (xs_cons (xd_ownIx 2 rfl xd_neg1 (d := pSd u) (by rw [e1, List.map_append]; exact atI_last _ _)) (xs_cons (xd_var 3 rfl) xs_nil))) rfl) ?_ ?_)
    · refine ⟨some (.dat (pD d)), ?_⟩
      rw [take_app hd, walk_snoc, e2, List.map_append]
      rfl
    · rw [List.length_map, walk_len, List.length_take]
      omega
  · obtain ⟨x, rfl⟩ := hI
    refine ⟨x, ?_⟩
    have : (itsT (rw4 r)).length = r.length := by unfold itsT rw4; rw [List.length_map, List.length_map]
    rw [this, List.take_length]
  · rintro B ⟨x, rfl⟩
    exact xp_pub (i := 2) rfl pub_lst (xp_one (xq_retD (xd_var 2 rfl) rfl))
end
end Oh
set_option maxHeartbeats 4000000
/-! OhU: walks: rows of deeds drawn, a place turned by the law, books turned. -/
namespace Oh
open PySem L2
section
variable {C : Ct} [g : Gx C.ga] {A : AS} {S : Ab → Prop} {a b e o : Expr} {es : List Expr} {pos p apos : Pos} {x : Str}
/-- join of a list known in part -/
theorem xe_joinS {P : List (List Nat) → Prop} (ho : Xd C o A (.dat (pS []))) (ha : Xe C e A (fun z => ∃ ls : List (List Nat), z = .dat (.list (ls.map pS)) ∧ P ls)) (hl : ∀ ls, P ls → ls.flatten.length ≤ 1000000 ∧ S (.dat (pS ls.flatten))) (hst : isStar e = false := by rfl) (hbase : ∀ env : Env, attributeBase o "join" env (eval o env) = eval o env := by intro _; rfl) (hline : (apos.endLine == pos.line) = true := by rfl) :
    Xe C (.Call (.Attribute o "join" apos) [e] [] pos) A S := by
  obtain ⟨to, o1, o2⟩ := ho
  obtain ⟨te, a1, a2⟩ := ha
  refine ⟨tM1 (fun x xs H Q => ∃ a p, ∃ ys : List Str, x = .str a ∧ xs = [.ref p] ∧ (SqL C.K H p (ys.map V.str) ∨ SqT C.K H p (ys.map V.str)) ∧ (ys.map (·.length)).sum + ys.length * a.length ≤ 16777216 ∧ Q (.str (Txt.join a ys)) H) to te, fun X hX => ?_, fun H0 σ G H x m Q q => ?_⟩
  · have z := pe_join (o1 X hX) (a1 X hX) (star_one hst) (hbase X.env) hline
    rw [hX.K] at z
    exact z
  · refine o2 H0 σ G H x m _ fun v G1 H1 c n1 s1 i1 => ?_
    subst s1
    refine ⟨⟨_, is_str i1⟩, a2 H0 σ G1 H1 n1.s (m.up n1) _ fun u G2 H2 c n2 s2 i2 => ?_⟩
    obtain ⟨ls, rfl, hP⟩ := s2
    obtain ⟨h1, h2⟩ := hl ls hP
    obtain ⟨p, vs, rfl, k1, k2⟩ := is_list i2
    refine ⟨tx [], p, ls.map tx, is_str i1, rfl, Or.inl (by rw [← dps_strs k2]; exact n2.s.sl k1), ?_, ?_⟩
    · rw [sum_lens]
      show _ + _ * 0 ≤ _
      omega
    · rw [join_nil]
      exact q _ G2 H2 _ (n1.trans n2) h2 mk_str
theorem Xo.lstS {So : Ow → Prop} {T : List PyData → Prop} (h : Xo C e A So) (hs : ∀ o, So o → ∃ ds, o = .ol ds ∧ S (.dat (.list ds))) : Xe C e A S := h.xe fun o ho => by
  obtain ⟨ds, rfl, h⟩ := hs o ho
  exact ⟨_, pub_lst, h⟩
end
theorem deed_of : ∀ c ∈ ([117, 114, 100, 108] : List Nat), ∃ d : D4, c = dc d := by decide
section
variable {Γ : Ga} [Gx Γ]
theorem sc_lline : FnScope ["_law_source_here", "_law_most", "_law_k"] ["_law_source_here", "_law_most"] (defScope (top 68)) := ⟨rfl, rfl, rfl, by decide +kernel, rfl, by decide +kernel, by decide +kernel⟩
theorem ok_lline (D : Def Γ "_law_line" (top 68) ["_law_source_here", "_law_most"]) (h_take : HasF Γ 2 "_law_take" c_take) (h_one : HasF Γ 3 "_law_one" c_oneS) : HasF Γ 4 "_law_line" c_lline := by
  refine hasF D sc_lline (fun _ _ => rfl) fun n hn => ?_
  have hn : n ≤ 100 := hn
  refine xp_one (xq_ret (xe_joinS (P := fun ls => ∃ r : List D4, r.length ≤ n ∧ ls = r.map fun d => [dc d]) (xd_str []) (Xo.lstS (T := fun _ => True) (xo_lcS (Sx := fun its => ∃ k : Nat, k ≤ n ∧ its = itsR 0 1 k) [("_law_k", 2)] (fun its i ds => ∃ r : List D4, r.length = i ∧ ds = r.map fun d => pD d) (xi_rng1S (xe_callK h_take lv ((n : Int) + 1) ⟨by omega, by omega⟩ (xs_cons (xd_var 0 rfl) (xs_cons (xd_add (xd_var 1 rfl) xd_int) xs_nil)) fun z hz => hz) (fun a ⟨i, ha, h0, h1⟩ => ⟨i, ha, ⟨by omega, by omega⟩, i.toNat, by omega, rfl⟩) Gx.bRange) (fun its ⟨k, hk, e⟩ => ⟨⟨[], rfl, rfl⟩, by rw [e]; unfold itsR; rw [List.length_map, List.length_range]; omega⟩) ?_) ?_) ?_) fun z hz => hz)
  · rintro its i it ds ⟨k, hk, rfl⟩ hit ⟨r, hr, rfl⟩
    obtain ⟨j, hj, hm, rfl⟩ := map_get hit
    refine ⟨_, true, xg_name 2, xts_nil, fun _ => xe_callK h_one lv [117, 114, 100, 108] ⟨nofun, by decide⟩ (xs_cons (xd_var 0 rfl) (xs_cons (xd_str [117, 114, 100, 108]) xs_nil)) fun z ⟨c, hc, hz⟩ => ?_, nofun⟩
    obtain ⟨d, rfl⟩ := deed_of c hc
    exact ⟨_, hz, r ++ [d], by rw [List.length_append, hr]; rfl, by rw [List.map_append]; rfl⟩
  · rintro o ⟨its, ds, ⟨k, hk, rfl⟩, rfl, r, hr, rfl⟩
    refine ⟨_, rfl, r.map fun d => [dc d], by rw [List.map_map]; rfl, r, ?_, rfl⟩
    rw [hr]
    unfold itsR
    rw [List.length_map, List.length_range]
    exact hk
  · rintro ls ⟨r, hr, rfl⟩
    rw [flat_one]
    exact ⟨by rw [List.length_map]; omega, r, hr, rfl⟩
theorem sc_lspun : FnScope ["_law_sense_here", "_law_spot", "_law_high", "_law_wide", "_law_steps", "_law_down", "_law_along", "_law_y", "_law_x"] ["_law_sense_here", "_law_spot", "_law_high", "_law_wide"] (defScope (top 71)) := ⟨rfl, rfl, rfl, by decide +kernel, rfl, by decide +kernel, by decide +kernel⟩
theorem stp_small : ∀ d : D4, CMul 0 (stp d).1 ∧ CMul 0 (stp d).2 := by
  intro d
  match d with
  | 0 => exact ⟨Or.inr (by decide), Or.inr (by decide)⟩
  | 1 => exact ⟨Or.inr (by decide), Or.inr (by decide)⟩
  | 2 => exact ⟨Or.inr (by decide), Or.inr (by decide)⟩
  | 3 => exact ⟨Or.inr (by decide), Or.inr (by decide)⟩
theorem stp_cm (d : D4) (i : Int) : CMul i (stp d).1 ∧ CMul i (stp d).2 := by
  match d with
  | 0 => exact ⟨Or.inr (by decide), Or.inr (by decide)⟩
  | 1 => exact ⟨Or.inr (by decide), Or.inr (by decide)⟩
  | 2 => exact ⟨Or.inr (by decide), Or.inr (by decide)⟩
  | 3 => exact ⟨Or.inr (by decide), Or.inr (by decide)⟩
def mn (k : Int) : Int := if k < 0 then k else 0
theorem spun_pt (t : T8) (p : Pl) (h w : Int) (h1 : 1 ≤ h) (w1 : 1 ≤ w) :
    (p.1 * (stp (tn t 2)).1 + p.2 * (stp (tn t 1)).1 - mn ((h - 1) * (stp (tn t 2)).1) - mn ((w - 1) * (stp (tn t 1)).1), p.1 * (stp (tn t 2)).2 + p.2 * (stp (tn t 1)).2 - mn ((h - 1) * (stp (tn t 2)).2) - mn ((w - 1) * (stp (tn t 1)).2)) = pt t p h w := by
  match t with
  | 0 => show (p.1 * 1 + p.2 * 0 - mn ((h - 1) * 1) - mn ((w - 1) * 0), p.1 * 0 + p.2 * 1 - mn ((h - 1) * 0) - mn ((w - 1) * 1)) = p; unfold mn; ext <;> simp <;> (repeat' split) <;> omega
  | 1 => show (p.1 * 0 + p.2 * 1 - mn ((h - 1) * 0) - mn ((w - 1) * 1), p.1 * (-1) + p.2 * 0 - mn ((h - 1) * (-1)) - mn ((w - 1) * 0)) = (p.2, h - 1 - p.1); unfold mn; ext <;> simp <;> (repeat' split) <;> omega
  | 2 => show (p.1 * (-1) + p.2 * 0 - mn ((h - 1) * (-1)) - mn ((w - 1) * 0), p.1 * 0 + p.2 * (-1) - mn ((h - 1) * 0) - mn ((w - 1) * (-1))) = (h - 1 - p.1, w - 1 - p.2); unfold mn; ext <;> simp <;> (repeat' split) <;> omega
  | 3 => show (p.1 * 0 + p.2 * (-1) - mn ((h - 1) * 0) - mn ((w - 1) * (-1)), p.1 * 1 + p.2 * 0 - mn ((h - 1) * 1) - mn ((w - 1) * 0)) = (w - 1 - p.2, p.1); unfold mn; ext <;> simp <;> (repeat' split) <;> omega
  | 4 => show (p.1 * 1 + p.2 * 0 - mn ((h - 1) * 1) - mn ((w - 1) * 0), p.1 * 0 + p.2 * (-1) - mn ((h - 1) * 0) - mn ((w - 1) * (-1))) = (p.1, w - 1 - p.2); unfold mn; ext <;> simp <;> (repeat' split) <;> omega
  | 5 => show (p.1 * (-1) + p.2 * 0 - mn ((h - 1) * (-1)) - mn ((w - 1) * 0), p.1 * 0 + p.2 * 1 - mn ((h - 1) * 0) - mn ((w - 1) * 1)) = (h - 1 - p.1, p.2); unfold mn; ext <;> simp <;> (repeat' split) <;> omega
  | 6 => show (p.1 * 0 + p.2 * 1 - mn ((h - 1) * 0) - mn ((w - 1) * 1), p.1 * 1 + p.2 * 0 - mn ((h - 1) * 1) - mn ((w - 1) * 0)) = (p.2, p.1); unfold mn; ext <;> simp <;> (repeat' split) <;> omega
  | 7 => show (p.1 * 0 + p.2 * (-1) - mn ((h - 1) * 0) - mn ((w - 1) * (-1)), p.1 * (-1) + p.2 * 0 - mn ((h - 1) * (-1)) - mn ((w - 1) * 0)) = (w - 1 - p.2, h - 1 - p.1); unfold mn; ext <;> simp <;> (repeat' split) <;> omega
theorem ok_lspun (D : Def Γ "_law_spun" (top 71) ["_law_sense_here", "_law_spot", "_law_high", "_law_wide"]) (h_becomes : HasF Γ 1 "_law_becomes" c_becomes) : HasF Γ 2 "_law_spun" c_lspun := by
  refine hasF D sc_lspun (fun _ _ => rfl) fun ⟨t, q, h, w⟩ ⟨h1, w1⟩ => ?_
  refine xp_then (xq_setD 4 xd_steps rfl) ?_
  refine xp_then (xq_parD 5 6 (xs_cons (xd_getC (xd_var 4 rfl) (xd_call h_becomes lv (t, [2]) (by show 1 ≤ 1000; decide) (xs_cons (xd_var 0 rfl) (xs_cons (xd_str [100]) xs_nil)) rfl) (stpK_lk (tn t 2))) (xs_cons (xd_getC (xd_var 4 rfl) (xd_call h_becomes lv (t, [1]) (by show 1 ≤ 1000; decide) (xs_cons (xd_var 0 rfl) (xs_cons (xd_str [114]) xs_nil)) rfl) (stpK_lk (tn t 1))) xs_nil)) rfl) ?_
  refine xp_then (xq_setD 7 (xd_add (xd_mul (xd_ixT (xd_var 1 rfl) xd_int rfl) (xd_ixT (xd_var 5 rfl) xd_int rfl) (stp_cm _ _).1) (xd_mul (xd_ixT (xd_var 1 rfl) xd_int rfl) (xd_ixT (xd_var 6 rfl) xd_int rfl) (stp_cm _ _).1)) rfl) ?_
  refine xp_then (xq_setD 8 (xd_add (xd_mul (xd_ixT (xd_var 1 rfl) xd_int rfl) (xd_ixT (xd_var 5 rfl) xd_int rfl) (stp_cm _ _).2) (xd_mul (xd_ixT (xd_var 1 rfl) xd_int rfl) (xd_ixT (xd_var 6 rfl) xd_int rfl) (stp_cm _ _).2)) rfl) ?_
  refine xp_then (xq_setD 7 (xd_sub (xd_sub (xd_var 7 rfl) (xd_min2 xd_int (xd_mul (xd_sub (xd_var 2 rfl) xd_int) (xd_ixT (xd_var 5 rfl) xd_int rfl) (stp_cm _ _).1))) (xd_min2 xd_int (xd_mul (xd_sub (xd_var 3 rfl) xd_int) (xd_ixT (xd_var 6 rfl) xd_int rfl) (stp_cm _ _).1))) rfl) ?_
  refine xp_one (xq_retD (xd_tup (ds := [.int _, .int _]) (xs_cons (xd_var 7 rfl) (xs_cons (xd_sub (xd_sub (xd_var 8 rfl) (xd_min2 xd_int (xd_mul (xd_sub (xd_var 2 rfl) xd_int) (xd_ixT (xd_var 5 rfl) xd_int rfl) (stp_cm _ _).2))) (xd_min2 xd_int (xd_mul (xd_sub (xd_var 3 rfl) xd_int) (xd_ixT (xd_var 6 rfl) xd_int rfl) (stp_cm _ _).2))) xs_nil))) ?_)
  show Ab.dat _ = Ab.dat (pP (pt t q h w))
  rw [← spun_pt t q h w h1 w1]
  rfl
end
end Oh
set_option maxHeartbeats 4000000
/-! OhV: walks: spots, books turned, strange letters, the first coming. -/
namespace Oh
open PySem L2
def spots (rows : List (List Nat)) (sg : List Nat) : List Pl := ((List.range (hgt rows)).map fun (y : Nat) => ((List.range (wid rows)).filter fun (x : Nat) => decide (at2 rows ((y : Int), (x : Int)) ∈ sg)).map fun (x : Nat) => (((y : Int), (x : Int)) : Pl)).flatten
abbrev c_spots : Con := conD (α := List (List Nat) × List Nat) (fun g => FlOk g.1) (fun g => [.dat (.list (g.1.map pS)), .dat (pS g.2)]) (fun g => .dat (.list ((spots g.1 g.2).map pP)))
def spB (t u : T8) : T8 := cm (cm (inv t) u) t
def spunB (t : T8) (bk : List (Nat × T8)) : List (Nat × T8) := bk.map fun p => (p.1, spB t p.2)
abbrev c_bspun : Con := conD (α := List (Nat × T8) × T8) (fun g => (g.1.map Prod.fst).Nodup ∧ g.1.length ≤ 100) (fun g => [.book g.1, .dat (pT g.2)]) (fun g => .book (spunB g.2 g.1))
def strange (t : T8) (bk : List (Nat × T8)) : List Nat := (bk.filter fun p => !decide (spB t p.2 = p.2)).map Prod.fst
abbrev c_strange : Con := conD (α := Ld × T8) (fun g => LdOk g.1) (fun g => [g.1.ab, .dat (pT g.2)]) (fun g => .dat (.list ((strange g.2 g.1.bk).map fun c => pS [c])))
theorem letters_nodup (rows : List (List Nat)) : (letters rows).Nodup := List.Pairwise.filter _ (by decide : LETTERS.Nodup)
theorem LdOk.nd {L : Ld} (h : LdOk L) : (L.bk.map Prod.fst).Nodup := by rw [h.b]; exact letters_nodup _
theorem LdOk.len {L : Ld} (h : LdOk L) : L.bk.length ≤ 4 := by
  have : (L.bk.map Prod.fst).length ≤ 4 := by rw [h.b]; exact List.length_filter_le ..
  simpa using this
theorem lkB_mem {bk : List (Nat × T8)} : ∀ {p : Nat × T8}, (bk.map Prod.fst).Nodup → p ∈ bk → lkB bk p.1 = some p.2 := by
  induction bk with
  | nil => intro p _ h; cases h
  | cons q r ih =>
    intro p hn h
    rw [List.map_cons, List.nodup_cons] at hn
    unfold lkB
    rcases List.mem_cons.mp h with e | h
    · rw [e, List.find?_cons_of_pos (by simp)]
      rfl
    · rw [List.find?_cons_of_neg (by simp only [decide_eq_true_eq]; intro z; exact hn.1 (List.mem_map.mpr ⟨p, h, z.symm⟩))]
      exact ih hn.2 h
theorem spunB_fst (t : T8) (bk : List (Nat × T8)) : (spunB t bk).map Prod.fst = bk.map Prod.fst := by
  unfold spunB
  rw [List.map_map]
  rfl
theorem lkB_spun (t : T8) (c : Nat) : ∀ bk : List (Nat × T8), lkB (spunB t bk) c = (lkB bk c).map (spB t)
  | [] => rfl
  | p :: r => by
    have ih := lkB_spun t c r
    unfold lkB at ih ⊢
    show (List.find? _ ((p.1, spB t p.2) :: spunB t r)).map _ = _
    by_cases h : p.1 = c
    · rw [List.find?_cons_of_pos (by simp [h]), List.find?_cons_of_pos (by simp [h])]
      rfl
    · rw [List.find?_cons_of_neg (by simp [h]), List.find?_cons_of_neg (by simp [h])]
      exact ih
section
variable {Γ : Ga} [Gx Γ]
theorem sc_spots : FnScope ["_law_rows", "_law_signs", "_law_found", "_law_y", "_law_line_here", "_law_x", "_law_sign_here"] ["_law_rows", "_law_signs"] (defScope (top 60)) := ⟨rfl, rfl, rfl, by decide +kernel, rfl, by decide +kernel, by decide +kernel⟩
def spotsTo (rows : List (List Nat)) (sg : List Nat) (i : Nat) : List Pl := (((List.range (hgt rows)).take i).map fun (y : Nat) => ((List.range (wid rows)).filter fun (x : Nat) => decide (at2 rows ((y : Int), (x : Int)) ∈ sg)).map fun (x : Nat) => (((y : Int), (x : Int)) : Pl)).flatten
theorem spotsTo_len {rows : List (List Nat)} {sg : List Nat} : ∀ i, (spotsTo rows sg i).length ≤ i * wid rows := by
  intro i
  unfold spotsTo
  rw [List.length_flatten, List.map_map]
  have h : ∀ (l : List Nat), (l.map (List.length ∘ fun (y : Nat) => ((List.range (wid rows)).filter fun (x : Nat) => decide (at2 rows ((y : Int), (x : Int)) ∈ sg)).map fun (x : Nat) => (((y : Int), (x : Int)) : Pl))).sum ≤ l.length * wid rows := by
    intro l
    induction l with
    | nil => simp
    | cons y l ih =>
      rw [List.map_cons, List.sum_cons, List.length_cons, Nat.succ_mul]
      have : (((List.range (wid rows)).filter fun (x : Nat) => decide (at2 rows ((y : Int), (x : Int)) ∈ sg)).map fun (x : Nat) => (((y : Int), (x : Int)) : Pl)).length ≤ wid rows := by
        rw [List.length_map]
        exact Nat.le_trans (List.length_filter_le ..) (by rw [List.length_range]; exact Nat.le_refl _)
      show _ + _ ≤ _
      simp only [Function.comp_apply]
      omega
  refine Nat.le_trans (h _) (Nat.mul_le_mul_right _ ?_)
  rw [List.length_take]
  exact Nat.min_le_left _ _
theorem ok_spots (D : Def Γ "_law_spots" (top 60) ["_law_rows", "_law_signs"]) : HasF Γ 1 "_law_spots" c_spots := by
  refine hasF D sc_spots (fun _ _ => rfl) fun ⟨rows, sg⟩ F => ?_
  have F : FlOk rows := F
  have f2 := F.h2
  have f3 := F.w2
  have hl : (rows.map pS).length = hgt rows := List.length_map ..
  refine xp_then (xq_ownD 2 (xo_lstD (ds := []) xs_nil) rfl) ?_
  refine xp_cons (Mid := fun B => ∃ u v, B = ⟨[some (.dat (.list (rows.map pS))), some (.dat (pS sg)), none, u, v, none, none], some (2, .ol ((spots rows sg).map pP))⟩) (xq_for [3, 4] (fun i A => ∃ u v, A = ⟨[some (.dat (.list (rows.map pS))), some (.dat (pS sg)), none, u, v, none, none], some (2, .ol ((spotsTo rows sg i).map pP))⟩) (xi_enum (xd_var 0 rfl) Gx.bEnum) ⟨none, none, rfl⟩ (fun i it A' hit hI => ?_) (fun A' hI => ?_)) ?_
  · obtain ⟨u, v, rfl⟩ := hI
    obtain ⟨j, hj, hm, rfl⟩ := map_get hit
    have hj2 : j < rows.length := by
      have := List.mem_range.mp hm
      rw [hl] at this
      exact this
    have hij : i = j := by
      have := List.getElem?_range (List.mem_range.mp hm)
      have h1 : (List.range (rows.map pS).length)[i]? = some j := hj
      have h2 := (List.getElem?_eq_some_iff.mp h1)
      obtain ⟨h3, h4⟩ := h2
      rw [List.getElem_range] at h4
      exact h4
    subst hij
    have hd : (rows.map pS).getD i .none = pS rows[i] := by
      rw [List.getD_eq_getElem?_getD, List.getElem?_map, List.getElem?_eq_getElem hj2]
      rfl
    obtain ⟨e1, e2, e3⟩ := F.row hj2
    rw [hd]
    refine ⟨_, xg_pair 3 4 (hi := fun j o h => by cases h; decide) (hj := fun j o h => by cases h; decide), ?_⟩
    refine xp_one (xq_extend 2 (ds := (spotsTo rows sg i).map pP) (es := (((List.range (wid rows)).filter fun (x : Nat) => decide (at2 rows ((i : Int), (x : Int)) ∈ sg)).map fun (x : Nat) => (((i : Int), (x : Int)) : Pl)).map pP) rfl (Xe.as (Xo.nl (xo_lc (List.range rows[i].length) (fun x => [Ab.dat (.int (x : Nat)), Ab.dat (pS [rows[i].getD x 0])]) (fun x => decide (rows[i].getD x 0 ∈ sg)) (fun x => pP ((i : Nat), (x : Nat))) [("_law_x", 5), ("_law_sign_here", 6)] (xi_eq (xi_enumS (l := rows[i]) (xd_var 4 rfl) Gx.bEnum) rfl) (by rw [List.length_range, e2]; omega) (fun x _ =>
      ⟨_, xg_pair 5 6 (hi := fun j o h => by cases h; decide) (hj := fun j o h => by cases h; decide), xts_one (xt_c (xc_inS (xd_var 6 rfl) (xd_var 1 rfl))), fun _ => xd_tup (ds := [.int _, .int _]) (xs_cons (xd_var 3 rfl) (xs_cons (xd_var 5 rfl) xs_nil))⟩) (hoff := fun k hk j o h => by cases h; intro e; subst e; exact absurd hk (by decide)))) ?_) ?_ ?_)
    · have hf : (fun x : Nat => decide (rows[i].getD x 0 ∈ sg)) = fun x : Nat => decide (at2 rows ((i : Int), (x : Int)) ∈ sg) := by
        funext x
        unfold at2
        show _ = decide ((rows.getD ((i : Int)).toNat []).getD ((x : Int)).toNat 0 ∈ sg)
        rw [Int.toNat_natCast, Int.toNat_natCast, e1]
      rw [e2, List.map_map, hf]
      rfl
    · refine ⟨some (.dat (.int i)), some (.dat (pS rows[i])), ?_⟩
      have e5 : spotsTo rows sg (i + 1) = spotsTo rows sg i ++ ((List.range (wid rows)).filter fun (x : Nat) => decide (at2 rows ((i : Int), (x : Int)) ∈ sg)).map fun (x : Nat) => (((i : Int), (x : Int)) : Pl) := by
        unfold spotsTo
        rw [take_app (a := i) (List.getElem?_range (by exact hj2)), List.map_append, List.flatten_append, List.map_cons, List.map_nil, List.flatten_cons, List.flatten_nil, List.append_nil]
      rw [e5, List.map_append]
      rfl
    · have h1 := spotsTo_len (rows := rows) (sg := sg) i
      have h2 : i * wid rows ≤ 6 * 6 := Nat.mul_le_mul (by omega) f3
      rw [List.length_map, List.length_map, List.length_map]
      have h3 : ((List.range (wid rows)).filter fun (x : Nat) => decide (at2 rows ((i : Int), (x : Int)) ∈ sg)).length ≤ wid rows := Nat.le_trans (List.length_filter_le ..) (by rw [List.length_range]; exact Nat.le_refl _)
      omega
  · obtain ⟨u, v, rfl⟩ := hI
    refine ⟨u, v, ?_⟩
    have : (itsE (rows.map pS)).length = hgt rows := by unfold itsE; rw [List.length_map, List.length_range, hl]
    rw [this]
    have e : spotsTo rows sg (hgt rows) = spots rows sg := by
      unfold spotsTo spots
      rw [List.take_of_length_le (by rw [List.length_range]; exact Nat.le_refl _)]
    rw [e]
  · rintro B ⟨u, v, rfl⟩
    exact xp_pub (i := 2) rfl pub_lst (xp_one (xq_retD (xd_var 2 rfl) rfl))
theorem sc_bspun : FnScope ["_law_book_so", "_law_sense_here", "_law_undone_here", "_law_letter", "_law_mine"] ["_law_book_so", "_law_sense_here"] (defScope (top 74)) := ⟨rfl, rfl, rfl, by decide +kernel, rfl, by decide +kernel, by decide +kernel⟩
theorem ok_bspun (D : Def Γ "_law_book_spun" (top 74) ["_law_book_so", "_law_sense_here"]) (h_undone : HasF Γ 1 "_law_undone" c_back) (h_both : HasF Γ 2 "_law_both" c_then) : HasF Γ 3 "_law_book_spun" c_bspun := by
  refine hasF D sc_bspun (fun _ _ => rfl) fun ⟨bk, t⟩ ⟨hn, hl⟩ => ?_
  refine xp_then (xq_setD 2 (xd_call h_undone lv t trivial (xs_cons (xd_var 1 rfl) xs_nil) rfl) rfl) ?_
  refine xp_one (xq_retD (xd_dictP (bk := spunB t bk) (Xe.as (Xo.lst (xo_lc bk (fun p => [Ab.dat (pS [p.1]), Ab.dat (pT p.2)]) (fun _ => true) (fun p => .tuple [pS [p.1], pT (spB t p.2)]) [("_law_letter", 3), ("_law_mine", 4)] (xi_items (xd_var 0 rfl)) (Nat.le_trans hl (by decide)) (fun p _ =>
    ⟨_, xg_pair 3 4, xts_nil, fun _ => xd_tup (ds := [pS [p.1], pT (spB t p.2)]) (xs_cons (xd_var 3 rfl) (xs_cons (xd_call h_both lv (cm (inv t) p.2, t) trivial (xs_cons (xd_call h_both lv (inv t, p.2) trivial (xs_cons (xd_var 2 rfl) (xs_cons (xd_var 4 rfl) xs_nil)) rfl) (xs_cons (xd_var 1 rfl) xs_nil)) rfl) xs_nil))⟩))) ?_) ?_) rfl)
  · rw [filt]
    unfold spunB
    rw [List.map_map]
    rfl
  · rw [spunB_fst]
    exact hn
theorem sc_strange : FnScope ["_law_land_here", "_law_sense_here", "_law_spun_here", "_law_letter"] ["_law_land_here", "_law_sense_here"] (defScope (top 78)) := ⟨rfl, rfl, rfl, by decide +kernel, rfl, by decide +kernel, by decide +kernel⟩
theorem ok_strange (D : Def Γ "_law_strange" (top 78) ["_law_land_here", "_law_sense_here"]) (h_bspun : HasF Γ 3 "_law_book_spun" c_bspun) : HasF Γ 4 "_law_strange" c_strange := by
  refine hasF D sc_strange (fun _ _ => rfl) fun ⟨L, t⟩ LO => ?_
  have LO : LdOk L := LO
  have hl := LO.len
  refine xp_then (xq_setD 2 (xd_call h_bspun lv (L.bk, t) ⟨LO.nd, by show L.bk.length ≤ 100; omega⟩ (xs_cons (xd_lBook (xd_var 0 rfl)) (xs_cons (xd_var 1 rfl) xs_nil)) rfl) rfl) ?_
  refine xp_one (xq_retD (Xe.as (Xo.lst (xo_lc L.bk (fun p => [Ab.dat (pS [p.1])]) (fun p => !decide (tt (spB t p.2) = tt p.2)) (fun p => pS [p.1]) [("_law_letter", 3)] (xi_keys (xd_lBook (xd_var 0 rfl))) (by omega) (fun p hp =>
    ⟨_, xg_name 3, xts_one (xt_c (xc_neS (xd_getB (xd_var 2 rfl) (xd_var 3 rfl) (t := spB t p.2) (by show lkB (spunB t L.bk) p.1 = _; rw [lkB_spun, lkB_mem LO.nd hp]; rfl)) (xd_getB (xd_lBook (xd_var 0 rfl)) (xd_var 3 rfl) (lkB_mem LO.nd hp)))), fun _ => xd_var 3 rfl⟩))) ?_) rfl)
  show Ab.dat (.list _) = Ab.dat (.list ((strange t L.bk).map fun c => pS [c]))
  unfold strange
  rw [List.map_map]
  have e : (fun p : Nat × T8 => !decide (tt (spB t p.2) = tt p.2)) = fun p => !decide (spB t p.2 = p.2) := by
    funext p
    by_cases h : spB t p.2 = p.2
    · rw [h]; simp
    · rw [decide_eq_false h, decide_eq_false fun z => h (tt_inj _ _ z)]
  rw [e]
  rfl
end
end Oh
set_option maxHeartbeats 4000000
/-! OhW: walks: the first coming, rows of deeds that seek. -/
namespace Oh
open PySem L2
/-- a coming to one of ls at k -/
def com (rows : List (List Nat)) (ls : List Nat) (W : List Sd) (k : Nat) : Bool := match W[k]?, W[k - 1]? with
  | some (some (p, _)), some (some (q, _)) => !decide (p = q) && decide ([seen rows p] ∈ ls.map fun c => [c])
  | _, _ => false
abbrev Ld.W (L : Ld) (r : List D4) : List Sd := walk L.rows L.bk L.st r
def fcRes (L : Ld) (r : List D4) (ls : List Nat) (a : Ab) : Prop := (∃ k : Nat, 1 ≤ k ∧ k < (L.W r).length ∧ com L.rows ls (L.W r) k = true ∧ (∀ j, 1 ≤ j → j < k → com L.rows ls (L.W r) j = false) ∧ a = .dat (.int k)) ∨ ((∀ j, 1 ≤ j → j < (L.W r).length → com L.rows ls (L.W r) j = false) ∧ a = .dat .none)
abbrev c_lfirst : Con := ⟨Ld × List D4 × List Nat, fun g => LdOk g.1 ∧ StOk g.1.rows g.1.st ∧ g.2.1.length ≤ 1000 ∧ g.2.2.length ≤ 100, fun g => [g.1.ab, .dat (pS (rw4 g.2.1)), .dat (.list (g.2.2.map fun c => pS [c]))], fun g => fcRes g.1 g.2.1 g.2.2⟩
theorem walk_none {rows : List (List Nat)} {bk : List (Nat × T8)} : ∀ (r : List D4) (s : Sd) (k : Nat), (walk rows bk s r)[k]? = some none → ∀ j, k ≤ j → j < (walk rows bk s r).length → (walk rows bk s r)[j]? = some none
  | [], s, 0, h, 0, _, _ => h
  | [], s, k + 1, h, _, _, _ => by simp [walk] at h
  | [], s, 0, h, j + 1, _, hj => by simp [walk] at hj
  | d :: r, s, 0, h, 0, _, _ => h
  | d :: r, s, k + 1, h, 0, hk, _ => by omega
  | d :: r, s, 0, h, j + 1, _, hj => by
    have hs : s = none := by simpa [walk] using h
    subst hs
    have h2 : (walk rows bk none r)[0]? = some none := by cases r <;> rfl
    exact walk_none r none 0 h2 j (Nat.zero_le _) (by simpa [walk, behind] using hj)
  | d :: r, s, k + 1, h, j + 1, hk, hj => walk_none r _ k (by simpa [walk] using h) j (by omega) (by simpa [walk] using hj)
theorem walk_prev {rows : List (List Nat)} {bk : List (Nat × T8)} {r : List D4} {s : Sd} {k : Nat} {p : Pl} {t : T8} (h : (walk rows bk s r)[k]? = some (some (p, t))) : ∃ q u, (walk rows bk s r)[k - 1]? = some (some (q, u)) := by
  have hk := (List.getElem?_eq_some_iff.mp h).1
  have h1 : k - 1 < (walk rows bk s r).length := by omega
  cases e : (walk rows bk s r)[k - 1] with
  | none =>
    have e' : (walk rows bk s r)[k - 1]? = some none := by rw [List.getElem?_eq_getElem h1, e]
    have := walk_none r s (k - 1) e' k (by omega) hk
    rw [h] at this
    cases this
  | some pu =>
    obtain ⟨q, u⟩ := pu
    exact ⟨q, u, by rw [List.getElem?_eq_getElem h1, e]⟩
theorem sd_at {W : List Sd} {k : Nat} {s : Sd} (h : W[k]? = some s) : atI (W.map pSd) (k : Int) = some (pSd s) := atI_nat (by rw [List.getElem?_map, h]; rfl)
section
variable {C : Ct} {A : AS} {a b : Expr} {pos : Pos} {S : Ab → Prop}
theorem xc_gtA {k : Int} (ha : Xe C a A anyI) (hb : Xd C b A (.dat (.int k))) : Xc C (.Compare a [.Gt] [b] pos) A (fun z => ∃ r, z = .dat (.bool r)) := xe_cmp (fun _ _ => op_gt) ha hb fun c d hc hd => by
  obtain ⟨i, rfl⟩ := hc
  subst hd
  intro x y G H e i1 i2 Q q
  exact ⟨i, k, is_int i1, is_int i2, q _ G H _ (Nx.refl e) ⟨_, rfl⟩ mk_bool⟩
end
section
variable {Γ : Ga} [Gx Γ]
theorem sc_lfirst : FnScope ["_law_land_here", "_law_line_here", "_law_letters", "_law_gone_here", "_law_k"] ["_law_land_here", "_law_line_here", "_law_letters"] (defScope (top 79)) := ⟨rfl, rfl, rfl, by decide +kernel, rfl, by decide +kernel, by decide +kernel⟩
theorem ok_lfirst (D : Def Γ "_law_first_coming" (top 79) ["_law_land_here", "_law_line_here", "_law_letters"]) (h_gone : HasF Γ 4 "_law_gone" c_lgone) (h_sign : HasF Γ 1 "_law_sign" c_lsign) : HasF Γ 5 "_law_first_coming" c_lfirst := by
  refine hasF D sc_lfirst (fun _ _ => rfl) fun ⟨L, r, ls⟩ ⟨LO, hs, hr, hls⟩ => ?_
  have LO : LdOk L := LO
  have hr : r.length ≤ 1000 := hr
  have hW : (L.W r).length = r.length + 1 := walk_len r L.st
  have hWm : ((L.W r).map pSd).length = (L.W r).length := List.length_map ..
  refine xp_then (xq_setD 3 (xd_call h_gone lv (L, r) ⟨LO, hs, hr⟩ (xs_cons (xd_var 0 rfl) (xs_cons (xd_var 1 rfl) xs_nil)) rfl) rfl) ?_
  refine xp_cons (Mid := fun B => ∀ j, 1 ≤ j → j < (L.W r).length → com L.rows ls (L.W r) j = false) (xq_for [4] (fun i A => (∀ j, 1 ≤ j → j ≤ i → com L.rows ls (L.W r) j = false) ∧ ∃ x, A = ⟨[some L.ab, some (.dat (pS (rw4 r))), some (.dat (.list (ls.map fun c => pS [c]))), some (.dat (.list ((L.W r).map pSd))), x], none⟩) (xi_rng2 (i := 1) (j := ((L.W r).length : Nat)) (xs_cons xd_int (xs_cons (Xe.as (xd_len (xd_var 3 rfl) rfl) (by show Ab.dat (.int (((L.W r).map pSd).length : Nat)) = _; rw [hWm])) xs_nil)) ⟨by decide, by decide⟩ ⟨by omega, by omega⟩ Gx.bRange) ⟨fun j h1 h2 => by omega, none, rfl⟩ (fun i it A' hit hI => ?_) (fun A' hI j h1 h2 => ?_)) ?_
  · obtain ⟨hno, x, rfl⟩ := hI
    obtain ⟨j, hj, hm, rfl⟩ := map_get hit
    have hjr := List.mem_range.mp hm
    have hij : i = j := by
      obtain ⟨h3, h4⟩ := List.getElem?_eq_some_iff.mp hj
      rw [List.getElem_range] at h4
      exact h4
    subst hij
    have hk : i + 1 < (L.W r).length := by omega
    have hki : (1 + (i : Int) * 1) = ((i + 1 : Nat) : Int) := by omega
    rw [hki]
    refine ⟨_, xg_name 4, ?_⟩
    have next : com L.rows ls (L.W r) (i + 1) = false → ∀ j, 1 ≤ j → j ≤ i + 1 → com L.rows ls (L.W r) j = false := fun h j h1 h2 => by
      by_cases e : j = i + 1
      · rw [e]
        exact h
      · exact hno j h1 (by omega)
    cases hw : (L.W r)[i + 1] with
    | none =>
      have e := sd_at (W := L.W r) (k := i + 1) (s := none) (by rw [List.getElem?_eq_getElem hk, hw])
      refine xp_one (xq_ifB (xt_w (xw_and (k := false) (xt_c (xc_notN (xd_ixL (xd_var 3 rfl) (xd_var 4 rfl) e))) fun (h : (!isN (Ab.dat (pSd none))) = true) => by cases h)) (fun hT => by cases hT) (fun _ => xp_nil ⟨next ?_, _, rfl⟩))
      unfold com
      rw [List.getElem?_eq_getElem hk, hw]
    | some pt0 =>
      obtain ⟨p, t⟩ := pt0
      have hw' : (L.W r)[i + 1]? = some (some (p, t)) := by rw [List.getElem?_eq_getElem hk, hw]
      obtain ⟨q, u, hq⟩ := walk_prev hw'
      have hq' : (L.W r)[i]? = some (some (q, u)) := hq
      have e1 := sd_at hw'
      have e2 := sd_at hq'
      have hsub : (((i + 1 : Nat) : Int) - 1) = (i : Int) := by omega
      have hcom : com L.rows ls (L.W r) (i + 1) = (!decide (p = q) && decide ([seen L.rows p] ∈ ls.map fun c => [c])) := by
        unfold com
        rw [hw', show (L.W r)[i + 1 - 1]? = some (some (q, u)) from hq]
      refine xp_one (xq_ifB (xt_w (xw_and (xt_c (xc_notN (xd_ixL (xd_var 3 rfl) (xd_var 4 rfl) e1))) fun _ => (xw_and (xt_c (xc_neD (xd_ixT (xd_ixL (xd_var 3 rfl) (xd_var 4 rfl) e1) xd_int (atI_nat (j := 0) rfl)) (xd_ixT (xd_ixL (xd_var 3 rfl) (xd_sub (xd_var 4 rfl) xd_int) (by rw [hsub]; exact e2)) xd_int (atI_nat (j := 0) rfl)) (sh_ok (sh_pP p)) (sh_ok (sh_pP q)))) fun _ => (xw_and1 (xt_c (xc_inT (ls := ls.map fun c => [c]) (xd_call h_sign lv (L.rows, p) LO.f (xs_cons (xd_lRows (xd_var 0 rfl)) (xs_cons (xd_ixT (xd_ixL (xd_var 3 rfl) (xd_var 4 rfl) e1) xd_int (atI_nat (j := 0) rfl)) xs_nil)) rfl) (xd_var 2 rfl) (by rw [List.map_map]; rfl))))))) (fun hT => ?_) (fun hF => xp_nil ⟨next ?_, _, rfl⟩))
      · refine xp_one (xq_retD (xd_var 4 rfl) (Or.inl ⟨i + 1, by omega, hk, ?_, fun j h1 h2 => hno j h1 (by omega), rfl⟩))
        rw [hcom, ← eqv_pP]
        exact hT
      · rw [hcom, ← eqv_pP]
        exact hF
  · obtain ⟨hno, _⟩ := hI
    refine hno j h1 ?_
    have : (itsR 1 1 (((L.W r).length : Nat) - 1 : Int).toNat).length = (L.W r).length - 1 := by
      unfold itsR
      rw [List.length_map, List.length_range]
      omega
    rw [this]
    omega
  · intro B hno
    exact xp_one (xq_retD xd_non (Or.inr ⟨hno, rfl⟩))
end
end Oh
set_option maxHeartbeats 4000000
/-! OhX: walks: rows of deeds that seek. -/
namespace Oh
open PySem L2
abbrev c_lineTo : Con := ⟨Ld × List Nat × Nat, fun g => LdOk g.1 ∧ StOk g.1.rows g.1.st ∧ g.2.1.length ≤ 100 ∧ g.2.2 ≤ 100, fun g => [.src, g.1.ab, .dat (.list (g.2.1.map fun c => pS [c])), .dat (.int g.2.2)], fun g => rowOf g.2.2⟩
theorem eqv_pD (a b : D4) : PyData.eqv (pD a) (pD b) = decide (a = b) := by
  unfold pD
  rw [eqv_pS]
  by_cases h : a = b
  · rw [h]; simp
  · rw [decide_eq_false h, decide_eq_false fun e => h (dc_inj a b (by simpa using e))]
theorem sh_pD (d : D4) : Sh 0 (pD d) := sh_txt fun c hc => by
  have : c = dc d := by simpa using hc
  rw [this]
  exact dc_lt d
section
variable {Γ : Ga} [Gx Γ]
theorem sc_lineTo : FnScope ["_law_source_here", "_law_land_here", "_law_letters", "_law_most", "_law_post", "_law_found", "_law_k", "_law_steps", "_law_step", "_law_there"] ["_law_source_here", "_law_land_here", "_law_letters", "_law_most"] (defScope (top 80)) := ⟨rfl, rfl, rfl, by decide +kernel, rfl, by decide +kernel, by decide +kernel⟩
theorem ok_lineTo (D : Def Γ "_law_line_to" (top 80) ["_law_source_here", "_law_land_here", "_law_letters", "_law_most"]) (h_behind : HasF Γ 3 "_law_behind" c_lbehind) (h_sign : HasF Γ 1 "_law_sign" c_lsign) (h_take : HasF Γ 2 "_law_take" c_take) (h_oneS : HasF Γ 3 "_law_one" c_oneS) (h_oneL : HasF Γ 3 "_law_one" c_oneL) : HasF Γ 4 "_law_line_to" c_lineTo := by
  refine hasF D sc_lineTo (fun _ _ => rfl) fun ⟨L, ls, n⟩ ⟨LO, hs, hls, hn⟩ => ?_
  have LO : LdOk L := LO
  have hn : n ≤ 100 := hn
  refine xp_then (xq_setD 4 (xd_lStart (xd_var 1 rfl)) rfl) ?_
  refine xp_then (xq_setD 5 (xd_str []) rfl) ?_
  refine xp_cons (Mid := fun B => ∃ s r x6 x7 x8 x9, r.length ≤ n ∧ B = ⟨[some .src, some L.ab, some (.dat (.list (ls.map fun c => pS [c]))), some (.dat (.int n)), some (.dat (pSd s)), some (.dat (pS (rw4 r))), x6, x7, x8, x9], none⟩)
    (xq_for [6] (fun i A => ∃ s r x6 x7 x8 x9, StOk L.rows s ∧ r.length = i ∧ A = ⟨[some .src, some L.ab, some (.dat (.list (ls.map fun c => pS [c]))), some (.dat (.int n)), some (.dat (pSd s)), some (.dat (pS (rw4 r))), x6, x7, x8, x9], none⟩) (xi_rng1 (xd_var 3 rfl) (midN (by omega)) Gx.bRange) ⟨L.st, [], none, none, none, none, hs, rfl, rfl⟩ (fun i it A' hit hI => ?_) (fun A' hI => ?_)) ?_
  · obtain ⟨s, r, x6, x7, x8, x9, hst, hr, rfl⟩ := hI
    obtain ⟨j, hj, hm, rfl⟩ := map_get hit
    have hjr := List.mem_range.mp hm
    have hij : i = j := by
      obtain ⟨h3, h4⟩ := List.getElem?_eq_some_iff.mp hj
      rw [List.getElem_range] at h4
      exact h4
    subst hij
    rw [Int.toNat_natCast] at hjr
    refine ⟨_, xg_name 6, ?_⟩
    refine xp_then (xq_ownD 7 (xo_lstD (ds := []) xs_nil) rfl) ?_
    refine xp_cons (Mid := fun B => ∃ (ds : List D4) (x6 x8 x9 : Option Ab), ds.length ≤ 4 ∧ B = ⟨[some .src, some L.ab, some (.dat (.list (ls.map fun c => pS [c]))), some (.dat (.int n)), some (.dat (pSd s)), some (.dat (pS (rw4 r))), x6, none, x8, x9], some (7, .ol (ds.map pD))⟩)
      (xq_for [8] (fun j A => ∃ (ds : List D4) (x6 x8 x9 : Option Ab), ds.length ≤ j ∧ A = ⟨[some .src, some L.ab, some (.dat (.list (ls.map fun c => pS [c]))), some (.dat (.int n)), some (.dat (pSd s)), some (.dat (pS (rw4 r))), x6, none, x8, x9], some (7, .ol (ds.map pD))⟩) (xi_txt (xd_str [117, 114, 100, 108])) ⟨[], _, x8, x9, Nat.le_refl _, rfl⟩ (fun j it A' hit hI => ?_) (fun A' hI => ?_)) ?_
    · obtain ⟨ds, y6, y8, y9, hds, rfl⟩ := hI
      obtain ⟨c, hc, hmc, rfl⟩ := map_get (show (itsT [117, 114, 100, 108])[j]? = some it from hit)
      obtain ⟨d, rfl⟩ := deed_of c hmc
      have hj4 : j < 4 := (List.getElem?_eq_some_iff.mp hc).1
      refine ⟨_, xg_name 8 (hi := fun j o h => by cases h; decide), ?_⟩
      refine xp_then (xq_setD 9 (xd_call h_behind lv (L, s, d) ⟨LO, hst⟩ (xs_cons (xd_var 1 rfl) (xs_cons (xd_var 4 rfl) (xs_cons (xd_var 8 rfl) xs_nil))) rfl) rfl (hi := fun j o h => by cases h; decide)) ?_
      show Xp _ _ ⟨[some .src, some L.ab, some (.dat (.list (ls.map fun c => pS [c]))), some (.dat (.int n)), some (.dat (pSd s)), some (.dat (pS (rw4 r))), y6, none, some (.dat (pD d)), some (.dat (pSd (behind L.rows L.bk s d)))], some (7, .ol (ds.map pD))⟩ _
      cases hb : behind L.rows L.bk s d with
      | none =>
        exact xp_one (xq_ifB (xt_w (xw_and (k := false) (xt_c (xc_notN (xd_var 9 rfl))) fun (h : (!isN (Ab.dat (pSd none))) = true) => by cases h)) (fun hT => by cases hT) (fun _ => xp_nil ⟨ds, _, _, _, Nat.le_succ_of_le hds, rfl⟩))
      | some pt0 =>
        obtain ⟨p, t⟩ := pt0
        refine xp_one (xq_ifB (xt_w (xw_and (xt_c (xc_notN (xd_var 9 rfl))) fun _ => (xw_and (xt_c (xc_neD (xd_var 9 rfl) (xd_var 4 rfl) (sh_ok (sh_pSd _)) (sh_ok (sh_pSd _)))) fun _ => (xw_and1 (xt_c (xc_inT (ls := ls.map fun c => [c]) (xd_call h_sign lv (L.rows, p) LO.f (xs_cons (xd_lRows (xd_var 1 rfl)) (xs_cons (xd_ixT (xd_var 9 rfl) xd_int (atI_nat (j := 0) rfl)) xs_nil)) rfl) (xd_var 2 rfl) (by rw [List.map_map]; rfl))))))) (fun hT => ?_) (fun hF => xp_nil ⟨ds, _, _, _, Nat.le_succ_of_le hds, rfl⟩))
        refine xp_one (xq_appendD 7 (ds := ds.map pD) (d := pD d) rfl (xd_var 8 rfl) ⟨ds ++ [d], y6, some (.dat (pD d)), some (.dat (pSd (some (p, t)))), by rw [List.length_append, List.length_singleton]; omega, ?_⟩ (by rw [List.length_map]; omega))
        rw [List.map_append]
        rfl
    · obtain ⟨ds, y6, y8, y9, hds, rfl⟩ := hI
      exact ⟨ds, y6, y8, y9, hds, rfl⟩
    · rintro B ⟨ds, y6, y8, y9, hds, rfl⟩
      refine xp_pub (i := 7) rfl pub_lst ?_
      refine xp_cons (Mid := fun B => ∃ d : D4, B = ⟨[some .src, some L.ab, some (.dat (.list (ls.map fun c => pS [c]))), some (.dat (.int n)), some (.dat (pSd s)), some (.dat (pS (rw4 r))), y6, some (.dat (.list (ds.map pD))), some (.dat (pD d)), y9], none⟩) (xq_set 8 (xe_callK h_oneS lv [117, 114, 100, 108] ⟨nofun, by decide⟩ (xs_cons (xd_var 0 rfl) (xs_cons (xd_str [117, 114, 100, 108]) xs_nil)) fun z hz => hz) fun z ⟨c, hc, hz⟩ => ?_) ?_
      · obtain ⟨d, rfl⟩ := deed_of c hc
        exact ⟨d, by rw [hz]; rfl⟩
      · rintro B ⟨d, rfl⟩
        refine xp_cons (Mid := fun B => ∃ d : D4, B = ⟨[some .src, some L.ab, some (.dat (.list (ls.map fun c => pS [c]))), some (.dat (.int n)), some (.dat (pSd s)), some (.dat (pS (rw4 r))), y6, some (.dat (.list (ds.map pD))), some (.dat (pD d)), y9], none⟩) (xq_if (T := fun b => b = true → ds ≠ []) (xt_w (xw_andS (xt_c (Xdc_as (xc_neD (xd_var 7 rfl) (xd_lst (ds := []) xs_nil) (sh_ok (sh_list (k := 0) (sh_map fun a _ => sh_pD a))) (by decide)) (b := !decide (ds = [])) (by rw [show (PyData.list []) = PyData.list (([] : List D4).map pD) from rfl, eqv_list eqv_pD]))) (fun hne => xw_and1 (xt_cS (xc_gtA (xe_callK h_take lv 3 ⟨by decide, by decide⟩ (xs_cons (xd_var 0 rfl) (xs_cons xd_int xs_nil)) fun z ⟨i, hz, _⟩ => ⟨i, hz⟩) xd_int) fun z ⟨b, hb⟩ => ⟨b, hb, fun _ => by simpa using hne⟩)) (fun _ => nofun))) (fun hT => ?_) (fun _ => xp_nil ⟨d, rfl⟩)) ?_
        · refine xp_one (xq_set 8 (xe_callK h_oneL lv (ds.map pD) ⟨by simpa using hT rfl, by rw [List.length_map]; omega⟩ (xs_cons (xd_var 0 rfl) (xs_cons (xd_var 7 rfl) xs_nil)) fun z hz => hz) fun z ⟨c, hc, hz⟩ => ?_)
          obtain ⟨e, he, rfl⟩ := List.mem_map.mp hc
          exact ⟨e, by rw [hz]; rfl⟩
        · rintro B ⟨d, rfl⟩
          refine xp_then (xq_setD 5 (xd_cat (xd_var 5 rfl) (xd_var 8 rfl) (by show (r.map dc).length + 1 ≤ _; rw [List.length_map]; omega)) rfl) ?_
          refine xp_one (xq_setD 4 (xd_call h_behind lv (L, s, d) ⟨LO, hst⟩ (xs_cons (xd_var 1 rfl) (xs_cons (xd_var 4 rfl) (xs_cons (xd_var 8 rfl) xs_nil))) rfl) ⟨behind L.rows L.bk s d, r ++ [d], y6, some (.dat (.list (ds.map pD))), some (.dat (pD d)), y9, behind_ok LO.f hst, by rw [List.length_append, hr]; rfl, ?_⟩)
          unfold rw4
          rw [List.map_append]
          rfl
  · obtain ⟨s, r, x6, x7, x8, x9, _, hr, rfl⟩ := hI
    refine ⟨s, r, x6, x7, x8, x9, ?_, rfl⟩
    rw [hr]
    unfold itsR
    rw [List.length_map, List.length_range, Int.toNat_natCast]
    exact Nat.le_refl _
  · rintro B ⟨s, r, x6, x7, x8, x9, hr, rfl⟩
    exact xp_one (xq_retD (xd_var 5 rfl) ⟨r, hr, rfl⟩)
end
end Oh
set_option maxHeartbeats 4000000
/-! OhY: walks: stands, a world's step, the hand's walk. -/
namespace Oh
open PySem L2
abbrev wl (j : Nat) : Stmt := inClass (top 44) j
abbrev hl (j : Nat) : Stmt := inClass (top 53) j
abbrev c_is_stand : Con := conD (α := List (List Nat) × Sd) (fun g => FlOk g.1 ∧ StOk g.1 g.2) (fun g => [.flo g.1, .dat (pSd g.2)]) (fun _ => .dat (.bool true))
abbrev c_wfloor : Con := conD (α := Wd) (fun _ => True) (fun w => [.wor w]) (fun w => .flo w.rows)
abbrev c_wbook : Con := conD (α := Wd) (fun _ => True) (fun w => [.wor w]) (fun w => .book w.book)
abbrev c_wwishes : Con := conD (α := Wd) (fun _ => True) (fun w => [.wor w]) (fun w => .dat (.list (w.goals.map pP)))
abbrev c_wstart : Con := conD (α := Wd) (fun _ => True) (fun w => [.wor w]) (fun w => .dat (pSd w.first))
abbrev c_wwant : Con := conD (α := Wd × Sd) (fun g => FlOk g.1.rows ∧ StOk g.1.rows g.2) (fun g => [.wor g.1, .dat (pSd g.2)]) (fun _ => .dat .none)
/-- what a world's walk asks -/
structure WkOk (w : Wd) : Prop where
  f : FlOk w.rows
  b : w.book.map Prod.fst = letters w.rows
abbrev c_wbehind : Con := conD (α := Wd × Sd × D4) (fun g => WkOk g.1 ∧ StOk g.1.rows g.2.1) (fun g => [.wor g.1, .dat (pSd g.2.1), .dat (pD g.2.2)]) (fun g => .dat (pSd (behind g.1.rows g.1.book g.2.1 g.2.2)))
theorem lkB_letters {rows : List (List Nat)} {bk : List (Nat × T8)} (hb : bk.map Prod.fst = letters rows) {p : Pl} (hp : inF rows p = true) (F : FlOk rows) : (lkB bk (seen rows p)).isSome = decide (seen rows p ∈ LETTERS) := by
  have key : ∀ (bk : List (Nat × T8)) (c : Nat), (lkB bk c).isSome = decide (c ∈ bk.map Prod.fst) := by
    intro bk c
    induction bk with
    | nil => simp [lkB]
    | cons q r ih =>
      unfold lkB at ih ⊢
      by_cases h : q.1 = c
      · rw [List.find?_cons_of_pos (by simp [h])]
        simp [h]
      · rw [List.find?_cons_of_neg (by simp [h]), ih, List.map_cons]
        have : ¬ c = q.1 := fun e => h e.symm
        simp [this]
  rw [key, hb]
  refine decide_eq_decide.mpr ⟨fun h => (List.mem_filter.mp h).1, fun h => List.mem_filter.mpr ⟨h, ?_⟩⟩
  rw [List.any_eq_true]
  obtain ⟨⟨a1, a2⟩, b1, b2⟩ := inF_iff.mp hp
  unfold hgt at a2
  have hy : p.1.toNat < rows.length := by omega
  obtain ⟨e1, e2, e3⟩ := F.row hy
  have hx : p.2.toNat < (rows[p.1.toNat]).length := by rw [e2]; omega
  refine ⟨rows[p.1.toNat], List.getElem_mem hy, decide_eq_true ?_⟩
  unfold seen
  rw [if_pos hp]
  unfold at2
  rw [e1, List.getD_eq_getElem?_getD, List.getElem?_eq_getElem hx]
  exact List.getElem_mem hx
/-! ### the hand's walk -/
def hstep (ws : List Wd) (ss : List Sd) (d : D4) : List Sd := (ws.zip ss).map fun z => behind z.1.rows z.1.book z.2 d
def hw (ws : List Wd) : List Sd → List D4 → List (List Sd)
  | ss, [] => [ss]
  | ss, d :: r => ss :: hw ws (hstep ws ss d) r
def StsOk (ws : List Wd) (ss : List Sd) : Prop := ss.length = ws.length ∧ ∀ z ∈ ws.zip ss, StOk z.1.rows z.2
def pSs (ss : List Sd) : PyData := .tuple (ss.map pSd)
theorem hw_len (ws : List Wd) : ∀ (r : List D4) (ss : List Sd), (hw ws ss r).length = r.length + 1
  | [], _ => rfl
  | d :: r, s => by
    show (hw ws _ r).length + 1 = _
    rw [hw_len ws r]
    rfl
theorem hw_snoc (ws : List Wd) : ∀ (r : List D4) (s : List Sd) (d : D4), hw ws s (r ++ [d]) = hw ws s r ++ [hstep ws ((hw ws s r).getLast?.getD []) d]
  | [], s, d => rfl
  | e :: r, s, d => by
    show s :: hw ws (hstep ws s e) (r ++ [d]) = (s :: hw ws (hstep ws s e) r) ++ _
    rw [hw_snoc ws r]
    have : (s :: hw ws (hstep ws s e) r).getLast? = (hw ws (hstep ws s e) r).getLast? := by
      cases h : hw ws (hstep ws s e) r with
      | nil =>
        have := hw_len ws r (hstep ws s e)
        rw [h] at this
        cases this
      | cons a l => rfl
    rw [show hw ws s (e :: r) = s :: hw ws (hstep ws s e) r from rfl, this]
    rfl
theorem hw_last (ws : List Wd) (r : List D4) (s : List Sd) : ∃ l u, hw ws s r = l ++ [u] ∧ (hw ws s r).getLast?.getD [] = u := by
  have h := hw_len ws r s
  rcases List.eq_nil_or_concat (hw ws s r) with e | ⟨l, u, e⟩
  · rw [e] at h
    cases h
  · exact ⟨l, u, by rw [e, List.concat_eq_append], by rw [e, List.concat_eq_append, List.getLast?_append]; rfl⟩
theorem zip_mem {α β : Type} : ∀ {l : List α} {m : List β} {z : α × β}, z ∈ l.zip m → z.1 ∈ l
  | [], _, _, h => by simp at h
  | _ :: _, [], _, h => by simp at h
  | a :: l, b :: m, z, h => by
    rw [List.zip_cons_cons] at h
    rcases List.mem_cons.mp h with e | h
    · rw [e]
      exact List.mem_cons_self
    · exact List.mem_cons_of_mem _ (zip_mem h)
theorem zip_map_mem {α β γ : Type} {f : α × β → γ} : ∀ {l : List α} {m : List β} {z : α × γ}, z ∈ l.zip ((l.zip m).map f) → ∃ b, (z.1, b) ∈ l.zip m ∧ z.2 = f (z.1, b)
  | [], _, _, h => by simp at h
  | _ :: _, [], _, h => by simp at h
  | a :: l, b :: m, z, h => by
    rw [List.zip_cons_cons, List.map_cons, List.zip_cons_cons] at h
    rcases List.mem_cons.mp h with e | h
    · rw [e]
      exact ⟨b, by rw [List.zip_cons_cons]; exact List.mem_cons_self, rfl⟩
    · obtain ⟨c, h1, h2⟩ := zip_map_mem h
      exact ⟨c, by rw [List.zip_cons_cons]; exact List.mem_cons_of_mem _ h1, h2⟩
theorem hstep_ok {ws : List Wd} {ss : List Sd} {d : D4} (hw : ∀ w ∈ ws, WkOk w) (h : StsOk ws ss) : StsOk ws (hstep ws ss d) := by
  refine ⟨by unfold hstep; rw [List.length_map, List.length_zip, h.1, Nat.min_self], fun z hz => ?_⟩
  obtain ⟨b, h1, h2⟩ := zip_map_mem hz
  rw [h2]
  exact behind_ok (hw _ (zip_mem h1)).f (h.2 _ h1)
theorem hw_ok {ws : List Wd} (hk : ∀ w ∈ ws, WkOk w) : ∀ (r : List D4) (ss : List Sd), StsOk ws ss → ∀ u ∈ hw ws ss r, StsOk ws u
  | [], s, h, u, hu => by
    have : u = s := by simpa [hw] using hu
    rw [this]
    exact h
  | d :: r, s, h, u, hu => by
    rcases List.mem_cons.mp hu with e | hu
    · rw [e]
      exact h
    · exact hw_ok hk r _ (hstep_ok hk h) u hu
abbrev c_hstart : Con := conD (α := List Wd) (fun ws => ws.length ≤ 4) (fun ws => [.han ws]) (fun ws => .dat (pSs (ws.map Wd.first)))
abbrev c_hwant : Con := conD (α := List Wd × List Sd) (fun g => (∀ w ∈ g.1, WkOk w) ∧ StsOk g.1 g.2) (fun g => [.han g.1, .dat (pSs g.2)]) (fun _ => .dat .none)
abbrev c_hafter : Con := conD (α := List Wd × List Sd × D4) (fun g => ((∀ w ∈ g.1, WkOk w) ∧ g.1.length ≤ 4) ∧ StsOk g.1 g.2.1) (fun g => [.han g.1, .dat (pSs g.2.1), .dat (pD g.2.2)]) (fun g => .dat (pSs (hstep g.1 g.2.1 g.2.2)))
abbrev c_hwalk : Con := conD (α := List Wd × List D4) (fun g => (∀ w ∈ g.1, WkOk w ∧ StOk w.rows w.first) ∧ g.1.length ≤ 4 ∧ g.2.length ≤ 1000) (fun g => [.han g.1, .dat (pS (rw4 g.2))]) (fun g => .dat (.list ((hw g.1 (g.1.map Wd.first) g.2).map pSs)))
section
variable {Γ : Ga} [Gx Γ]
theorem sc_is_stand : FnScope ["floor", "thing"] ["floor", "thing"] (defScope (top 40)) := ⟨rfl, rfl, rfl, by decide +kernel, rfl, by decide +kernel, by decide +kernel⟩
theorem ok_is_stand (D : Def Γ "is_stand" (top 40) ["floor", "thing"]) (h_can_stand : HasM Γ 6 (CF Γ.K) "can_stand" c_can_stand) (h_is_turn : HasF Γ 1 "is_turn" c_is_turn) : HasF Γ 7 "is_stand" c_is_stand := by
  refine hasF D sc_is_stand (fun _ _ => rfl) fun ⟨rows, s⟩ ⟨F, hs⟩ => ?_
  match s, hs with
  | none, _ => exact xp_cons (Mid := fun B => False) (xq_ifB (xt_c (xc_isN (xd_var 1 rfl))) (fun hT => xp_one (xq_retD xd_bl rfl)) (fun hF => by cases hF)) fun _ h => h.elim
  | some (p, t), hs =>
    have hc : canSt rows p = true := hs
    refine xp_then (xq_ifB (xt_c (xc_isN (xd_var 1 rfl))) (fun hT => by cases hT) (fun _ => xp_nil rfl)) ?_
    refine xp_then (xq_ifB (xt_w (xw_or (xt_not (xt_v (xd_isiB "tuple" (xd_var 1 rfl) Gx.bTuple (by decide +kernel) ⟨nofun, by with_unfolding_all rfl⟩))) fun _ => (xw_or1 (xt_c (xc_neI (xd_len (xd_var 1 rfl) rfl) xd_int))))) (fun hT => by cases hT) (fun _ => xp_nil rfl)) ?_
    exact xp_one (xq_retD (Xe.as (xd_and (xd_meth h_can_stand lv Gx.clF (xd_var 0 rfl) ins_flo (rows, p) F (xs_cons (xd_ixT (xd_var 1 rfl) xd_int (atI_nat (j := 0) rfl)) xs_nil) rfl rfl) fun _ => (xe_one (xd_call h_is_turn lv t trivial (xs_cons (xd_ixT (xd_var 1 rfl) xd_int (atI_nat (j := 1) rfl)) xs_nil) rfl))) (by show Ab.dat (.bool (canSt rows p && true)) = _; rw [hc]; rfl)) rfl)
theorem sc_wfloor : FnScope ["self"] ["self"] (defScope (wl 2)) := ⟨rfl, rfl, rfl, by decide +kernel, rfl, by decide +kernel, by decide +kernel⟩
theorem ok_wfloor (D : MDef Γ (CW Γ.K) "floor" "World.floor" (wl 2) ["self"]) : HasM Γ 1 (CW Γ.K) "floor" c_wfloor := by
  refine hasM D sc_wfloor (fun _ _ => rfl) fun w _ => ?_
  exact xp_one (xq_retD (xd_ground (xd_var 0 rfl)) rfl)
theorem sc_wbook : FnScope ["self"] ["self"] (defScope (wl 3)) := ⟨rfl, rfl, rfl, by decide +kernel, rfl, by decide +kernel, by decide +kernel⟩
theorem ok_wbook (D : MDef Γ (CW Γ.K) "book" "World.book" (wl 3) ["self"]) : HasM Γ 1 (CW Γ.K) "book" c_wbook := by
  refine hasM D sc_wbook (fun _ _ => rfl) fun w _ => ?_
  exact xp_one (xq_retD (xd_dictB (xd_pages (xd_var 0 rfl))) rfl)
theorem sc_wwishes : FnScope ["self"] ["self"] (defScope (wl 4)) := ⟨rfl, rfl, rfl, by decide +kernel, rfl, by decide +kernel, by decide +kernel⟩
theorem ok_wwishes (D : MDef Γ (CW Γ.K) "wishes" "World.wishes" (wl 4) ["self"]) : HasM Γ 1 (CW Γ.K) "wishes" c_wwishes := by
  refine hasM D sc_wwishes (fun _ _ => rfl) fun w _ => ?_
  exact xp_one (xq_retD (xd_nl (xn_list (xd_goals (xd_var 0 rfl)) rfl)) rfl)
theorem sc_wstart : FnScope ["self"] ["self"] (defScope (wl 5)) := ⟨rfl, rfl, rfl, by decide +kernel, rfl, by decide +kernel, by decide +kernel⟩
theorem ok_wstart (D : MDef Γ (CW Γ.K) "start" "World.start" (wl 5) ["self"]) : HasM Γ 1 (CW Γ.K) "start" c_wstart := by
  refine hasM D sc_wstart (fun _ _ => rfl) fun w _ => ?_
  exact xp_one (xq_retD (xd_first (xd_var 0 rfl)) rfl)
theorem sc_wwant : FnScope ["self", "thing"] ["self", "thing"] (defScope (wl 6)) := ⟨rfl, rfl, rfl, by decide +kernel, rfl, by decide +kernel, by decide +kernel⟩
theorem ok_wwant (D : MDef Γ (CW Γ.K) "want_stand" "World.want_stand" (wl 6) ["self", "thing"]) (h_is_stand : HasF Γ 7 "is_stand" c_is_stand) : HasM Γ 8 (CW Γ.K) "want_stand" c_wwant := by
  refine hasM D sc_wwant (fun _ _ => rfl) fun ⟨w, s⟩ hp => ?_
  exact xp_one (xq_ifB (xt_not (xt_v (xd_call h_is_stand lv (w.rows, s) hp (xs_cons (xd_ground (xd_var 0 rfl)) (xs_cons (xd_var 1 rfl) xs_nil)) rfl))) (fun hT => by cases hT) (fun _ => xp_nil rfl))
theorem sc_wbehind : FnScope ["self", "stand", "deed", "place", "turn", "there", "letter"] ["self", "stand", "deed"] (defScope (wl 8)) := ⟨rfl, rfl, rfl, by decide +kernel, rfl, by decide +kernel, by decide +kernel⟩
theorem ok_wbehind (D : MDef Γ (CW Γ.K) "behind" "World.behind" (wl 8) ["self", "stand", "deed"]) (h_goes : HasM Γ 7 (CF Γ.K) "goes" c_goes) (h_seen : HasM Γ 5 (CF Γ.K) "seen" c_seen) (h_way : HasF Γ 3 "way" c_way) (h_then : HasF Γ 5 "then" c_then) : HasM Γ 8 (CW Γ.K) "behind" c_wbehind := by
  refine hasM D sc_wbehind (fun _ _ => rfl) fun ⟨w, s, d⟩ ⟨WO, hs⟩ => ?_
  have WO : WkOk w := WO
  match s, hs with
  | none, _ => exact xp_cons (Mid := fun B => False) (xq_ifB (xt_c (xc_isN (xd_var 1 rfl))) (fun hT => xp_one (xq_retD xd_non rfl)) (fun hF => by cases hF)) fun _ h => h.elim
  | some (p, t), hs =>
    have hc : canSt w.rows p = true := hs
    refine xp_then (xq_ifB (xt_c (xc_isN (xd_var 1 rfl))) (fun hT => by cases hT) (fun _ => xp_nil rfl)) ?_
    refine xp_then (xq_asgD [3, 4] (xd_var 1 rfl) (xg_pairD 3 4) rfl) ?_
    refine xp_then (xq_setD 5 (xd_meth h_goes lv Gx.clF (xd_ground (xd_var 0 rfl)) ins_flo (w.rows, p, tn t d) ⟨WO.f, hc⟩ (xs_cons (xd_var 3 rfl) (xs_cons (xd_call h_way lv (t, d) trivial (xs_cons (xd_var 4 rfl) (xs_cons (xd_var 2 rfl) xs_nil)) rfl) xs_nil)) rfl rfl) rfl) ?_
    show Xp _ _ ⟨[some (.wor w), some (.dat (pSd (some (p, t)))), some (.dat (pD d)), some (.dat (pP p)), some (.dat (pT t)), some (.dat (pPo (goes w.rows p (tn t d)))), none], none⟩ ⟨_, fun a => a = Ab.dat (pSd (match goes w.rows p (tn t d) with
      | none => none
      | some q => if q = p then some (p, t) else some (q, match lkB w.book (seen w.rows q) with
        | some u => cm t u
        | none => t))), _, _⟩
    cases hq : goes w.rows p (tn t d) with
    | none =>
      exact xp_cons (Mid := fun B => False) (xq_ifB (xt_w (xw_or (k := true) (xt_c (xc_isN (xd_var 5 rfl))) fun (h : isN (Ab.dat (pPo none)) = false) => by cases h)) (fun hT => xp_one (xq_retD (a := .dat .none) (xe_if (xt_c (xc_isN (xd_var 5 rfl))) (fun _ => xd_non) (fun h => by cases h)) rfl)) (fun hF => by cases hF)) fun _ h => h.elim
    | some q =>
      show Xp _ _ _ ⟨_, fun a => a = Ab.dat (pSd (if q = p then some (p, t) else some (q, match lkB w.book (seen w.rows q) with
        | some u => cm t u
        | none => t))), _, _⟩
      by_cases hqp : q = p
      · rw [if_pos hqp]
        refine xp_cons (Mid := fun B => False) (xq_ifB (xt_w (xw_or (xt_c (xc_isN (xd_var 5 rfl))) fun h => xw_or1 (xt_c (xc_eqD (xd_var 5 rfl) (xd_var 3 rfl) (sh_ok (sh_pP q)) (sh_ok (sh_pP p)))))) (fun hT => xp_one (xq_retD (a := .dat (pSd (some (p, t)))) (xe_if (xt_c (xc_isN (xd_var 5 rfl))) (fun h => by cases h) (fun _ => xd_var 1 rfl)) rfl)) (fun hF => ?_)) fun _ h => h.elim
        exfalso
        rw [show PyData.eqv (pPo (some q)) (pP p) = decide (q = p) from eqv_pP q p, decide_eq_true hqp] at hF
        simp at hF
      · rw [if_neg hqp]
        refine xp_then (xq_ifB (xt_w (xw_or (xt_c (xc_isN (xd_var 5 rfl))) fun h => xw_or1 (xt_c (xc_eqD (xd_var 5 rfl) (xd_var 3 rfl) (sh_ok (sh_pP q)) (sh_ok (sh_pP p)))))) (fun hT => ?_) (fun _ => xp_nil rfl)) ?_
        · exfalso
          rw [show PyData.eqv (pPo (some q)) (pP p) = decide (q = p) from eqv_pP q p, decide_eq_false hqp] at hT
          cases hT
        · refine xp_then (xq_setD 6 (xd_meth h_seen lv Gx.clF (xd_ground (xd_var 0 rfl)) ins_flo (w.rows, q) WO.f (xs_cons (xd_var 5 rfl) xs_nil) rfl rfl) rfl) ?_
          have hl := lkB_letters WO.b (canSt_in (goes_can WO.f hc hq)) WO.f
          generalize hu : (match lkB w.book (seen w.rows q) with
              | some u => cm t u
              | none => t) = u
          refine xp_one (xq_retD (xd_tup (ds := [pP q, pT u]) (xs_cons (xd_var 5 rfl) (xs_cons (xe_if (xt_c (xc_inS (xd_var 6 rfl) xd_cLETTERS)) (fun h => ?_) (fun h => ?_)) xs_nil))) rfl)
          · have h' : decide (seen w.rows q ∈ LETTERS) = true := h
            rw [← hl] at h'
            obtain ⟨v, hk⟩ := Option.isSome_iff_exists.mp h'
            rw [hk] at hu
            have hu' : cm t v = u := hu
            subst hu'
            exact xd_call h_then lv (t, v) trivial (xs_cons (xd_var 4 rfl) (xs_cons (xd_getB (xd_pages (xd_var 0 rfl)) (xd_var 6 rfl) hk) xs_nil)) rfl
          · have h' : decide (seen w.rows q ∈ LETTERS) = false := h
            rw [← hl] at h'
            have hk : lkB w.book (seen w.rows q) = none := by simpa using h'
            rw [hk] at hu
            have hu' : t = u := hu
            subst hu'
            exact xd_var 4 rfl
end
end Oh
set_option maxHeartbeats 4000000
/-! OhZ: walks: the hand. -/
namespace Oh
open PySem L2
theorem isWs_seq {K : PySem.W.Frag} {G : Hp} {ws : List Wd} : ∀ {vs : List V}, IsWs K G vs ws → vs.length = ws.length := isWs_len
section
variable {Γ : Ga} [Gx Γ]
theorem sc_wafter : FnScope ["self", "stand", "deed"] ["self", "stand", "deed"] (defScope (wl 9)) := ⟨rfl, rfl, rfl, by decide +kernel, rfl, by decide +kernel, by decide +kernel⟩
theorem ok_wafter (D : MDef Γ (CW Γ.K) "after" "World.after" (wl 9) ["self", "stand", "deed"]) (h_want : HasM Γ 8 (CW Γ.K) "want_stand" c_wwant) (h_behind : HasM Γ 8 (CW Γ.K) "behind" c_wbehind) (h_want_deed : HasF Γ 2 "want_deed" c_want_deed) : HasM Γ 9 (CW Γ.K) "after" c_wbehind := by
  refine hasM D sc_wafter (fun _ _ => rfl) fun ⟨w, s, d⟩ ⟨WO, hs⟩ => ?_
  have WO : WkOk w := WO
  refine xp_then (xq_expr (xd_meth h_want lv Gx.clW (xd_var 0 rfl) ins_wor (w, s) ⟨WO.f, hs⟩ (xs_cons (xd_var 1 rfl) xs_nil) rfl rfl) rfl) ?_
  refine xp_then (xq_expr (xd_call h_want_deed lv d trivial (xs_cons (xd_var 2 rfl) xs_nil) rfl) rfl) ?_
  exact xp_one (xq_retD (xd_meth h_behind lv Gx.clW (xd_var 0 rfl) ins_wor (w, s, d) ⟨WO, hs⟩ (xs_cons (xd_var 1 rfl) (xs_cons (xd_var 2 rfl) xs_nil)) rfl rfl) rfl)
theorem sc_hstart : FnScope ["self", "world"] ["self"] (defScope (hl 3)) := ⟨rfl, rfl, rfl, by decide +kernel, rfl, by decide +kernel, by decide +kernel⟩
theorem ok_hstart (D : MDef Γ (CH Γ.K) "start" "Hand.start" (hl 3) ["self"]) (h_start : HasM Γ 1 (CW Γ.K) "start" c_wstart) : HasM Γ 2 (CH Γ.K) "start" c_hstart := by
  refine hasM D sc_hstart (fun _ _ => rfl) fun ws hw => ?_
  have hw : ws.length ≤ 4 := hw
  refine xp_one (xq_retD (xd_tuple (ds := (ws.map Wd.first).map pSd) (Xe.as (Xo.lst (xo_lc ws (fun w => [Ab.wor w]) (fun _ => true) (fun w => pSd w.first) [("world", 1)] (xi_wls (xd_ones (xd_var 0 rfl))) (by omega) (fun w _ => ⟨_, xg_name 1, xts_nil, fun _ => xd_meth0 h_start lv Gx.clW (xd_var 1 rfl) ins_wor w trivial rfl rfl⟩))) rfl) ?_) rfl)
  rw [filt, List.map_map]
  rfl
theorem sc_hwant : FnScope ["self", "thing", "world", "stand"] ["self", "thing"] (defScope (hl 4)) := ⟨rfl, rfl, rfl, by decide +kernel, rfl, by decide +kernel, by decide +kernel⟩
theorem zip_pSd (ws : List Wd) (ss : List Sd) : ((ws.zip (ss.map pSd)).map fun z => [Ab.wor z.1, Ab.dat z.2]) = (ws.zip ss).map fun z => [Ab.wor z.1, Ab.dat (pSd z.2)] := by
  induction ws generalizing ss with
  | nil => rfl
  | cons w ws ih =>
    cases ss with
    | nil => rfl
    | cons s ss =>
      rw [List.map_cons, List.zip_cons_cons, List.zip_cons_cons, List.map_cons, List.map_cons, ih]
theorem ok_hwant (D : MDef Γ (CH Γ.K) "want_stands" "Hand.want_stands" (hl 4) ["self", "thing"]) (h_is_stand : HasF Γ 7 "is_stand" c_is_stand) (h_floor : HasM Γ 1 (CW Γ.K) "floor" c_wfloor) : HasM Γ 8 (CH Γ.K) "want_stands" c_hwant := by
  refine hasM D sc_hwant (fun _ _ => rfl) fun ⟨ws, ss⟩ ⟨hk, hs⟩ => ?_
  have hk : ∀ w ∈ ws, WkOk w := hk
  have hs : StsOk ws ss := hs
  refine xp_then (xq_ifB (xt_w (xw_or (xt_not (xt_v (xd_isiB "tuple" (xd_var 1 rfl) Gx.bTuple (by decide +kernel) ⟨nofun, by with_unfolding_all rfl⟩))) fun _ => (xw_or1 (xt_c (xc_neI (xd_len (xd_var 1 rfl) rfl) (xd_len (xd_ones (xd_var 0 rfl)) rfl)))))) (fun hT => ?_) (fun _ => xp_nil rfl)) ?_
  · exfalso
    rw [List.length_map, hs.1] at hT
    simp at hT
  · refine xp_one (xq_for [2, 3] (fun _ A => ∃ u v, A = ⟨[some (.han ws), some (.dat (pSs ss)), u, v], none⟩) (xi_eq (xi_zipW (ds := ss.map pSd) (xs_cons (xd_ones (xd_var 0 rfl)) (xs_cons (xd_var 1 rfl) xs_nil)) (by rw [List.length_map, hs.1]) Gx.bZip) (zip_pSd ws ss)) ⟨none, none, rfl⟩ (fun i it A' hit hI => ?_) fun _ _ => rfl)
    obtain ⟨u, v, rfl⟩ := hI
    obtain ⟨z, hz, hm, rfl⟩ := map_get hit
    refine ⟨_, xg_pair 2 3, ?_⟩
    exact xp_one (xq_ifB (xt_not (xt_v (xd_call h_is_stand lv (z.1.rows, z.2) ⟨(hk _ (zip_mem hm)).f, hs.2 z hm⟩ (xs_cons (xd_meth0 h_floor lv Gx.clW (xd_var 2 rfl) ins_wor z.1 trivial rfl rfl) (xs_cons (xd_var 3 rfl) xs_nil)) rfl))) (fun hT => by cases hT) (fun _ => xp_nil ⟨_, _, rfl⟩))
theorem sc_hafter : FnScope ["self", "stands", "deed", "world", "stand"] ["self", "stands", "deed"] (defScope (hl 5)) := ⟨rfl, rfl, rfl, by decide +kernel, rfl, by decide +kernel, by decide +kernel⟩
theorem ok_hafter (D : MDef Γ (CH Γ.K) "after" "Hand.after" (hl 5) ["self", "stands", "deed"]) (h_want : HasM Γ 8 (CH Γ.K) "want_stands" c_hwant) (h_want_deed : HasF Γ 2 "want_deed" c_want_deed) (h_after : HasM Γ 9 (CW Γ.K) "after" c_wbehind) : HasM Γ 10 (CH Γ.K) "after" c_hafter := by
  refine hasM D sc_hafter (fun _ _ => rfl) fun ⟨ws, ss, d⟩ ⟨⟨hk, hl⟩, hs⟩ => ?_
  have hk : ∀ w ∈ ws, WkOk w := hk
  have hs : StsOk ws ss := hs
  have hl : ws.length ≤ 4 := hl
  refine xp_then (xq_expr (xd_meth h_want lv Gx.clH (xd_var 0 rfl) ins_han (ws, ss) ⟨hk, hs⟩ (xs_cons (xd_var 1 rfl) xs_nil) rfl rfl) rfl) ?_
  refine xp_then (xq_expr (xd_call h_want_deed lv d trivial (xs_cons (xd_var 2 rfl) xs_nil) rfl) rfl) ?_
  refine xp_one (xq_retD (xd_tuple (ds := (hstep ws ss d).map pSd) (Xe.as (Xo.lst (xo_lc (ws.zip ss) (fun z => [Ab.wor z.1, Ab.dat (pSd z.2)]) (fun _ => true) (fun z => pSd (behind z.1.rows z.1.book z.2 d)) [("world", 3), ("stand", 4)] (xi_eq (xi_zipW (ds := ss.map pSd) (xs_cons (xd_ones (xd_var 0 rfl)) (xs_cons (xd_var 1 rfl) xs_nil)) (by rw [List.length_map, hs.1]) Gx.bZip) (zip_pSd ws ss)) (by rw [List.length_zip]; omega) (fun z hz =>
    ⟨_, xg_pair 3 4, xts_nil, fun _ => xd_meth h_after lv Gx.clW (xd_var 3 rfl) ins_wor (z.1, z.2, d) ⟨hk z.1 (zip_mem hz), hs.2 z hz⟩ (xs_cons (xd_var 4 rfl) (xs_cons (xd_var 2 rfl) xs_nil)) rfl rfl⟩))) rfl) ?_) rfl)
  rw [filt]
  unfold hstep
  rw [List.map_map]
  rfl
theorem sc_hwalk : FnScope ["self", "row", "found", "deed"] ["self", "row"] (defScope (hl 6)) := ⟨rfl, rfl, rfl, by decide +kernel, rfl, by decide +kernel, by decide +kernel⟩
theorem stsOk_first {ws : List Wd} (h : ∀ w ∈ ws, StOk w.rows w.first) : StsOk ws (ws.map Wd.first) := by
  refine ⟨List.length_map .., fun z hz => ?_⟩
  have : ∀ (ws : List Wd), (∀ w ∈ ws, StOk w.rows w.first) → ∀ z ∈ ws.zip (ws.map Wd.first), StOk z.1.rows z.2 := by
    intro ws
    induction ws with
    | nil => intro _ z hz; simp at hz
    | cons w ws ih =>
      intro h z hz
      rw [List.map_cons, List.zip_cons_cons] at hz
      rcases List.mem_cons.mp hz with e | hz
      · rw [e]
        exact h w List.mem_cons_self
      · exact ih (fun w hw => h w (List.mem_cons_of_mem _ hw)) z hz
  exact this ws h z hz
theorem ok_hwalk (D : MDef Γ (CH Γ.K) "walk" "Hand.walk" (hl 6) ["self", "row"]) (h_want_row : HasF Γ 2 "want_row" c_want_row) (h_start : HasM Γ 2 (CH Γ.K) "start" c_hstart) (h_after : HasM Γ 10 (CH Γ.K) "after" c_hafter) : HasM Γ 11 (CH Γ.K) "walk" c_hwalk := by
  refine hasM D sc_hwalk (fun _ _ => rfl) fun ⟨ws, r⟩ ⟨hk, hl, hr⟩ => ?_
  have hk' : ∀ w ∈ ws, WkOk w := fun w hw => (hk w hw).1
  have hl : ws.length ≤ 4 := hl
  have hr : r.length ≤ 1000 := hr
  have h0 := stsOk_first fun w hw => (hk w hw).2
  refine xp_then (xq_expr (xd_call h_want_row lv r hr (xs_cons (xd_var 1 rfl) xs_nil) rfl) rfl) ?_
  refine xp_then (xq_ownD 2 (xo_lstD (ds := [pSs (ws.map Wd.first)]) (xs_cons (xd_meth0 h_start lv Gx.clH (xd_var 0 rfl) ins_han ws hl rfl rfl) xs_nil)) rfl) ?_
  refine xp_cons (Mid := fun B => ∃ x, B = ⟨[some (.han ws), some (.dat (pS (rw4 r))), none, x], some (2, .ol ((hw ws (ws.map Wd.first) r).map pSs))⟩) (xq_for [3] (fun i A => ∃ x, A = ⟨[some (.han ws), some (.dat (pS (rw4 r))), none, x], some (2, .ol ((hw ws (ws.map Wd.first) (r.take i)).map pSs))⟩) (xi_txt (xd_var 1 rfl)) ⟨none, rfl⟩ (fun i it A' hit hI => ?_) (fun A' hI => ?_)) ?_
  · obtain ⟨x, rfl⟩ := hI
    obtain ⟨c, hc, hm, rfl⟩ := map_get (show (itsT (r.map dc))[i]? = some it from hit)
    obtain ⟨d, hd, _, rfl⟩ := map_get hc
    refine ⟨_, xg_name 3 (hi := fun j o h => by cases h; decide), ?_⟩
    obtain ⟨l, u, e1, e2⟩ := hw_last ws (r.take i) (ws.map Wd.first)
    have hu : StsOk ws u := hw_ok hk' (r.take i) _ h0 u (by rw [e1]; simp)
    refine xp_one (xq_appendD 2 (ds := (hw ws (ws.map Wd.first) (r.take i)).map pSs) rfl (xd_meth h_after lv Gx.clH (xd_var 0 rfl) ins_han (ws, u, d) ⟨⟨hk', hl⟩, hu⟩ (xs_cons (xd_ownIx 2 rfl xd_neg1 (d := pSs u) (by rw [e1, List.map_append]; exact atI_last _ _)) (xs_cons (xd_var 3 rfl) xs_nil)) rfl rfl) ?_ ?_)
    · refine ⟨some (.dat (pD d)), ?_⟩
      rw [take_app hd, hw_snoc, e2, List.map_append]
      rfl
    · rw [List.length_map, hw_len, List.length_take]
      omega
  · obtain ⟨x, rfl⟩ := hI
    refine ⟨x, ?_⟩
    have : (itsT (rw4 r)).length = r.length := by unfold itsT rw4; rw [List.length_map, List.length_map]
    rw [this, List.take_length]
  · rintro B ⟨x, rfl⟩
    exact xp_pub (i := 2) rfl pub_lst (xp_one (xq_retD (xd_var 2 rfl) rfl))
end
end Oh
set_option maxHeartbeats 4000000
/-! OiA: plain: two walks, alike up to the first strange coming; the law's judgement of a row. -/
namespace Oh
open PySem L2
/-! ### plain -/
theorem mem_strange {t : T8} {bk : List (Nat × T8)} (hn : (bk.map Prod.fst).Nodup) {c : Nat} : c ∈ strange t bk ↔ ∃ u, lkB bk c = some u ∧ spB t u ≠ u := by
  unfold strange
  constructor
  · intro h
    obtain ⟨p, hp, rfl⟩ := List.mem_map.mp h
    obtain ⟨h1, h2⟩ := List.mem_filter.mp hp
    exact ⟨p.2, lkB_mem hn h1, by simpa using h2⟩
  · rintro ⟨u, h1, h2⟩
    unfold lkB at h1
    rw [Option.map_eq_some_iff] at h1
    obtain ⟨p, h3, rfl⟩ := h1
    have hm := List.mem_of_find?_eq_some h3
    have hc := List.find?_some h3
    have hc' : p.1 = c := by simpa using hc
    exact List.mem_map.mpr ⟨p, List.mem_filter.mpr ⟨hm, by simpa using h2⟩, hc'⟩
/-- a step of the near world that is a strange coming -/
def cst (rows : List (List Nat)) (ls : List Nat) (s b : Sd) : Prop := ∃ p t q u, s = some (p, t) ∧ b = some (q, u) ∧ q ≠ p ∧ seen rows q ∈ ls
theorem step_alike {rows : List (List Nat)} {m : T8} {bk : List (Nat × T8)} (hn : (bk.map Prod.fst).Nodup) {s : Sd} {d : D4} (h : ¬ cst rows (strange m bk) s (behind rows bk s d)) : behind rows (spunB m bk) s d = behind rows bk s d := by
  match s with
  | none => rfl
  | some (p, t) =>
    unfold behind at h ⊢
    simp only at h ⊢
    cases hq : goes rows p (tn t d) with
    | none => rfl
    | some q =>
      rw [hq] at h
      simp only at h ⊢
      by_cases hqp : q = p
      · rw [if_pos hqp, if_pos hqp]
      · rw [if_neg hqp] at h
        rw [if_neg hqp, if_neg hqp, lkB_spun]
        cases hk : lkB bk (seen rows q) with
        | none => rfl
        | some u =>
          rw [hk] at h
          simp only [Option.map_some]
          by_cases hu : spB m u = u
          · rw [hu]
          · exact (h ⟨p, t, q, cm t u, rfl, rfl, hqp, (mem_strange hn).mpr ⟨u, hk, hu⟩⟩).elim
theorem step_com {rows : List (List Nat)} {m : T8} {bk : List (Nat × T8)} (hn : (bk.map Prod.fst).Nodup) {s : Sd} {d : D4} (h : cst rows (strange m bk) s (behind rows bk s d)) : ∃ q u v, behind rows (spunB m bk) s d = some (q, v) ∧ behind rows bk s d = some (q, u) ∧ v ≠ u := by
  obtain ⟨p, t, q, u0, rfl, hb, hqp, hs⟩ := h
  obtain ⟨u, hk, hu⟩ := (mem_strange hn).mp hs
  unfold behind at hb ⊢
  simp only at hb ⊢
  cases hg : goes rows p (tn t d) with
  | none =>
    rw [hg] at hb
    cases hb
  | some q' =>
    rw [hg] at hb
    simp only at hb ⊢
    by_cases hqp' : q' = p
    · rw [if_pos hqp'] at hb
      cases hb
      exact (hqp rfl).elim
    · rw [if_neg hqp'] at hb
      have e : q' = q := by cases hb; rfl
      subst e
      rw [if_neg hqp', if_neg hqp', lkB_spun, hk]
      exact ⟨q', cm t u, cm t (spB m u), rfl, rfl, fun z => hu (cm_left z)⟩
theorem walk_zero {rows : List (List Nat)} {bk : List (Nat × T8)} (r : List D4) (s : Sd) : (walk rows bk s r)[0]? = some s := by cases r <;> rfl
theorem walk_succ {rows : List (List Nat)} {bk : List (Nat × T8)} : ∀ (r : List D4) (s : Sd) (j : Nat) (u : Sd) (d : D4), (walk rows bk s r)[j]? = some u → r[j]? = some d → (walk rows bk s r)[j + 1]? = some (behind rows bk u d)
  | [], _, _, _, _, _, h => by simp at h
  | e :: r, s, 0, u, d, h, hd => by
    have hs : s = u := by simpa [walk] using h
    have hd' : e = d := by simpa using hd
    subst hs hd'
    show (walk rows bk (behind rows bk s e) r)[0]? = _
    exact walk_zero r _
  | e :: r, s, j + 1, u, d, h, hd => by
    show (walk rows bk (behind rows bk s e) r)[j + 1]? = _
    exact walk_succ r _ j u d (by simpa [walk] using h) (by simpa using hd)
theorem com_iff {rows : List (List Nat)} {ls : List Nat} {W : List Sd} {j : Nat} {s b : Sd} (hs : W[j]? = some s) (hb : W[j + 1]? = some b) : com rows ls W (j + 1) = true ↔ cst rows ls s b := by
  unfold com cst
  rw [hb, show W[j + 1 - 1]? = some s from hs]
  match b, s with
  | none, _ => simp
  | some (q, u), none => simp
  | some (q, u), some (p, t) => simp
theorem alike_to {rows : List (List Nat)} {m : T8} {bk : List (Nat × T8)} (hn : (bk.map Prod.fst).Nodup) (r : List D4) (s : Sd) : ∀ k, k < (walk rows bk s r).length → (∀ j, 1 ≤ j → j ≤ k → com rows (strange m bk) (walk rows bk s r) j = false) → (walk rows (spunB m bk) s r)[k]? = (walk rows bk s r)[k]?
  | 0, _, _ => by rw [walk_zero, walk_zero]
  | k + 1, hk, h => by
    have ih := alike_to hn r s k (by omega) fun j h1 h2 => h j h1 (by omega)
    have hlen := walk_len (rows := rows) (bk := bk) r s
    have hr : k < r.length := by omega
    have h1 : (walk rows bk s r)[k]? = some (walk rows bk s r)[k] := List.getElem?_eq_getElem (by omega)
    have e1 := walk_succ r s k _ r[k] h1 (List.getElem?_eq_getElem hr)
    have e2 := walk_succ (bk := spunB m bk) r s k _ r[k] (ih.trans h1) (List.getElem?_eq_getElem hr)
    rw [e1, e2, step_alike hn fun hc => ?_]
    have := h (k + 1) (by omega) (Nat.le_refl _)
    rw [(com_iff h1 e1).mpr hc] at this
    cases this
theorem unlike_at {rows : List (List Nat)} {m : T8} {bk : List (Nat × T8)} (hn : (bk.map Prod.fst).Nodup) (r : List D4) (s : Sd) {k : Nat} (h1 : 1 ≤ k) (hk : k < (walk rows bk s r).length) (hno : ∀ j, 1 ≤ j → j < k → com rows (strange m bk) (walk rows bk s r) j = false) (hc : com rows (strange m bk) (walk rows bk s r) k = true) :
    ∃ q u v, (walk rows (spunB m bk) s r)[k]? = some (some (q, v)) ∧ (walk rows bk s r)[k]? = some (some (q, u)) ∧ v ≠ u := by
  obtain ⟨k, rfl⟩ : ∃ j, k = j + 1 := ⟨k - 1, by omega⟩
  have hlen := walk_len (rows := rows) (bk := bk) r s
  have hr : k < r.length := by omega
  have ih := alike_to (m := m) hn r s k (by omega) fun j a b => hno j a (by omega)
  have e0 : (walk rows bk s r)[k]? = some (walk rows bk s r)[k] := List.getElem?_eq_getElem (by omega)
  have e1 := walk_succ r s k _ r[k] e0 (List.getElem?_eq_getElem hr)
  have e2 := walk_succ (bk := spunB m bk) r s k _ r[k] (ih.trans e0) (List.getElem?_eq_getElem hr)
  obtain ⟨q, u, v, a, b, c⟩ := step_com hn ((com_iff e0 e1).mp hc)
  exact ⟨q, u, v, by rw [e2, a], by rw [e1, b], c⟩
theorem hw_two {F N : Wd} : ∀ (r : List D4) (s t : Sd), hw [F, N] [s, t] r = (walk F.rows F.book s r).zipWith (fun a b => [a, b]) (walk N.rows N.book t r)
  | [], _, _ => rfl
  | d :: r, s, t => by
    show [s, t] :: hw [F, N] [behind F.rows F.book s d, behind N.rows N.book t d] r = _
    rw [hw_two r]
    rfl
/-! ### slices -/
section
variable {C : Ct} {A : AS} {a b : Expr} {pos p2 : Pos}
theorem cut_to {K : PySem.W.Frag} {G : Hp} {vs : List V} {ds : List PyData} (h : DpAll K G vs ds) (k : Nat) : DpAll K G (cutV vs none (some (k : Int))) (ds.take k) := by
  unfold cutV
  rw [show HT.sIx vs.length 0 none = 0 from rfl, List.drop_zero, Nat.sub_zero, HT.sIx_nat]
  have e : vs.take (min k vs.length) = vs.take k := by
    by_cases hk : k ≤ vs.length
    · rw [Nat.min_eq_left hk]
    · rw [Nat.min_eq_right (by omega), List.take_of_length_le (Nat.le_refl _), List.take_of_length_le (by omega)]
  rw [e]
  exact dps_take k h
/-- a[:k] -/
theorem xn_to {ds : List PyData} {k : Nat} (ha : Xd C a A (.dat (.list ds))) (hb : Xd C b A (.dat (.int k))) : Xd C (.Subscript a (.Slice none (some b) none p2) pos) A (.nl (ds.take k)) := by
  obtain ⟨ta, a1, a2⟩ := ha
  obtain ⟨tb, b1, b2⟩ := hb
  refine ⟨tSl (rSlL C.K) ta tNoPart (tPart tb), fun X hX => by have q := pe_slice (p2 := p2) (pos := pos) sl_list (a1 X hX) po_none (po_some (b1 X hX)); rw [hX.K] at q; exact q, fun H0 σ G H x m Q q => a2 H0 σ G H x m _ fun v G1 H1 z n1 s1 i1 => ?_⟩
  subst s1
  obtain ⟨l, vs, rfl, h1, h2⟩ := is_list i1
  refine b2 H0 σ G1 H1 n1.s (m.up n1) _ fun u G2 H2 z2 n2 s2 i2 => ?_
  subst s2
  exact ⟨k, is_int i2, l, vs, rfl, n2.s.sl (n2.g.sl h1), fun p hp => q _ _ _ _ ((n1.trans n2).trans (Nx.new (o := .lst (cutV vs none (some (k : Int)))) n2.s hp)) rfl ⟨p, _, rfl, upd_same, (Ex.new (n2.s.back hp)).dps (cut_to (n2.g.dps h2) k)⟩⟩
end
end Oh
set_option maxHeartbeats 4000000
/-! OiB: walk: the law's judgement of a row. -/
namespace Oh
open PySem L2
structure Rt where
  F : Wd
  N : Wd
  L : Ld
  m : T8
  r : List D4
structure RtOk (g : Rt) : Prop where
  l : LdOk g.L
  st : StOk g.L.rows g.L.st
  fr : g.F.rows = g.L.rows
  nr : g.N.rows = g.L.rows
  fb : g.F.book = spunB g.m g.L.bk
  nb : g.N.book = g.L.bk
  ff : g.F.first = g.L.st
  nf : g.N.first = g.L.st
  r : g.r.length ≤ 100
abbrev c_right : Con := conD (α := Rt) RtOk (fun g => [.han [g.F, g.N], g.L.ab, .dat (.list ((strange g.m g.L.bk).map fun c => pS [c])), .dat (pS (rw4 g.r))]) (fun _ => .dat (.bool true))
theorem strange_len {m : T8} {L : Ld} (h : LdOk L) : (strange m L.bk).length ≤ 4 := by
  unfold strange
  rw [List.length_map]
  exact Nat.le_trans (List.length_filter_le ..) h.len
/-- the pairs of stands -/
def prs (f n : List Sd) : List (List Sd) := f.zipWith (fun a b => [a, b]) n
theorem prs_get {f n : List Sd} {k : Nat} {a b : Sd} (h1 : f[k]? = some a) (h2 : n[k]? = some b) : (prs f n)[k]? = some [a, b] := by
  unfold prs
  rw [List.getElem?_zipWith, h1, h2]
theorem prs_mem {f n : List Sd} {z : List Sd} (h : z ∈ prs f n) : ∃ a b, z = [a, b] := by
  unfold prs at h
  rw [List.mem_iff_getElem?] at h
  obtain ⟨i, hi⟩ := h
  rw [List.getElem?_zipWith] at hi
  split at hi
  · cases hi
    exact ⟨_, _, rfl⟩
  · cases hi
theorem prs_snd {f n : List Sd} (h : f.length = n.length) : (prs f n).map (fun z => z.getD 1 none) = n := by
  unfold prs
  induction f generalizing n with
  | nil => cases n <;> simp_all
  | cons a f ih =>
    cases n with
    | nil => simp at h
    | cons b n =>
      rw [List.zipWith_cons_cons, List.map_cons, ih (by simpa using h)]
      rfl
theorem pSs_at (z : List Sd) (a b : Sd) (h : z = [a, b]) : atI (z.map pSd) 0 = some (pSd (z.getD 0 none)) ∧ atI (z.map pSd) 1 = some (pSd (z.getD 1 none)) := by
  subst h
  exact ⟨atI_nat (j := 0) rfl, atI_nat (j := 1) rfl⟩
section
variable {Γ : Ga} [Gx Γ]
theorem sc_right : FnScope ["_law_hand", "_law_land_here", "_law_letters", "_law_line_here", "_law_told", "_law_first", "_law_alike", "_law_posts"] ["_law_hand", "_law_land_here", "_law_letters", "_law_line_here"] (defScope (top 81)) := ⟨rfl, rfl, rfl, by decide +kernel, rfl, by decide +kernel, by decide +kernel⟩
theorem ok_right (D : Def Γ "_law_right" (top 81) ["_law_hand", "_law_land_here", "_law_letters", "_law_line_here"]) (h_walk : HasM Γ 11 (CH Γ.K) "walk" c_hwalk) (h_first : HasF Γ 5 "_law_first_coming" c_lfirst) (h_gone : HasF Γ 4 "_law_gone" c_lgone) : HasF Γ 12 "_law_right" c_right := by
  refine hasF D sc_right (fun _ _ => rfl) fun g O => ?_
  have O : RtOk g := O
  have hn := O.l.nd
  have hls := strange_len (m := g.m) O.l
  have hr := O.r
  have wF : WkOk g.F := ⟨by rw [O.fr]; exact O.l.f, by rw [O.fb, spunB_fst, O.fr]; exact O.l.b⟩
  have wN : WkOk g.N := ⟨by rw [O.nr]; exact O.l.f, by rw [O.nb, O.nr]; exact O.l.b⟩
  have hws : ∀ w ∈ [g.F, g.N], WkOk w ∧ StOk w.rows w.first := fun w hw => by
    rcases List.mem_cons.mp hw with e | hw
    · rw [e]
      exact ⟨wF, by rw [O.fr, O.ff]; exact O.st⟩
    · rcases List.mem_cons.mp hw with e | hw
      · rw [e]
        exact ⟨wN, by rw [O.nr, O.nf]; exact O.st⟩
      · cases hw
  let f := walk g.L.rows (spunB g.m g.L.bk) g.L.st g.r
  let n := walk g.L.rows g.L.bk g.L.st g.r
  have hf : f.length = g.r.length + 1 := walk_len _ _
  have hnl : n.length = g.r.length + 1 := walk_len _ _
  have told : hw [g.F, g.N] ([g.F, g.N].map Wd.first) g.r = prs f n := by
    show hw [g.F, g.N] [g.F.first, g.N.first] g.r = _
    rw [hw_two, O.fr, O.nr, O.fb, O.nb, O.ff, O.nf]
    rfl
  have hpl : (prs f n).length = g.r.length + 1 := by
    unfold prs
    rw [List.length_zipWith, hf, hnl, Nat.min_self]
  refine xp_then (xq_setD 4 (Xe.as (d := .dat (.list ((prs f n).map pSs))) (xd_meth h_walk lv Gx.clH (xd_var 0 rfl) ins_han ([g.F, g.N], g.r) ⟨hws, by show 2 ≤ 4; decide, by show g.r.length ≤ 1000; omega⟩ (xs_cons (xd_var 3 rfl) xs_nil) rfl rfl) (by rw [← told])) rfl) ?_
  refine xp_cons (Mid := fun B => ∃ a, fcRes g.L g.r (strange g.m g.L.bk) a ∧ B = ⟨[some (.han [g.F, g.N]), some g.L.ab, some (.dat (.list ((strange g.m g.L.bk).map fun c => pS [c]))), some (.dat (pS (rw4 g.r))), some (.dat (.list ((prs f n).map pSs))), some a, none, none], none⟩) (xq_set 5 (xe_callK h_first lv (g.L, g.r, strange g.m g.L.bk) ⟨O.l, O.st, by show g.r.length ≤ 1000; omega, by show (strange g.m g.L.bk).length ≤ 100; omega⟩ (xs_cons (xd_var 1 rfl) (xs_cons (xd_var 3 rfl) (xs_cons (xd_var 2 rfl) xs_nil))) fun z hz => hz) fun a ha => ⟨a, ha, rfl⟩) ?_
  rintro B ⟨a, ha, rfl⟩
  have hget : ∀ k, k < g.r.length + 1 → ∃ u v, f[k]? = some u ∧ n[k]? = some v ∧ (prs f n)[k]? = some [u, v] := fun k hk => by
    have h1 : f[k]? = some f[k] := List.getElem?_eq_getElem (by omega)
    have h2 : n[k]? = some n[k] := List.getElem?_eq_getElem (by omega)
    exact ⟨_, _, h1, h2, prs_get h1 h2⟩
  let al : List Bool := (prs f n).map fun z => decide (z.getD 0 none = z.getD 1 none)
  have hal : al.length = g.r.length + 1 := by show ((prs f n).map _).length = _; rw [List.length_map, hpl]
  have halk : ∀ k b, al[k]? = some b → ∃ u v, f[k]? = some u ∧ n[k]? = some v ∧ b = decide (u = v) := fun k b hb => by
    have hk := (List.getElem?_eq_some_iff.mp hb).1
    rw [hal] at hk
    obtain ⟨u, v, h1, h2, h3⟩ := hget k hk
    have h4 : al[k]? = some (decide (u = v)) := by
      show ((prs f n).map _)[k]? = _
      rw [List.getElem?_map, h3]
      rfl
    rw [hb] at h4
    exact ⟨u, v, h1, h2, Option.some.inj h4⟩
  refine xp_then (xq_lc 6 (xl_lc (prs f n) (fun z => [Ab.dat (pSs z)]) (fun _ => true) (fun z => .bool (decide (z.getD 0 none = z.getD 1 none))) [("_law_posts", 7)] (xi_eq (xi_list (xd_var 4 rfl)) (by unfold its1; rw [List.map_map]; rfl)) (by omega) (fun z hz => ?_)) fun o ho => by rw [ho]) ?_
  · obtain ⟨u, v, hz'⟩ := prs_mem hz
    obtain ⟨a0, a1⟩ := pSs_at z u v hz'
    exact ⟨_, xg_name 7, xts_nil, fun _ => Xc.e (Xdc_as (xc_eqD (xd_ixT (xd_var 7 rfl) xd_int a0) (xd_ixT (xd_var 7 rfl) xd_int a1) (sh_ok (sh_pSd _)) (sh_ok (sh_pSd _))) (eqv_pSd _ _))⟩
  refine xp_pub (i := 6) rfl pub_lst ?_
  rw [show (((prs f n).filter fun _ => true).map fun z => PyData.bool (decide (z.getD 0 none = z.getD 1 none))) = al.map PyData.bool from by rw [filt, List.map_map]; rfl]
  refine xp_then (A' := ⟨[some (.han [g.F, g.N]), some g.L.ab, some (.dat (.list ((strange g.m g.L.bk).map fun c => pS [c]))), some (.dat (pS (rw4 g.r))), some (.dat (.list ((prs f n).map pSs))), some a, some (.dat (.list (al.map PyData.bool))), none], none⟩) (xq_ifB (xt_c (xc_neD (Xe.as (d := .dat (.list (n.map pSd))) (Xo.lst (xo_lc (prs f n) (fun z => [Ab.dat (pSs z)]) (fun _ => true) (fun z => pSd (z.getD 1 none)) [("_law_posts", 7)] (xi_eq (xi_list (xd_var 4 rfl)) (by unfold its1; rw [List.map_map]; rfl)) (by omega) (fun z hz => ?_))) ?_) (xd_call h_gone lv (g.L, g.r) ⟨O.l, O.st, by show g.r.length ≤ 1000; omega⟩ (xs_cons (xd_var 1 rfl) (xs_cons (xd_var 3 rfl) xs_nil)) rfl) (sh_ok (sh_list (k := 2) (sh_map fun u _ => sh_pSd u))) (sh_ok (sh_list (k := 2) (sh_map fun u _ => sh_pSd u))))) (fun hT => ?_) (fun _ => xp_nil rfl)) ?_
  · obtain ⟨u, v, hz'⟩ := prs_mem hz
    obtain ⟨a0, a1⟩ := pSs_at z u v hz'
    exact ⟨_, xg_name 7, xts_nil, fun _ => xd_ixT (xd_var 7 rfl) xd_int a1⟩
  · rw [filt]
    show Ab.dat (.list ((prs f n).map (pSd ∘ fun z => z.getD 1 none))) = _
    rw [← List.map_map, prs_snd (by omega)]
  · exfalso
    rw [eqv_list eqv_pSd] at hT
    have : decide (n = walk g.L.rows g.L.bk g.L.st g.r) = true := decide_eq_true rfl
    rw [this] at hT
    cases hT
  rcases ha with ⟨k, h1, hk, hc, hno, rfl⟩ | ⟨hno, rfl⟩
  · have hk : k < n.length := hk
    refine xp_then (xq_ifB (xt_c (xc_isN (xd_var 5 rfl))) (fun hT => by cases hT) (fun _ => xp_nil rfl)) ?_
    obtain ⟨q, u, v, e1, e2, hne⟩ := unlike_at hn g.r g.L.st h1 hk hno hc
    have e3 : ((prs f n).map pSs)[k]? = some (pSs [some (q, v), some (q, u)]) := by rw [List.getElem?_map, prs_get e1 e2]; rfl
    have e4 := atI_nat e3
    refine xp_then (xq_ifB (xt_w (xw_or (xt_c (xc_inL (c := .dat .none) (bs := al.take k) xd_bl (Xe.as (xd_nl (xn_to (xd_var 6 rfl) (xd_var 5 rfl))) (by rw [List.map_take])))) fun _ => (xw_or1 (xt_c (xc_neD (xd_ixT (xd_ixT (xd_ixL (xd_var 4 rfl) (xd_var 5 rfl) e4) xd_int (atI_nat (j := 0) rfl)) xd_int (atI_nat (j := 0) rfl)) (xd_ixT (xd_ixT (xd_ixL (xd_var 4 rfl) (xd_var 5 rfl) e4) xd_int (atI_nat (j := 1) rfl)) xd_int (atI_nat (j := 0) rfl)) (sh_ok (sh_pP q)) (sh_ok (sh_pP q))))))) (fun hT => ?_) (fun _ => xp_nil rfl)) ?_
    · exfalso
      rw [eqv_pP, decide_eq_true rfl] at hT
      have hm : false ∈ al.take k := by simpa using hT
      obtain ⟨i, hi, ei⟩ := List.getElem_of_mem hm
      have hik : i < k := by rw [List.length_take] at hi; omega
      have e5 : al[i]? = some false := by
        rw [← ei, List.getElem_take]
        exact List.getElem?_eq_getElem _
      obtain ⟨x, y, e6, e7, e8⟩ := halk i false e5
      have := alike_to hn g.r g.L.st i (by show i < n.length; omega) fun j a b => hno j a (by omega)
      rw [show (walk g.L.rows (spunB g.m g.L.bk) g.L.st g.r)[i]? = some x from e6, show (walk g.L.rows g.L.bk g.L.st g.r)[i]? = some y from e7] at this
      rw [Option.some.inj this] at e8
      simp at e8
    · refine xp_one (xq_retD (Xc.e (Xdc_as (xc_neD (xd_ixT (xd_ixT (xd_ixL (xd_var 4 rfl) (xd_var 5 rfl) e4) xd_int (atI_nat (j := 0) rfl)) xd_int (atI_nat (j := 1) rfl)) (xd_ixT (xd_ixT (xd_ixL (xd_var 4 rfl) (xd_var 5 rfl) e4) xd_int (atI_nat (j := 1) rfl)) xd_int (atI_nat (j := 1) rfl)) (sh_ok (sh_pT v)) (sh_ok (sh_pT u))) (b := true) (by rw [eqv_pT, decide_eq_false hne]; rfl))) rfl)
  · refine xp_cons (Mid := fun B => False) (xq_ifB (xt_c (xc_isN (xd_var 5 rfl))) (fun _ => xp_one (xq_retD (Xc.e (Xdc_as (xc_ninL (c := .dat .none) (bs := al) xd_bl (xd_var 6 rfl)) (b := true) ?_)) rfl)) (fun hF => by cases hF)) fun _ h => h.elim
    have hm : ¬ false ∈ al := fun hm => by
      obtain ⟨i, hi, ei⟩ := List.getElem_of_mem hm
      have e5 : al[i]? = some false := by rw [← ei]; exact List.getElem?_eq_getElem _
      obtain ⟨x, y, e6, e7, e8⟩ := halk i false e5
      have hin : i < n.length := by rw [hnl, ← hal]; exact hi
      have := alike_to hn g.r g.L.st i hin fun j a b => hno j a (by show j < n.length; omega)
      rw [show (walk g.L.rows (spunB g.m g.L.bk) g.L.st g.r)[i]? = some x from e6, show (walk g.L.rows g.L.bk g.L.st g.r)[i]? = some y from e7] at this
      rw [Option.some.inj this] at e8
      simp at e8
    rw [decide_eq_false hm]
    rfl
end
end Oh
set_option maxHeartbeats 4000000
/-! OiC: own == and !=, either answer. -/
namespace Oh
open PySem L2 PySem.Spec PyProof.Rows
section
variable {prog : Program} {w : World} {A : Around} {E : Value → Shared → Prop} {s : Shared} {K : PySem.W.Frag} {x C L f : Addr} {h₀ : Heap} {m : Str → Option Value} {ox : Obj} {od : Option Obj} {b : Value}
/-- object.__ne__ asks the own __eq__ -/
theorem ne_body (X : K.In s.heap) (I : PySem.W.InstAt s.heap x ox C od) (he : PySem.W.findIn K (.ref C) "__eq__" = some (some (.ref f))) (hf : PySem.W.isFn K (.ref f) = true) (hu : A.units < cLine) {Q : Fin → Shared → Prop}
    (hcall : wpAny (model prog w) A (call (.ref f) [.ref x, b]) (fun v s' => ∃ r, v = .bool r ∧ Q (.done (.ret (.bool (!r)))) s') E s) :
    wpAny (model prog w) A (Builtin.«object.__ne__» ⟨[.ref x, b], []⟩) Q E s := by
  unfold Builtin.«object.__ne__»
  repeat (first
    | with_reducible refine wpAny_cRoomFor hu ?_
    | (refine wpAny_bind (m := callSpecialIfBound? (.ref x) (Str.ofString "__eq__") [b])
        (PySem.W.ifBound_K X I he hf (wpAny_mono hcall (fun r s' hr => by
          obtain ⟨q, rfl, hq⟩ := hr
          repeat (first | exact hq | exact wpAny_pure hq | exact wpAny_truthy_bool hq | (refine wpAny_bind (m := truthy (.bool _)) (wpAny_truthy_bool ?_)) | wp_step)) fun _ _ e => e)))
    | wp_step)
theorem ne_bound (X : K.In s.heap) (I : PySem.W.InstAt s.heap x ox C od) (hn : PySem.W.findIn K (.ref C) "__ne__" = some (some (.builtin "object.__ne__"))) (hm : PySem.W.mroIn K C (.type "object") = some true) (he : PySem.W.findIn K (.ref C) "__eq__" = some (some (.ref f))) (hf : PySem.W.isFn K (.ref f) = true) (hu : A.units + 1 < cLine) {Q : Option Value → Shared → Prop}
    (hcall : wpAny (model prog w) A.in1 (call (.ref f) [.ref x, b]) (fun v s' => ∃ r, v = .bool r ∧ Q (some (.bool (!r))) s') E s) : wpAny (model prog w) A (callSpecialIfBound? (.ref x) "__ne__" [b]) Q E s := by
  have key : wpAny (model prog w) A (call (.builtin "object.__ne__") [.ref x, b]) (fun v => Q (some v)) E s := by
    refine wpAny_call (codeAny_call_builtin PySem.F.cmp_object.ne.plain PySem.F.cmpEntry_ne (PySem.W.check_slot PySem.F.cmpKind_ne PySem.F.cmpSplit_ne (I.type.andThen (PySem.W.looks_mroIn X hm)) (PySem.F.cmpArgs_ne _ _) (ne_body (A := A.in1) X I he hf hu (wpAny_mono hcall (fun v s' hv => ?_) fun _ _ e => e))))
    obtain ⟨r, rfl, hq⟩ := hv
    first | exact ⟨r, rfl, hq⟩ | exact ⟨r, rfl, wpAny_pure hq⟩
  simp only [callSpecialIfBound?, bindSpecialIfBound?]
  refine wpAny_holding (wpAny_bind (wpAny_bind (wpAny_bind (I.type.here ((PySem.W.looks_findIn X hn).here ?_)))))
  simp only [PySem.F.cmp_object.ne.bind]
  refine wpAny_bind (wpAny_askSetting (wpAny_ite ?_))
  have fin : wpAny (model prog w) A (call (.builtin "object.__ne__") ([.ref x] ++ [b]) >>= fun v => pure (some v)) Q E s := wpAny_bind (wpAny_mono key (fun v s' h' => wpAny_pure h') fun _ _ h' => h')
  split
  · exact wpAny_bind (wpAny_pure (wpAny_pure fin))
  · exact wpAny_tryCatch (wpAny_bind (wpAny_pure (wpAny_pure fin)))
theorem ne_cmp (X : K.In s.heap) (I : PySem.W.InstAt s.heap x ox C od) {tb : Value} (hb : PySem.W.Looks (model prog w) s.heap (typeOf b) tb) (htb : tb = .ref C) (hn : PySem.W.findIn K (.ref C) "__ne__" = some (some (.builtin "object.__ne__"))) (hm : PySem.W.mroIn K C (.type "object") = some true) (he : PySem.W.findIn K (.ref C) "__eq__" = some (some (.ref f))) (hf : PySem.W.isFn K (.ref f) = true) (hu : A.units + 1 < cLine) {Q : Value → Shared → Prop}
    (hcall : wpAny (model prog w) A.in1 (call (.ref f) [.ref x, b]) (fun v s' => ∃ r, v = .bool r ∧ Q (.bool (!r)) s') E s) : wpAny (model prog w) A (richCompare .NotEq (.ref x) b) Q E s := by
  have one : wpAny (model prog w) A (tryCompare (.ref x) "__ne__" b) (fun r s' => ∃ v, r = some v ∧ Q v s') E s := by
    unfold tryCompare
    refine wpAny_bind (ne_bound X I hn hm he hf hu (wpAny_mono hcall (fun v s' hv => ?_) fun _ _ e => e))
    obtain ⟨r, rfl, hq⟩ := hv
    exact ⟨r, rfl, wpAny_pure ⟨_, rfl, hq⟩⟩
  subst htb
  unfold richCompare
  simp only [oneThing_ref]
  refine wpAny_holding (wpAny_bind (wpAny_cRoomFor (Nat.lt_of_succ_lt hu) ?_))
  refine wpAny_bind (I.type.here (wpAny_bind (hb.here ?_)))
  rw [show (Value.ref C != Value.ref C) = false from by simp]
  simp only [Bool.false_eq_true, if_false]
  refine wpAny_bind (wpAny_pure ?_)
  simp only [Bool.false_eq_true, if_false]
  refine wpAny_bind (wpAny_mono one (fun r s' z => ?_) fun _ _ e => e)
  obtain ⟨v, rfl, hq⟩ := z
  exact wpAny_pure hq
end

/-! ### the two operators -/
/-- what the class at Cl has for == and != -/
structure EqF (K : PySem.W.Frag) (Cl : Addr) : Prop where
  ne : PySem.W.findIn K (.ref Cl) "__ne__" = some (some (.builtin "object.__ne__"))
  hm : PySem.W.mroIn K Cl (.type "object") = some true
/-- a contract that answers a truth -/
def BoolC (c : Con) : Prop := ∀ g z, c.res g z → ∃ b, z = .dat (.bool b)
def rOwn (K : PySem.W.Frag) (Cl : Addr) (c : Con) (neg : Bool) : R2 := fun x y H Q => ∃ (a b dx dy : Addr) (fs gs : List (Str × V)) (g : c.α) (G : Hp), x = .ref a ∧ y = .ref b ∧ H a = some (.ins Cl dx fs) ∧ H b = some (.ins Cl dy gs) ∧ c.pre g ∧ Ex G H ∧ IsA K G [x, y] (c.args g) ∧
  ∀ r G' H', Nx G H G' H' → c.res g (.dat (.bool r)) → Q (.bl (if neg then !r else r)) H'
section
variable {X : Cx} {k : Nat} {Cl : Addr} {c : Con}
theorem own_call {A : Around} {pins : List (Addr × Obj)} {s : Shared} {σ : L2.St} {H : Hp} {a b : Addr} {f : Addr} {fd : FuncData} {ps : List Str} (hA : Room k A) (hfr : A.frames = X.A.frames) (F : FnOk X.prog X.w X.K X.mg X.base CX0 k f fd ps (spC X.K c)) (hbi : Binds X.K fd ps []) (hbc : BoolC c) (I : Inv X pins σ H s) {Q : Bool → Hp → Prop}
    (g : c.α) (G : Hp) (hp : c.pre g) (hx : Ex G H) (hi : IsA X.K G [.ref a, .ref b] (c.args g)) (q : ∀ r G' H', Nx G H G' H' → c.res g (.dat (.bool r)) → Q r H') :
    wpAny (model X.prog X.w) A (call (.ref f) [.ref a, .ref b]) (fun v s' => ∃ r H', v = .bool r ∧ Inv X pins σ H' s' ∧ Q r H') X.xe s := by
  have hsp : spC X.K c [.ref a, .ref b] H (fun v H' => ∃ r, v = .bl r ∧ Q r H') E0 := ⟨g, G, hp, hx, hi, fun v G' H' z n hr iz => by
    obtain ⟨r, rfl⟩ := hbc g z hr
    exact ⟨r, is_bool iz, q r G' H' n hr⟩⟩
  have e0 : Env0 X.prog X.w X.K X.mg X.base A X.stack s H := by
    have e := I.env0
    exact ⟨by rw [hfr]; exact e.frames, e.mod, e.bs, e.bsz, e.funs, e.frf, e.hok, e.bare⟩
  have hl := F.len _ _ _ _ hsp
  have r2 : Vals [V.ref a, V.ref b] [Value.ref a, Value.ref b] := .cons rfl (.cons rfl .nil)
  refine wpAny_call (codeAny_mono (F.run A X.stack s H ⟨[.ref a, .ref b], []⟩ [.ref a, .ref b] [.ref a, .ref b] _ E0 hA e0 (by
    have := hbi s [.ref a, .ref b] I.kIn (by simpa using hl)
    simpa using this) r2 hsp) fun r s' hq => ?_)
  cases r with
  | error e => exact (pass0 (X := X)) pins σ H s e s' I hq
  | ok fl =>
    cases fl with
    | ret w =>
      obtain ⟨z, H', I', rz, r, rfl, hr⟩ := I.after hq
      obtain rfl : w = Value.bool r := rz
      exact ⟨r, H', rfl, I', hr⟩
    | next => exact False.elim hq
    | brk => exact False.elim hq
    | cont => exact False.elim hq
theorem op_own (F : HasM ⟨X.prog, X.w, X.K, X.mg, X.base⟩ k Cl "__eq__" c) (hbc : BoolC c) (hr : Room (k + 1) X.A) : OpR X (compareOp .Eq) (rOwn X.K Cl c false) := by
  intro pins s σ H x y v u Q I rx ry h
  obtain ⟨a, b, dx, dy, fs, gs, g, G, rfl, rfl, ha, hb, hp, hx, hi, q⟩ := h
  obtain ⟨f, fd, ps, F, M, hbi⟩ := F
  cases rx
  cases ry
  obtain ⟨mA, J, _⟩ := ins_get I.hok ha
  obtain ⟨mB, J', _⟩ := ins_get I.hok hb
  obtain ⟨od, J, _⟩ := J.look
  obtain ⟨od', J', _⟩ := J'.look
  obtain ⟨m, hF⟩ := I.fr
  show wpAny (model X.prog X.w) X.A (richCompare .Eq (.ref a) (.ref b)) (EP X pins σ Q) X.xe s
  refine PySem.W.cmp_K (op := .Eq) (tb := .ref Cl) hr.units0 hF I.ok.mod.kin J J'.type (by simp [PySem.W.notFirst]) M.at_ M.fn ?_
  refine wpAny_mono (own_call (hr.mono (Nat.le_succ k)) rfl F hbi hbc I g G hp hx hi (Q := fun r H' => Q (.bl r) H') fun r G' H' n hres => q r G' H' n hres) (fun v s' z => ?_) fun _ _ e => e
  obtain ⟨r, H', rfl, I', hq⟩ := z
  exact ⟨.bl r, H', I', rfl, hq⟩
theorem op_ownNe (F : HasM ⟨X.prog, X.w, X.K, X.mg, X.base⟩ k Cl "__eq__" c) (E : EqF X.K Cl) (hbc : BoolC c) (hr : Room (k + 1) X.A) : OpR X (compareOp .NotEq) (rOwn X.K Cl c true) := by
  intro pins s σ H x y v u Q I rx ry h
  obtain ⟨a, b, dx, dy, fs, gs, g, G, rfl, rfl, ha, hb, hp, hx, hi, q⟩ := h
  obtain ⟨f, fd, ps, F, M, hbi⟩ := F
  cases rx
  cases ry
  obtain ⟨mA, J, _⟩ := ins_get I.hok ha
  obtain ⟨mB, J', _⟩ := ins_get I.hok hb
  obtain ⟨od, J, _⟩ := J.look
  obtain ⟨od', J', _⟩ := J'.look
  show wpAny (model X.prog X.w) X.A (richCompare .NotEq (.ref a) (.ref b)) (EP X pins σ Q) X.xe s
  refine ne_cmp I.kIn J J'.type rfl E.ne E.hm M.at_ M.fn (by have := hr.un; omega) ?_
  refine wpAny_mono (own_call (A := X.A.in1) hr.in1 rfl F hbi hbc I g G hp hx hi (Q := fun r H' => Q (.bl (!r)) H') fun r G' H' n hres => q r G' H' n hres) (fun v s' z => ?_) fun _ _ e => e
  obtain ⟨r, H', rfl, I', hq⟩ := z
  exact ⟨r, rfl, .bl (!r), H', I', rfl, hq⟩
end
end Oh
set_option maxHeartbeats 4000000
/-! OiD: == of floors and worlds as expressions, != of books. -/
namespace Oh
open PySem L2 PySem.Spec PyProof.Rows
section
variable {C : Ct} {A : AS} {a b : Expr} {pos : Pos} {k : Nat} {Cl : Addr} {c : Con}
theorem on_has {X : Cx} (hX : C.On X) {m : Str} (F : HasM C.ga k Cl m c) : HasM ⟨X.prog, X.w, X.K, X.mg, X.base⟩ k Cl m c := by
  have e : (⟨X.prog, X.w, X.K, X.mg, X.base⟩ : Ga) = C.ga := by rw [hX.prog, hX.w, hX.K, hX.mg, hX.base]
  rw [e]
  exact F
theorem ins_of {K : PySem.W.Frag} {m : Str} {d : Ab} (hi : Inst K d Cl m) {G : Hp} {v : V} (h : Is K G v d) : ∃ a dx fs, v = .ref a ∧ G a = some (.ins Cl dx fs) := let ⟨a, dx, fs, h1, h2, _⟩ := hi G v h; ⟨a, dx, fs, h1, h2⟩
theorem rv_own {neg r : Bool} {d e : Ab} (g : c.α) (hp : c.pre g) (hc : c.args g = [d, e]) (hd : Inst C.K d Cl "__eq__") (he : Inst C.K e Cl "__eq__") (hv : ∀ z, c.res g (.dat (.bool z)) → z = r) : RV C.K (rOwn C.K Cl c neg) d e (fun z => z = .dat (.bool (if neg then !r else r))) := fun x y G H ex i1 i2 Q q => by
  obtain ⟨a, dx, fs, rfl, h1⟩ := ins_of hd i1
  obtain ⟨b, dy, gs, rfl, h2⟩ := ins_of he i2
  refine ⟨a, b, dx, dy, fs, gs, g, G, rfl, rfl, ex.at_ _ _ (by exact trivial) h1, ex.at_ _ _ (by exact trivial) h2, hp, ex, by rw [hc]; exact ⟨i1, i2, trivial⟩, fun z G' H' n hz => ?_⟩
  rw [hv z hz]
  exact q _ G' H' _ n rfl mk_bool
theorem xc_own {r : Bool} {d e : Ab} (F : HasM C.ga k Cl "__eq__" c) (hbc : BoolC c) (hk : k + 1 ≤ C.k) (ha : Xd C a A d) (hb : Xd C b A e) (g : c.α) (hp : c.pre g) (hc : c.args g = [d, e]) (hd : Inst C.K d Cl "__eq__") (he : Inst C.K e Cl "__eq__") (hv : ∀ z, c.res g (.dat (.bool z)) → z = r) : Xdc C (.Compare a [.Eq] [b] pos) A (.dat (.bool r)) :=
  xe_cmp (r := rOwn C.K Cl c false) (fun X hX => by have q := op_own (on_has hX F) hbc (hX.room.mono hk); rw [hX.K] at q; exact q) ha hb (rv_d (rv_own (neg := false) g hp hc hd he hv))
theorem xc_ownNe {r : Bool} {d e : Ab} (F : HasM C.ga k Cl "__eq__" c) (E : EqF C.K Cl) (hbc : BoolC c) (hk : k + 1 ≤ C.k) (ha : Xd C a A d) (hb : Xd C b A e) (g : c.α) (hp : c.pre g) (hc : c.args g = [d, e]) (hd : Inst C.K d Cl "__eq__") (he : Inst C.K e Cl "__eq__") (hv : ∀ z, c.res g (.dat (.bool z)) → z = r) : Xdc C (.Compare a [.NotEq] [b] pos) A (.dat (.bool (!r))) :=
  xe_cmp (r := rOwn C.K Cl c true) (fun X hX => by have q := op_ownNe (on_has hX F) (by rw [hX.K]; exact E) hbc (hX.room.mono hk); rw [hX.K] at q; exact q) ha hb (rv_d (rv_own (neg := true) g hp hc hd he hv))
theorem boolD {α : Type} {pre : α → Prop} {args : α → List Ab} {f : α → Bool} : BoolC (conD pre args fun g => .dat (.bool (f g))) := fun g z h => ⟨f g, h⟩
end
/-! ### books -/
section
variable {A : Around} {s : Shared}
theorem book_hits {kb : List (Key × Value)} {bk2 : List (Nat × T8)} (r2 : KV (bkK bk2) kb) : ∀ (bk : List (Nat × T8)) (ka : List (Key × Value)), KV (bkK bk) ka → (∀ p ∈ bk, ∃ u, lkB bk2 p.1 = some u) → PySem.W.KeqHits A s kb ka (bk.all fun p => decide (lkB bk2 p.1 = some p.2))
  | [], _, r, _ => by
    cases r
    exact .nil
  | p :: bk, _, r, h => by
    cases r with
    | @cons a b as bs h1 t =>
      obtain ⟨u, hu⟩ := h p List.mem_cons_self
      obtain ⟨kk, y⟩ := b
      have hk : Sum.inr (tx [p.1]) = kk := h1.1
      subst hk
      obtain ⟨t1, rfl⟩ : ∃ t1, y = Value.str (tx (tt p.2)) t1 := h1.2
      have hv := r2.val (Sum.inr (tx [p.1]))
      rw [bkK_lk, hu] at hv
      cases e : valueAt kb (Sum.inr (tx [p.1])) with
      | none =>
        rw [e] at hv
        exact hv.elim
      | some z =>
        rw [e] at hv
        obtain ⟨t2, rfl⟩ : ∃ t2, z = Value.str (tx (tt u)) t2 := hv
        have ih := book_hits r2 bk bs t fun q hq => h q (List.mem_cons_of_mem _ hq)
        rw [List.all_cons, hu]
        have e2 : decide (some u = some p.2) = (tx (tt p.2) == tx (tt u)) := by
          by_cases hh : u = p.2
          · rw [hh]; simp
          · have : ¬ tx (tt p.2) = tx (tt u) := fun q => hh (tt_inj _ _ (tx_inj q)).symm
            simp [hh, this]
        rw [e2]
        exact .hit e (SeqAt.EqAt.str_str _ _ _ _) ih
end
theorem book_all : ∀ {b1 b2 b3 : List (Nat × T8)}, b1.map Prod.fst = b2.map Prod.fst → ((b3 ++ b2).map Prod.fst).Nodup → (b1.all fun p => decide (lkB (b3 ++ b2) p.1 = some p.2)) = decide (b1 = b2)
  | [], [], _, _, _ => by simp
  | [], _ :: _, _, h, _ => by cases h
  | _ :: _, [], _, h, _ => by cases h
  | p :: b1, q :: b2, b3, h, hn => by
    rw [List.map_cons, List.map_cons] at h
    injection h with h1 h2
    have e : lkB (b3 ++ q :: b2) p.1 = some q.2 := by
      rw [h1]
      exact lkB_mem hn (by simp)
    have e2 : b3 ++ q :: b2 = (b3 ++ [q]) ++ b2 := by simp
    rw [List.all_cons, e, e2, book_all h2 (by rw [← e2]; exact hn)]
    obtain ⟨p1, p2⟩ := p
    obtain ⟨q1, q2⟩ := q
    have h1' : p1 = q1 := h1
    subst h1'
    by_cases x : q2 = p2
    · subst x
      by_cases y : b1 = b2 <;> simp [y]
    · have x' : ¬ p2 = q2 := fun z => x z.symm
      simp [x, x']
def rNeBk : R2 := fun x y H Q => ∃ a b bk1 bk2, x = V.ref a ∧ y = V.ref b ∧ Rd H a (.dK (bkK bk1)) ∧ Rd H b (.dK (bkK bk2)) ∧ bk1.map Prod.fst = bk2.map Prod.fst ∧ (bk2.map Prod.fst).Nodup ∧ Q (.bl (!decide (bk1 = bk2))) H
theorem op_neBk {X : Cx} (hu : X.A.units < cLine) : OpR X (compareOp .NotEq) rNeBk := by
  intro pins s σ H x y v u Q I rx ry h
  obtain ⟨a, b, bk1, bk2, rfl, rfl, h1, h2, hk, hn, q⟩ := h
  cases rx
  cases ry
  obtain ⟨_, ha, vs1, r1, d1⟩ := dk_rd I.hok h1
  obtain ⟨_, hb, vs2, r2, d2⟩ := dk_rd I.hok h2
  have hl1 : vs1.length = bk1.length := by rw [← r1.length]; unfold bkK; rw [List.length_map]
  have hl2 : vs2.length = bk2.length := by rw [← r2.length]; unfold bkK; rw [List.length_map]
  have hl : bk1.length = bk2.length := by simpa using congrArg List.length hk
  have hall := book_all (b3 := []) hk hn
  refine PySem.W.keq_ne ha hb d1 d2 hu (fun _ => book_hits r2 bk1 vs1 r1 fun p hp => ?_) ?_
  · have hm : p.1 ∈ bk2.map Prod.fst := by rw [← hk]; exact List.mem_map.mpr ⟨p, hp, rfl⟩
    obtain ⟨w, hw, e⟩ := List.mem_map.mp hm
    exact ⟨w.2, by rw [← e]; exact lkB_mem hn hw⟩
  · rw [List.nil_append] at hall
    rw [hall, hl1, hl2, hl]
    refine ⟨.bl (!decide (bk1 = bk2)), H, I, ?_, q⟩
    simp [L2.RelV]
section
variable {C : Ct} {A : AS} {a b : Expr} {pos : Pos}
theorem xc_neBk {b1 b2 : List (Nat × T8)} (ha : Xd C a A (.book b1)) (hb : Xd C b A (.book b2)) (hk : b1.map Prod.fst = b2.map Prod.fst) (hn : (b2.map Prod.fst).Nodup) : Xdc C (.Compare a [.NotEq] [b] pos) A (.dat (.bool (!decide (b1 = b2)))) :=
  xe_cmp (fun X hX => op_neBk hX.room.units0) ha hb (rv_d fun x y G H e i1 i2 Q q => by
    obtain ⟨p, rfl, h1⟩ := i1
    obtain ⟨p', rfl, h2⟩ := i2
    exact ⟨p, p', b1, b2, rfl, rfl, e.dk h1, e.dk h2, hk, hn, fin e q rfl mk_bool⟩)
end
end Oh
set_option maxHeartbeats 8000000
/-! OiE: set(..) of a tuple of tuples of ints. -/
namespace L2
open PySem PySem.Spec PyProof.Rows
section
variable {P : Program} {w : World} {A : Around} {E : Value → Shared → Prop} {s : Shared}
/-- the empty set as a call lays it -/
abbrev newSet (w : World) : Obj := { cls := .type "set", dict := none, data := .set #[] 0 (.fresh 0 0 (!w.params.followText "set-order")) }
theorem set_of_tuple {q : Addr} {vals : Array Value} (ks : List (Addr × List Int)) {Q : Value → Shared → Prop} (hh : A.handled = none) (hq : s.heap.IsTuple q vals) (hv : vals.toList = ks.map fun p => Value.ref p.1)
    (hk : ∀ p ∈ ks, IsT P w s.heap p.2 p.1) (few : ks.length < 64) (room : A.units + 3 < cLine)
    (fin : ∀ (g : Heap) (tk : Nat) L es ep t, SetTR P w g s.heap.objs.size L es ep t → Got ks ks.length L → (∀ b o, s.heap.get? b = some o → g.get? b = some o) → Q (.ref s.heap.objs.size) { s with heap := g, toks := tk }) :
    wpAny (model P w) A (call (.type "set") [.ref q]) Q E s := by
  have size_eq : vals.size = ks.length := by
    have z := congrArg List.length hv
    rw [Array.length_toList, List.length_map] at z
    exact z
  obtain ⟨c, tl, hmro⟩ := F.called_set.mro
  have i1 := F.called_set.made
  have i2 := F.called_set.sub
  have i3 := F.called_set.notType
  have i4 := F.called_set.canCreate
  have i5 := F.typeCall_set_1 (.ref q)
  have base_get : (s.heap.push (newSet w)).get? s.heap.objs.size = some (newSet w) := Heap.get?_push_size _ rfl
  refine wpAny_call (codeAny_of_tree ?_)
  show wpAny _ _ (callAny (.type "set") _) _ _ _
  refine wpAny_pure ⟨Code.quiet_builtin _ (by decide +kernel), codeAny_builtin F.entry_type_call ?_⟩
  rw [Around.under_plain (weight_type_call_type "set" [.ref q] []) rfl]
  repeat (any_goals (first | assumption | wp_step))
  refine codeAny_mono (code_set_led1 (.ref q) (E := E) (Q₁ := fun obj s₁ => obj = .ref s.heap.objs.size ∧ s₁ = { s with heap := s.heap.push (newSet w) }) ⟨rfl, rfl⟩) fun r s₁ hr => ?_
  cases r with
  | error e => exact hr
  | ok fl =>
    cases fl with
    | ret obj =>
      obtain ⟨rfl, rfl⟩ := hr
      have at_new : Shared.TypeIs { s with heap := s.heap.push (newSet w) } (.ref s.heap.objs.size) "set" := ⟨_, base_get, rfl⟩
      have j1 := F.called_set.init.lookup
      have j2 := F.called_set.init.bind (.ref s.heap.objs.size)
      repeat (any_goals (first | assumption | wp_step))
      refine codeAny_mono (codeAny_call_builtin (R := wants (fun r u => r = .none ∧ ∃ g tk L es ep t, u = { s with heap := g, toks := tk } ∧ SetTR P w g s.heap.objs.size L es ep t ∧ Got ks ks.length L ∧
          (∀ b o, s.heap.get? b = some o → g.get? b = some o)) E) F.called_set.init.plain F.entry_set_init (check_set_init_1 at_new ?_)) fun r₂ s₂ hr₂ => ?_
      · have hq1 : (s.heap.push (newSet w)).IsTuple q vals := hq.push _
        obtain ⟨oq, hoq, hcl, hdq⟩ := hq
        have hsls := F.sub_tuple_set
        have hslf := F.sub_tuple_frozenset
        have hne : (Value.type "tuple" == Value.type "dict") = false := by decide
        have hoq' := Heap.get?_push_of_some (newSet w) hoq
        obtain ⟨ocls, odict, odata, oslots⟩ := oq
        simp only at hcl
        subst hcl
        unfold Builtin.«set.__init__» noKeywords Builtin.Frozenset.updateFrom
        generalize hPI : pyIter = PI
        wp_walk
        subst hPI
        refine wpAny_pyIter_tuple hq1 ?_
        refine wpAny_bind (wpAny_runValue ?_)
        have hqS : q < s.heap.objs.size := Heap.lt_size hoq
        have hh3 : A.in1.in1.in1.handled = none := by simp [hh]
        have hneI : q ≠ (s.heap.push (newSet w)).objs.size := by
          rw [Heap.size_push]; exact Nat.ne_of_lt (Nat.lt_succ_of_lt hqS)
        have hSf : s.heap.objs.size ∉ [(s.heap.push (newSet w)).objs.size, q] := by
          rw [Heap.size_push]; simp only [List.mem_cons, List.mem_singleton, List.not_mem_nil, or_false, not_or]
          exact ⟨Nat.ne_of_lt (Nat.lt_succ_self _), Nat.ne_of_gt hqS⟩
        have hval : ∀ (i : Nat) (v : Value), vals[i]? = some v → ∃ p, ks[i]? = some p ∧ v = .ref p.1 := fun i v hi => by
          have z : vals.toList[i]? = some v := by rw [Array.getElem?_toList]; exact hi
          rw [hv, List.getElem?_map] at z
          cases hz : ks[i]? with
          | none => rw [hz] at z; cases z
          | some p =>
            rw [hz] at z
            exact ⟨p, rfl, (Option.some.inj z).symm⟩
        have none_of : ∀ b, s.heap.objs.size ≤ b → s.heap.get? b = none := fun b hb => by
          cases z : s.heap.get? b with
          | none => rfl
          | some o => exact absurd (Nat.lt_of_lt_of_le (Heap.lt_size z) hb) (Nat.lt_irrefl _)
        refine set_update_tups ((Walks.tuple hh3 _ q hneI vals).toS) s.heap.objs.size
          hSf ks size_eq few hval s.heap hk (none_of _ (Nat.le_refl _)) (fun b hb => none_of b (by
            rw [List.mem_singleton.mp hb, Heap.size_push]
            exact Nat.le_succ _)) room (vals.size - 0) 0 _ (by omega) (Nat.zero_le _)
          ⟨⟨_, Heap.get?_push_size _ rfl, rfl, rfl⟩, (hq1.push _)⟩ (fun b o e => Heap.get?_push_of_some _ (Heap.get?_push_of_some _ e)) ?begin ?last
        case begin =>
          exact ⟨[], #[], 0, _, setTR_fresh (Heap.get?_push_of_some _ base_get), Got.zero ks⟩
        case last =>
          intro u L es ep t hm hS g hkp
          obtain ⟨h2, g2, d2, tk, o2⟩ := u
          have eg : g2 = s.gens := hm.gens
          have ed : d2 = s.drawn := hm.drawn
          have eo : o2 = s.os := hm.os
          subst eg; subst ed; subst eo
          show wpAny _ _ _ _ _ _
          refine wpAny_pure ?_
          show wpAny _ _ (ret Value.none) _ _ _
          rw [size_eq] at g
          exact wpAny_pure ⟨rfl, h2, tk, L, es, ep, t, rfl, hS, g, hkp⟩
      · cases r₂ with
        | error e => exact hr₂
        | ok fl₂ =>
          cases fl₂ with
          | ret r =>
            obtain ⟨rfl, h2, tk, L, es, ep, t, rfl, hS, g, hkp⟩ := hr₂
            repeat (any_goals (first | assumption | wp_step))
            exact fin _ _ _ _ _ _ hS g hkp
          | _ => exact hr₂.elim
    | _ => exact hr.elim
end
end L2
set_option maxHeartbeats 8000000
/-! OiF: len(set(xs)) and sorted(xs), xs a list or a tuple of tuples of ints. -/
namespace L2
open PySem PySem.Spec PyProof.Rows
section
variable {P : Program} {w : World} {A : Around} {E : Value → Shared → Prop} {s : Shared}
/-- an address that the world of heaps knows holds an object -/
theorem objAt {H : Hp} {h : Heap} {a : Addr} {o : HO} (x : ObjOk P w H h a o) : ∃ u, h.get? a = some u := by
  cases o with
  | lst xs => exact let ⟨_, _, _, _, e⟩ := x; ⟨_, e⟩
  | tup xs => exact let ⟨_, _, _, ⟨o, e, _⟩⟩ := x; ⟨_, e⟩
  | dK kvs => exact let ⟨_, _, _, _, o, _, _, e, _⟩ := x; ⟨_, e⟩
  | dT kvs => exact let ⟨_, _, _, _, o, _, _, e, _⟩ := x; ⟨_, e⟩
  | set S n => exact let ⟨o, _, _, _, e, _⟩ := x; ⟨_, e⟩
  | ins C dx fs => exact let ⟨_, _, _, e, _⟩ := x; ⟨_, e⟩
  | own y => exact x
  | xd fs => exact let ⟨_, ⟨_, _, _, e, _⟩, _⟩ := x; ⟨_, e⟩
  | rng lo hi => exact let ⟨_, _, _, e⟩ := x; ⟨_, e⟩
  | frz ob u => exact let ⟨e, _⟩ := x; ⟨_, e⟩
  | tbl ps => exact ⟨_, x⟩
  | met f y => exact ⟨_, x⟩
  | ext φ => exact let ⟨_, e, _⟩ := x; e
/-- sorted(xs) of a tuple of tuples of ints -/
theorem sorted_of_tuple {l : Addr} {vs : List Value} {d : Nat} {B : Int} {Q : Value → Shared → Prop} (hl : s.heap.IsTuple l vs.toArray) (h64 : vs.length < 64) (hd : 1 ≤ d) (x : TS.TupsOk s.heap d B vs)
    (fin : ∀ (out : Array Value) (g : Heap) (p : Addr), out.toList.Perm vs → out.toList.Pairwise (fun u v => TS.code B (TS.intsOf s.heap u) ≤ TS.code B (TS.intsOf s.heap v)) → s.heap.get? p = none →
      (∀ b o, s.heap.get? b = some o → g.get? b = some o) → (∃ e, g.get? p = some (seqObj "list" out e)) → Q (.ref p) { s with heap := g }) :
    wpAny (model P w) A (call (.builtin "sorted") [.ref l]) Q E s := by
  obtain ⟨o, ho, hc, n, hdt⟩ := hl
  refine Calls.call_function_entry kind_sorted plain_sorted entry_sorted (args_sorted1 _) ?_
  unfold Builtin.«sorted»
  refine wpAny_bind (m := checkCount "sorted" 1 1 _) (wpAny_pure ?_)
  refine wpAny_bind (wpAny_collect_seq l (.inr rfl) ho hc hdt (fun g1 keep1 => ?_) (by rw [sizeLine_eq, List.size_toArray]; omega))
  refine wpAny_bind (wpAny_newList ?_ (by rw [sizeLine_eq]; show vs.length ≤ _; omega))
  have new1 : s.heap.get? g1.objs.size = none := by
    cases y : s.heap.get? g1.objs.size with
    | none => rfl
    | some oo => exact absurd (Heap.lt_size (keep1 _ _ y)) (Nat.lt_irrefl _)
  have at_new : (g1.push (seqObj "list" vs.toArray 0)).get? g1.objs.size = some (seqObj "list" vs.toArray 0) := Heap.get?_push_size _ rfl
  have keep2 : ∀ b o, s.heap.get? b = some o → (g1.push (seqObj "list" vs.toArray 0)).get? b = some o := fun b o q => Heap.get?_push_of_some _ (keep1 b o q)
  refine wpAny_bind (wpAny_holding (wpAny_call_entry slot_list_sort ⟨_, at_new, rfl⟩ entry_list_sort (TS.sort_tups (s := { s with heap := g1.push (seqObj "list" vs.toArray 0) }) at_new h64 hd (x.keeps fun b o q _ => keep2 b o q) (fun v => TS.code B (TS.intsOf s.heap v)) (fun v hv ns t => ?_) fun out a1 a2 => ⟨_, rfl, ?_⟩) (args_list_sort _)))
  · obtain ⟨ns0, t0, _⟩ := x v hv
    have e : ns = ns0 := t.ints.symm.trans (t0.keeps fun b o q _ => keep2 b o q).ints
    rw [e]
    show TS.code B (TS.intsOf s.heap v) = TS.code B ns0
    rw [t0.ints]
  · refine wpAny_pure ⟨_, rfl, fin out _ _ a1 a2 new1 (fun b o q => ?_) ?_⟩
    · have lt : b < g1.objs.size := Heap.lt_size (keep1 b o q)
      show (sortedHeap _ _ _ _).get? b = _
      rw [sortedHeap_old (Nat.ne_of_lt lt) (by rw [Heap.size_push]; exact Nat.lt_succ_of_lt lt)]
      exact keep2 b o q
    · exact sortedHeap_at at_new
end
section
variable {X : Cx}
theorem cr_sortTt {d : Nat} {B : Int} (hd : 1 ≤ d) : CallR X (.builtin "sorted") (fun vs H Q => ∃ (a : Addr) (xs : List V), vs = [V.ref a] ∧ SqT X.K H a xs ∧ xs.length < 64 ∧ (∀ x ∈ xs, ∃ ns, TupI X.K H x ns ∧ ns.length = d ∧ TS.Bd B ns) ∧
  ∀ (ys : List V) (p : Addr), ys.Perm xs → ys.Pairwise (fun x y => ∀ n m, TupI X.K H x n → TupI X.K H y m → TS.code B n ≤ TS.code B m) → H p = none → Q (.ref p) (upd H p (.lst ys))) := by
  intro pins s σ H vs us Q I r h
  obtain ⟨a, xs, rfl, hs, h64, hx, q⟩ := h
  obtain ⟨its, rv, hl, hz⟩ := I.tuple hs
  rw [Vals.ref1 r]
  obtain ⟨e1, e2⟩ := bkV_refs rv fun x m => by
    obtain ⟨ns, ⟨t, e, _⟩, _⟩ := hx x m
    exact ⟨t, e⟩
  obtain ⟨o, ho, hc, n, hdt⟩ := hl
  refine sorted_of_tuple (vs := its) (d := d) (B := B) ⟨o, ho, hc, n, hdt⟩ (by rw [← rv.length]; exact h64) hd (fun v hv => ?_) fun out g p h1 h2 hp hk he => ?_
  · obtain ⟨t, rfl⟩ := e2 v hv
    have hm : V.ref t ∈ xs := by
      rw [e1]
      exact List.mem_map.mpr ⟨_, hv, rfl⟩
    obtain ⟨ns, ⟨t', e, ht⟩, hn, hb⟩ := hx _ hm
    cases e
    exact ⟨ns, tupI_raw I ht, hn, hb⟩
  · obtain ⟨ep, he'⟩ := he
    have hn : H p = none := by
      cases y : H p with
      | none => rfl
      | some u =>
        obtain ⟨oo, z⟩ := objAt (I.hok p u y)
        rw [hp] at z
        cases z
    have h3 : ∀ u ∈ out.toList, ∃ a, u = Value.ref a := fun u hu => e2 u (h1.mem_iff.mp hu)
    have hpm : (out.toList.map bkV).Perm xs := by
      rw [e1]
      exact h1.map bkV
    have hlen : (out.toList.map bkV).length ≤ sizeLine := by
      rw [hpm.length_eq]
      exact hz
    refine ⟨.ref _, upd H p (.lst (out.toList.map bkV)), I.laidN (t' := s.toks) hk hp hn ⟨hlen, out.toList, ep, bkV_vals h3, he'⟩, rfl, q _ _ hpm ?_ hn⟩
    rw [List.pairwise_map]
    refine List.Pairwise.imp (fun {u v} huv n m hn hm => ?_) h2
    obtain ⟨t, et, ht⟩ := hn
    obtain ⟨t', et', ht'⟩ := hm
    have i1 : TS.intsOf s.heap u = n := by
      rw [bkV_ref et]
      exact (tupI_raw I ht).ints
    have i2 : TS.intsOf s.heap v = m := by
      rw [bkV_ref et']
      exact (tupI_raw I ht').ints
    rw [← i1, ← i2]
    exact huv
/-- len(set(xs)) of distinct tuples of ints -/
def tLenSetP (K : PySem.W.Frag) (ta : TE) : TE := fun σ H Q => ta σ H fun x H1 => ∃ (l : Addr) (ks : List (Addr × List Int)), x = V.ref l ∧ (SqL K H1 l (ks.map fun p => V.ref p.1) ∨ SqT K H1 l (ks.map fun p => V.ref p.1)) ∧ (∀ p ∈ ks, SqT K H1 p.1 (p.2.map V.int)) ∧
  ks.length < 64 ∧ (ks.map (·.2)).Nodup ∧ Q (.int ks.length) H1
theorem pe_lenSetP {a : Expr} {ta : TE} {p p2 q pos : Pos} (hc : X.calm = true) (hu : X.A.units + 64 < cLine) (hg : Gl X "len") (hm : X.mg "len" = none) (hg2 : Gl X "set") (hm2 : X.mg "set" = none) (ha : PE X a ta)
    (na : starEach [a] X.env = (false, eval a X.env) :: starEach [] X.env) : PE X (.Call (.Name "len" p) [.Call (.Name "set" p2) [a] [] q] [] pos) (tLenSetP X.K ta) := by
  refine ⟨fun pins s σ H Q I h => ?_⟩
  refine Call_ (ld_blt I hg hm PySem.boot_len ?_)
  refine PyProof.Rows.callWith_builtin1 (PyProof.Rows.args_cons ?_ rfl) rfl rfl
  refine Call_ (ld_blt I hg2 hm2 PyProof.Rows.boot_set ?_)
  refine PyProof.Rows.callWith_type1 (PyProof.Rows.args_cons (thn (ha.run pins s σ H _ I h) fun v s1 ⟨x, H1, I1, r1, q1⟩ => PyProof.Rows.args_nil ?_) na) na rfl
  obtain ⟨l, ks, rfl, hq, hk, h1, hnd, q1⟩ := q1
  cases r1
  have close : ∀ (h' : Heap) (tk : Nat) L es ep t, SetTR X.prog X.w h' s1.heap.objs.size L es ep t → Got ks ks.length L → (∀ b o, s1.heap.get? b = some o → h'.get? b = some o) →
      wpAny (model X.prog X.w) X.A (call (.builtin "len") [.ref s1.heap.objs.size]) (EP X pins σ Q) X.xe { s1 with heap := h', toks := tk } := fun h' tk L es ep t R g k => by
    have perm : (L.map (·.2)).Perm (ks.map (·.2)) := by
      refine (List.perm_ext_iff_of_nodup R.nd hnd).mpr fun z => ⟨fun hz => ?_, fun hz => ?_⟩
      · obtain ⟨r, hr, rfl⟩ := List.mem_map.mp hz
        exact List.mem_map.mpr ⟨r, List.mem_of_mem_take (g.sub r hr), rfl⟩
      · obtain ⟨r, hr, rfl⟩ := List.mem_map.mp hz
        exact g.all r (by rw [List.take_length]; exact hr)
    have len : es.size = ks.length := by
      have z := perm.length_eq
      rw [List.length_map, List.length_map] at z
      rw [SetTR.size (s := { s1 with heap := h', toks := tk }) R, z]
    have ft := SetTR.fits (s := { s1 with heap := h', toks := tk }) R
    obtain ⟨o, ho, hex, hd⟩ := R.ob
    have I2 : Inv X pins σ H1 { s1 with heap := h', toks := tk } := I1.kept k
    exact call_len_set ho hex hd ft (by rw [len] <;> omega) ⟨.int ks.length, H1, I2.tok _, ⟨_, by rw [len]⟩, q1⟩
  rcases hq with hq | hq
  · obtain ⟨its, rv, pl, hz⟩ := I1.list hq
    refine call_set_tups (P := X.prog) (w := X.w) ks (I1.ok.hd hc) pl.isList (by simpa using refs_of_vals rv) (fun p hp => I1.isT (hk p hp)) h1 (by omega) fun h' tk L es ep t R g k => PyProof.Rows.args_nil ?_
    exact close h' tk L es ep t R g k
  · obtain ⟨its, rv, ⟨o, ho, hcl, n, hdt⟩, hz⟩ := I1.tuple hq
    refine set_of_tuple (P := X.prog) (w := X.w) ks (I1.ok.hd hc) ⟨o, ho, hcl, n, hdt⟩ (by simpa using refs_of_vals rv) (fun p hp => I1.isT (hk p hp)) h1 (by omega) fun h' tk L es ep t R g k => PyProof.Rows.args_nil ?_
    exact close h' tk L es ep t R g k
end
end L2
set_option maxHeartbeats 8000000
/-! OiG: sorted places as expressions. -/
namespace Oh
open PySem L2 PySem.Spec PyProof.Rows
/-! ### the plain sort -/
/-- the order of places (all in [0, 64)) -/
def le2 (p q : Pl) : Prop := p.1 * 64 + p.2 ≤ q.1 * 64 + q.2
instance (p q : Pl) : Decidable (le2 p q) := by unfold le2; infer_instance
def putP (p : Pl) : List Pl → List Pl
  | [] => [p]
  | q :: r => if le2 p q then p :: q :: r else q :: putP p r
def sP : List Pl → List Pl
  | [] => []
  | p :: r => putP p (sP r)
/-- each place once -/
def dP : List Pl → List Pl
  | [] => []
  | p :: r => if p ∈ r then dP r else p :: dP r
def P64 (p : Pl) : Prop := 0 ≤ p.1 ∧ p.1 < 64 ∧ 0 ≤ p.2 ∧ p.2 < 64
theorem putP_perm (p : Pl) : ∀ l : List Pl, (putP p l).Perm (p :: l)
  | [] => List.Perm.refl _
  | q :: r => by
    unfold putP
    split
    · exact List.Perm.refl _
    · exact ((putP_perm p r).cons q).trans (List.Perm.swap p q r)
theorem sP_perm : ∀ l : List Pl, (sP l).Perm l
  | [] => List.Perm.refl _
  | p :: r => (putP_perm p (sP r)).trans ((sP_perm r).cons p)
theorem le2_all (p q : Pl) (h : ¬ le2 p q) : le2 q p := by
  unfold le2 at *
  omega
theorem putP_pw (p : Pl) : ∀ l : List Pl, l.Pairwise le2 → (putP p l).Pairwise le2
  | [], _ => List.pairwise_singleton _ _
  | q :: r, h => by
    obtain ⟨h1, h2⟩ := List.pairwise_cons.mp h
    unfold putP
    split
    · rename_i c
      refine List.pairwise_cons.mpr ⟨fun z hz => ?_, h⟩
      rcases List.mem_cons.mp hz with e | e
      · rw [e]
        exact c
      · have := h1 z e
        unfold le2 at *
        omega
    · rename_i c
      refine List.pairwise_cons.mpr ⟨fun z hz => ?_, putP_pw p r h2⟩
      rcases List.mem_cons.mp ((putP_perm p r).mem_iff.mp hz) with e | e
      · rw [e]
        exact le2_all _ _ c
      · exact h1 z e
theorem sP_pw : ∀ l : List Pl, (sP l).Pairwise le2
  | [] => List.Pairwise.nil
  | p :: r => putP_pw p _ (sP_pw r)
theorem le2_anti {p q : Pl} (hp : P64 p) (hq : P64 q) (h : le2 p q) (k : le2 q p) : p = q := by
  obtain ⟨a, b⟩ := p
  obtain ⟨c, d⟩ := q
  unfold le2 at *
  unfold P64 at *
  dsimp only at *
  have e1 : a = c := by omega
  have e2 : b = d := by omega
  rw [e1, e2]
theorem sP_unique {l qs : List Pl} (hl : ∀ p ∈ l, P64 p) (hp : qs.Perm l) (hw : qs.Pairwise le2) : qs = sP l :=
  List.Perm.eq_of_pairwise (fun a b ha hb h k => le2_anti (hl a (hp.mem_iff.mp ha)) (hl b ((sP_perm l).mem_iff.mp hb)) h k) hw (sP_pw l) (hp.trans (sP_perm l).symm)
theorem mem_dP {z : Pl} : ∀ {l : List Pl}, z ∈ dP l ↔ z ∈ l
  | [] => Iff.rfl
  | p :: r => by
    unfold dP
    split
    · rename_i c
      rw [mem_dP, List.mem_cons]
      refine ⟨Or.inr, fun h => h.elim (fun e => ?_) id⟩
      rw [e]
      exact c
    · rw [List.mem_cons, List.mem_cons, mem_dP]
theorem dP_nodup : ∀ l : List Pl, (dP l).Nodup
  | [] => List.nodup_nil
  | p :: r => by
    unfold dP
    split
    · exact dP_nodup r
    · rename_i c
      exact List.nodup_cons.mpr ⟨fun h => c (mem_dP.mp h), dP_nodup r⟩
theorem dP_self : ∀ {l : List Pl}, l.Nodup → dP l = l
  | [], _ => rfl
  | p :: r, h => by
    obtain ⟨h1, h2⟩ := List.nodup_cons.mp h
    unfold dP
    rw [if_neg h1, dP_self h2]
/-- the ints of a place -/
def ip (p : Pl) : List Int := [p.1, p.2]
theorem ip_inj {p q : Pl} (h : ip p = ip q) : p = q := by
  obtain ⟨a, b⟩ := p
  obtain ⟨c, d⟩ := q
  cases h
  rfl
theorem ip_code (p : Pl) : TS.code 64 (ip p) = p.1 * 64 + p.2 := code_pair _ _
theorem ip_bd {p : Pl} (h : P64 p) : TS.Bd 64 (ip p) := by
  obtain ⟨h1, h2, h3, h4⟩ := h
  intro z hz
  rcases List.mem_cons.mp hz with e | e
  · rw [e]
    exact ⟨h1, h2⟩
  · rw [List.mem_singleton.mp e]
    exact ⟨h3, h4⟩
section
variable {K : PySem.W.Frag} {G H : Hp}
/-- a place as a value -/
theorem dp_pl {v : V} {p : Pl} (h : Dp K G v (pP p)) : ∃ a, v = .ref a ∧ SqT K G a ((ip p).map V.int) := by
  obtain ⟨a, vs, rfl, h1, h2⟩ := is_tup (h : Is K G v (.dat (.tuple [.int p.1, .int p.2])))
  refine ⟨a, rfl, ?_⟩
  have e := dps_ints (is := [p.1, p.2]) h2
  rw [e] at h1
  exact h1
theorem dp_of_pl {a : Addr} {p : Pl} (h : SqT K G a ((ip p).map V.int)) : Dp K G (.ref a) (pP p) := Dp.tup h (.cons (.int _) (.cons (.int _) .nil))
theorem dps_pls : ∀ {ps : List Pl} {vs : List V}, DpAll K G vs (ps.map pP) → ∃ ks : List (Addr × List Int), vs = ks.map (fun r => V.ref r.1) ∧ ks.map (·.2) = ps.map ip ∧ ∀ r ∈ ks, SqT K G r.1 (r.2.map V.int)
  | [], _, .nil => ⟨[], rfl, rfl, fun _ h => nomatch h⟩
  | p :: ps, _, .cons h t => by
    obtain ⟨a, rfl, h1⟩ := dp_pl h
    obtain ⟨ks, rfl, h2, h3⟩ := dps_pls t
    refine ⟨(a, ip p) :: ks, rfl, by rw [List.map_cons, List.map_cons, h2], fun r hr => ?_⟩
    rcases List.mem_cons.mp hr with e | e
    · rw [e]
      exact h1
    · exact h3 r e
theorem dps_of_ks : ∀ {ps : List Pl} {ks : List (Addr × List Int)}, ks.map (·.2) = ps.map ip → (∀ r ∈ ks, SqT K G r.1 (r.2.map V.int)) → DpAll K G (ks.map fun r => V.ref r.1) (ps.map pP)
  | [], [], _, _ => .nil
  | [], _ :: _, e, _ => nomatch e
  | _ :: _, [], e, _ => nomatch e
  | p :: ps, r :: ks, e, h => by
    obtain ⟨e1, e2⟩ := List.cons.inj e
    have h1 := h r List.mem_cons_self
    rw [show r.2 = ip p from e1] at h1
    exact .cons (dp_of_pl h1) (dps_of_ks e2 fun z hz => h z (List.mem_cons_of_mem _ hz))
theorem ks_len {ps : List Pl} {ks : List (Addr × List Int)} (e : ks.map (·.2) = ps.map ip) : ks.length = ps.length := by
  have z := congrArg List.length e
  rw [List.length_map, List.length_map] at z
  exact z
/-- a list of places laid otherwise -/
theorem dps_perm : ∀ {ys vs : List V}, ys.Perm vs → ∀ {ps : List Pl}, DpAll K G vs (ps.map pP) → ∃ qs : List Pl, qs.Perm ps ∧ DpAll K G ys (qs.map pP) := by
  intro ys vs h
  induction h with
  | nil => intro ps h; exact ⟨ps, List.Perm.refl _, h⟩
  | cons x _ ih =>
    intro ps h
    cases ps with
    | nil => cases h
    | cons p ps =>
      cases h with
      | cons h t =>
        obtain ⟨qs, h1, h2⟩ := ih t
        exact ⟨p :: qs, h1.cons p, .cons h h2⟩
  | swap x y l =>
    intro ps h
    cases ps with
    | nil => cases h
    | cons p ps =>
      cases ps with
      | nil => cases h with | cons h t => cases t
      | cons q ps =>
        cases h with
        | cons h t => cases t with | cons k t => exact ⟨q :: p :: ps, List.Perm.swap _ _ _, .cons k (.cons h t)⟩
  | trans _ _ i1 i2 =>
    intro ps h
    obtain ⟨qs, h1, h2⟩ := i2 h
    obtain ⟨rs, h3, h4⟩ := i1 h2
    exact ⟨rs, h3.trans h1, h4⟩
end
section
variable {C : Ct} [g : Gx C.ga] {A : AS} {a : Expr} {p p2 q pos : Pos}
/-- len(set(xs)) of distinct places -/
theorem xd_lenSet {c : Ab} {ps : List Pl} (ha : Xd C a A c) (hs : seqA c = some (ps.map pP)) (hn : ps.Nodup) (hl : ps.length < 64) (hg : gloB C.sc "len" = true := by (try dsimp only [Ct.blk]); decide +kernel) (hg2 : gloB C.sc "set" = true := by (try dsimp only [Ct.blk]); decide +kernel)
    (hst : isStar a = false := by rfl) : Xd C (.Call (.Name "len" p) [.Call (.Name "set" p2) [a] [] q] [] pos) A (.dat (.int ps.length)) := by
  obtain ⟨ta, a1, a2⟩ := ha
  refine ⟨tLenSetP C.K ta, fun X hX => ?_, fun H0 σ G H x m Q q => ?_⟩
  · have z := pe_lenSetP (p := p) (p2 := p2) (q := q) (pos := pos) hX.calm (by have := hX.room.un; omega) (hX.gl hg) (by rw [hX.mg]; exact g.bLen) (hX.gl hg2) (by rw [hX.mg]; exact g.bSet) (a1 X hX) (star_one hst)
    rw [hX.K] at z
    exact z
  · refine a2 H0 σ G H x m _ fun v G1 H1 c1 n1 s1 i1 => ?_
    subst s1
    obtain ⟨l, vs, rfl, h1, h2⟩ := is_seq hs i1
    obtain ⟨ks, rfl, h3, h4⟩ := dps_pls h2
    have e := ks_len h3
    refine ⟨l, ks, rfl, h1.imp n1.s.sl n1.s.st, fun r hr => n1.s.st (h4 r hr), by omega, ?_, q _ G1 H1 _ n1 rfl ?_⟩
    · rw [h3]
      exact nodup_map (fun _ _ => ip_inj) hn
    · rw [e]
      exact mk_int
/-- what a list of places sorted is -/
theorem sorted_is {K : PySem.W.Frag} {G : Hp} {vs ys : List V} {ps : List Pl} (hb : ∀ z ∈ ps, P64 z) (h : DpAll K G vs (ps.map pP)) (hp : ys.Perm vs)
    (hw : ys.Pairwise fun x y => ∀ n m, TupI K G x n → TupI K G y m → TS.code 64 n ≤ TS.code 64 m) : DpAll K G ys ((sP ps).map pP) := by
  obtain ⟨qs, h1, h2⟩ := dps_perm hp h
  have e : qs = sP ps := by
    refine sP_unique hb h1 ?_
    obtain ⟨ks, rfl, h3, h4⟩ := dps_pls h2
    clear hp h h1 h2
    induction ks generalizing qs with
    | nil =>
      cases qs with
      | nil => exact .nil
      | cons _ _ => cases h3
    | cons r ks ih =>
      cases qs with
      | nil => cases h3
      | cons z qs =>
        obtain ⟨e1, e2⟩ := List.cons.inj h3
        obtain ⟨w1, w2⟩ := List.pairwise_cons.mp hw
        refine List.pairwise_cons.mpr ⟨fun y hy => ?_, ih qs w2 e2 fun t ht => h4 t (List.mem_cons_of_mem _ ht)⟩
        have hy' : ip y ∈ ks.map (·.2) := by
          rw [e2]
          exact List.mem_map.mpr ⟨y, hy, rfl⟩
        obtain ⟨t, ht, et⟩ := List.mem_map.mp hy'
        have k1 := h4 r List.mem_cons_self
        rw [show r.2 = ip z from e1] at k1
        have k2 := h4 t (List.mem_cons_of_mem _ ht)
        rw [show t.2 = ip y from et] at k2
        have k := w1 (.ref t.1) (List.mem_map.mpr ⟨t, ht, rfl⟩) (ip z) (ip y) ⟨_, rfl, k1⟩ ⟨_, rfl, k2⟩
        rw [ip_code, ip_code] at k
        exact k
  rw [← e]
  exact h2
def rSortP (K : PySem.W.Frag) : List V → Hp → VK → Prop := fun vs H Q => ∃ (a : Addr) (xs : List V), vs = [V.ref a] ∧ (SqL K H a xs ∨ SqT K H a xs) ∧ xs.length < 64 ∧ (∀ x ∈ xs, ∃ ns, TupI K H x ns ∧ ns.length = 2 ∧ TS.Bd 64 ns) ∧
  ∀ (ys : List V) (p : Addr), ys.Perm xs → ys.Pairwise (fun x y => ∀ n m, TupI K H x n → TupI K H y m → TS.code 64 n ≤ TS.code 64 m) → H p = none → Q (.ref p) (upd H p (.lst ys))
theorem cr_sortP {X : Cx} : CallR X (.builtin "sorted") (rSortP X.K) := by
  intro pins s σ H vs us Q I r h
  obtain ⟨a, xs, e, hs | hs, h1, h2, h3⟩ := h
  · exact cr_sortT (d := 2) (B := 64) (by decide) pins s σ H vs us Q I r ⟨a, xs, e, hs, h1, h2, h3⟩
  · exact cr_sortTt (d := 2) (B := 64) (by decide) pins s σ H vs us Q I r ⟨a, xs, e, hs, h1, h2, h3⟩
theorem on_sortP : ∀ X, C.On X → CallR X (.builtin "sorted") (rSortP C.K) := fun X hX => by
  have q := cr_sortP (X := X)
  rw [hX.K] at q
  exact q
/-- sorted(xs) of places -/
theorem xn_sorted {c : Ab} {ps : List Pl} (ha : Xd C a A c) (hs : seqA c = some (ps.map pP)) (hb : ∀ z ∈ ps, P64 z) (hl : ps.length < 64) (hg : gloB C.sc "sorted" = true := by (try dsimp only [Ct.blk]); decide +kernel)
    (hst : noStars [a] = true := by rfl) : Xd C (.Call (.Name "sorted" p) [a] [] pos) A (.nl ((sP ps).map pP)) :=
  xe_callB on_sortP g.bSorted (by decide +kernel) (xs_cons ha xs_nil (noStars_cons hst).1) (rc_d fun vs G H x ia Q q => by
    obtain ⟨v, rfl, i⟩ := isA_one ia
    obtain ⟨l, vs, rfl, h1, h2⟩ := is_seq hs i
    refine ⟨l, vs, rfl, h1.imp x.sl x.st, by rw [dps_len h2, List.length_map]; exact hl, fun y hy => ?_, fun ys p hp hw hn => ?_⟩
    · obtain ⟨ks, rfl, h3, h4⟩ := dps_pls h2
      obtain ⟨r, hr, rfl⟩ := List.mem_map.mp hy
      have hr2 : r.2 ∈ ps.map ip := by
        rw [← h3]
        exact List.mem_map.mpr ⟨r, hr, rfl⟩
      obtain ⟨z, hz, ez⟩ := List.mem_map.mp hr2
      refine ⟨r.2, ⟨r.1, rfl, x.st (h4 r hr)⟩, ?_, ?_⟩
      · rw [← ez]
        rfl
      · rw [← ez]
        exact ip_bd (hb z hz)
    · refine q _ _ _ _ (Nx.new (o := .lst ys) x hn) rfl ⟨p, ys, rfl, upd_same, (Ex.new (x.back hn)).dps ?_⟩
      refine sorted_is hb h2 hp (hw.imp fun {u v} k n m hu hv => k n m ?_ ?_)
      · obtain ⟨t, e, h⟩ := hu
        exact ⟨t, e, x.st h⟩
      · obtain ⟨t, e, h⟩ := hv
        exact ⟨t, e, x.st h⟩) hg hst
/-- sorted(set(xs)) of a list of places -/
theorem xe_sortSet {P : List Pl → Prop} (ha : Xe C a A (fun z => ∃ ps : List Pl, P ps ∧ z = .dat (.list (ps.map pP)))) (hP : ∀ ps, P ps → (∀ z ∈ ps, P64 z) ∧ ps.length < 64) (hg : gloB C.sc "sorted" = true := by (try dsimp only [Ct.blk]); decide +kernel) (hg2 : gloB C.sc "set" = true := by (try dsimp only [Ct.blk]); decide +kernel)
    (hst : isStar a = false := by rfl) : Xe C (.Call (.Name "sorted" p) [.Call (.Name "set" p2) [a] [] q] [] pos) A (fun z => ∃ ps, P ps ∧ z = .nl ((sP (dP ps)).map pP)) := by
  obtain ⟨ta, a1, a2⟩ := ha
  refine ⟨tCB (rSortedT C.K C.ga.P C.ga.w) (tCons (tCB (rSetOfT C.K C.ga.P C.ga.w) (tCons ta tNil)) tNil), fun X hX => ?_, fun H0 σ G H x m Q q => ?_⟩
  · have z1 := cr_setOfT (X := X) hX.calm (by have := hX.room.un; omega)
    have z2 := cr_sortedT (X := X) hX.calm
    rw [hX.K, hX.prog, hX.w] at z1 z2
    refine pe_callB z2 (hX.gl hg) (by rw [hX.mg]; exact g.bSorted) (by decide +kernel) (pa_cons (pe_callTy z1 (hX.gl hg2) (by rw [hX.mg]; exact g.bSet) (by decide +kernel) (pa_cons (a1 X hX) pa_nil (star_one hst)) (by decide +kernel) (by decide +kernel) (star_one hst)) pa_nil)
  · refine a2 H0 σ G H x m _ fun v G1 H1 c1 n1 s1 i1 => ?_
    obtain ⟨ps, hps, rfl⟩ := s1
    obtain ⟨hb, hl⟩ := hP ps hps
    obtain ⟨l, vs, rfl, h1, h2⟩ := is_list i1
    obtain ⟨ks, rfl, h3, h4⟩ := dps_pls h2
    have e := ks_len h3
    refine ⟨l, ks, rfl, n1.s.sl h1, fun r hr => n1.s.st (h4 r hr), by omega, fun d L hd sub all => ?_⟩
    have ips : ∀ r ∈ L, ∃ z ∈ ps, r.2 = ip z := fun r hr => by
      have hr2 : r.2 ∈ ps.map ip := by
        rw [← h3]
        exact List.mem_map.mpr ⟨r, sub r hr, rfl⟩
      obtain ⟨z, hz, ez⟩ := List.mem_map.mp hr2
      exact ⟨z, hz, ez.symm⟩
    have x2 : Nx G1 H1 G1 (upd H1 d (SetTO C.ga.P C.ga.w d L)) := Nx.hid n1.s hd
    refine ⟨d, L, 2, 64, rfl, upd_same, fun r hr => x2.s.st (h4 r (sub r hr)), by decide, fun r hr => ?_, fun L' p hp nd few pw hn => ?_⟩
    · obtain ⟨z, hz, ez⟩ := ips r hr
      rw [ez]
      exact ⟨rfl, ip_bd (hb z hz)⟩
    · refine q _ _ _ _ ((n1.trans x2).trans (Nx.new (o := .lst (L'.map fun r => V.ref r.1)) x2.s hn)) ⟨ps, hps, rfl⟩ ⟨p, _, rfl, upd_same, (Ex.new (x2.s.back hn)).dps ?_⟩
      have hL : ∀ r ∈ L', SqT C.K G1 r.1 (r.2.map V.int) := fun r hr => h4 r (sub r (hp.mem_iff.mp hr))
      have back : ∀ (M : List (Addr × List Int)), (∀ r ∈ M, ∃ z ∈ ps, r.2 = ip z) → ∃ qs : List Pl, M.map (·.2) = qs.map ip ∧ ∀ z ∈ qs, z ∈ ps := by
        intro M
        induction M with
        | nil => exact fun _ => ⟨[], rfl, fun _ h => nomatch h⟩
        | cons r M ih =>
          intro h
          obtain ⟨z, hz, ez⟩ := h r List.mem_cons_self
          obtain ⟨qs, k1, k2⟩ := ih fun t ht => h t (List.mem_cons_of_mem _ ht)
          refine ⟨z :: qs, by rw [List.map_cons, List.map_cons, k1, ez], fun y hy => ?_⟩
          rcases List.mem_cons.mp hy with e | e
          · rw [e]
            exact hz
          · exact k2 y e
      obtain ⟨qs, k1, k2⟩ := back L' fun r hr => ips r (hp.mem_iff.mp hr)
      have e2 : qs = sP (dP ps) := by
        refine sP_unique (fun z hz => hb z (mem_dP.mp hz)) ?_ ?_
        · have nq : qs.Nodup := by
            rw [k1] at nd
            exact List.Pairwise.of_map ip (fun a b h e => h (by rw [e])) nd
          refine (List.perm_ext_iff_of_nodup nq (dP_nodup ps)).mpr fun z => ⟨fun hz => mem_dP.mpr (k2 z hz), fun hz => ?_⟩
          have hz1 : ip z ∈ ks.map (·.2) := by
            rw [h3]
            exact List.mem_map.mpr ⟨z, mem_dP.mp hz, rfl⟩
          obtain ⟨r, hr, er⟩ := List.mem_map.mp hz1
          have hz2 := all r hr
          rw [show r.2 = ip z from er] at hz2
          obtain ⟨t, ht, et⟩ := List.mem_map.mp hz2
          have hz3 : t.2 ∈ L'.map (·.2) := List.mem_map.mpr ⟨t, hp.mem_iff.mpr ht, rfl⟩
          rw [k1, show t.2 = ip z from et] at hz3
          obtain ⟨y, hy, ey⟩ := List.mem_map.mp hz3
          rw [← ip_inj ey]
          exact hy
        · have w1 : (L'.map (·.2)).Pairwise fun n m => TS.code 64 n ≤ TS.code 64 m := List.pairwise_map.mpr pw
          rw [k1] at w1
          refine (List.pairwise_map.mp w1).imp fun {y z} h => ?_
          rw [ip_code, ip_code] at h
          exact h
      rw [← e2]
      exact dps_of_ks k1 hL
theorem xn_sortSet {ps : List Pl} (ha : Xd C a A (.dat (.list (ps.map pP)))) (hb : ∀ z ∈ ps, P64 z) (hl : ps.length < 64) (hg : gloB C.sc "sorted" = true := by (try dsimp only [Ct.blk]); decide +kernel) (hg2 : gloB C.sc "set" = true := by (try dsimp only [Ct.blk]); decide +kernel)
    (hst : isStar a = false := by rfl) : Xd C (.Call (.Name "sorted" p) [.Call (.Name "set" p2) [a] [] q] [] pos) A (.nl ((sP (dP ps)).map pP)) :=
  (xe_sortSet (P := fun b => b = ps) (ha.imp fun z e => ⟨ps, rfl, e⟩) (fun b e => by rw [e]; exact ⟨hb, hl⟩) hg hg2 hst).imp fun z ⟨b, e1, e2⟩ => by rw [e2, e1]
end
end Oh
set_option maxHeartbeats 8000000
/-! OiH: sets of texts, walked in any order: set(list of texts), sorted of it. -/
namespace L2
open PySem PySem.Spec PyProof.Rows
def keyT (e : Int × Value) : Str := match e.2 with | .str k _ => k | _ => Str.empty
def TxE (w : World) (e : Int × Value) : Prop := ∃ k tk, e.2 = Value.str k tk ∧ e.1 = hashStr w k
/-- the set of texts at a: S its members, n their number; its table rises and can be walked -/
def SetX (w : World) (h : Heap) (a : Addr) (S : Str → Bool) (n : Nat) : Prop :=
  ∃ o es ep t, h.get? a = some o ∧ o.ExactSet ∧ o.data = .set es ep t ∧ (∀ e ∈ es.toList, TxE w e) ∧ (es.toList.map keyT).Nodup ∧ (∀ k, S k = true ↔ k ∈ es.toList.map keyT) ∧
    es.size < scanBound ∧ t.fits es.size = true ∧ es.size = n ∧ Ris t.place.toList ∧ (w.params.followText "set-order" = true ∨ t.led = true)

section
variable {P : Program} {w : World} {h h' : Heap} {a : Addr} {S : Str → Bool} {n : Nat}

theorem SetX.at (R : SetX w h a S n) (k : ∀ o, h.get? a = some o → h'.get? a = some o) : SetX w h' a S n := by
  obtain ⟨o, es, ep, t, ho, r⟩ := R
  exact ⟨o, es, ep, t, k o ho, r⟩
theorem SetX.lt (R : SetX w h a S n) : a < h.objs.size := by
  obtain ⟨o, es, ep, t, ho, r⟩ := R
  exact Heap.lt_size ho
theorem SetX.congr {S' : Str → Bool} (R : SetX w h a S n) (e : ∀ k, S' k = S k) : SetX w h a S' n := by
  have q : S' = S := funext e
  rw [q]; exact R
theorem txE_elems {l : List (Int × Value)} (g : ∀ e ∈ l, TxE w e) : ElemsOf (PySem.strKind P w) l := fun e he => by
  obtain ⟨k, tk, h1, h2⟩ := g e he
  exact ⟨⟨k, by rw [h1]; exact strKind_is P w k tk, h2⟩, by rw [h1] <;> rfl⟩
theorem txE_is {e : Int × Value} (g : TxE w e) (k : Str) : (PySem.strKind P w).is k e.2 = true ↔ keyT e = k := by
  obtain ⟨k0, tk, h1, _⟩ := g
  unfold keyT
  rw [h1]
  show (Value.isStrOf k (.str k0 tk) = true) ↔ k0 = k
  unfold Value.isStrOf
  exact beq_iff_eq
theorem txE_mem {l : List (Int × Value)} (g : ∀ e ∈ l, TxE w e) (k : Str) : k ∈ l.map keyT ↔ ∃ e ∈ l, (PySem.strKind P w).is k e.2 = true := by
  rw [List.mem_map]
  constructor
  · rintro ⟨e, he, q⟩
    exact ⟨e, he, (txE_is (g e he) k).2 q⟩
  · rintro ⟨e, he, q⟩
    exact ⟨e, he, (txE_is (g e he) k).1 q⟩
theorem SetX.setOf (R : SetX w h a S n) : h.SetOf (PySem.strKind P w) a S n := by
  obtain ⟨o, es, ep, t, ho, hx, hd, g, nd, hm, hb, hf, hn, _⟩ := R
  exact ⟨o, es, ep, t, ho, hx, hd, txE_elems g, fun k => (hm k).trans (txE_mem g k), hb, hf, hn⟩
end

section
variable {P : Program} {w : World} {A : Around} {E : Value → Shared → Prop} {s : Shared} {a : Addr} {S : Str → Bool} {n : Nat}

/-! ### add -/
theorem storeX_at {h : Heap} {a : Addr} {o : Obj} {es es' : Array (Int × Value)} {ep : Nat} {t t' : SetTable} (ho : h.get? a = some o) (hd : o.data = .set es ep t) :
    (h.update a (Obj.putSet es' t')).get? a = some { o with data := .set es' (ep + 1) t' } := by
  have q := Heap.get?_update_self (Obj.putSet es' t') ho (by rw [putSet_of es' t' hd]; rfl)
  rw [putSet_of es' t' hd] at q
  exact q

theorem setX_tail {g : Bool → Sem Unit} (hg : ∀ (b : Bool) (s₁ : Shared) (Q' : Unit → Shared → Prop), Q' () s₁ → wpAny (model P w) A (g b) Q' E s₁)
    {o : Obj} {es : Array (Int × Value)} {ep : Nat} {t : SetTable} (ho : s.heap.get? a = some o) (hex : o.ExactSet) (hd : o.data = .set es ep t)
    {es1 : Array (Int × Value)} {t2 : SetTable} {S' : Str → Bool} (g1 : ∀ e ∈ es1.toList, TxE w e) (nd1 : (es1.toList.map keyT).Nodup) (m1 : ∀ k, S' k = true ↔ k ∈ es1.toList.map keyT)
    (hb1 : es1.size < scanBound) (hf2 : t2.fits es1.size = true) (hr : Ris t2.place.toList) (hl : w.params.followText "set-order" = true ∨ t2.led = true) {wasDummy : Bool} {R : Option Bool → Shared → Prop}
    (hR : ∀ h', Heap.SameBut a s.heap h' → SetX w h' a S' es1.size → R (some true) { s with heap := h' }) :
    wpAny (model P w) A (do
        storeSet a es1 t2
        if (!wasDummy && t2.tooFull) = true then do
            g (relayAll t2 es1 (SetTable.grown es1.size)).2.2
            storeSet a (relayAll t2 es1 (SetTable.grown es1.size)).1 (relayAll t2 es1 (SetTable.grown es1.size)).2.1
            pure (some true)
          else pure (some true)) R E s := by
  refine wpAny_bind (wpAny_storeSet_of ho hd ?_ (fits_of_scanBound hb1))
  have ho1 := storeX_at (es' := es1) (t' := t2) ho hd
  have sb1 := Heap.SameBut.update s.heap a (Obj.putSet es1 t2)
  split
  · have pm := relayAll_perm t2 es1 (SetTable.grown es1.size)
    have hf3 := relayAll_fits t2 es1 (SetTable.grown es1.size)
    have hr3 := relayAll_ris t2 es1 (SetTable.grown es1.size)
    have hl3 := relayAll_led t2 es1 (SetTable.grown es1.size)
    generalize relayAll t2 es1 (SetTable.grown es1.size) = Z at pm hf3 hr3 hl3 ⊢
    obtain ⟨es2, t3, gave⟩ := Z
    dsimp only at pm hf3 hr3 hl3 ⊢
    have hsz : es2.size = es1.size := by rw [← Array.length_toList, pm.length_eq, Array.length_toList]
    have hb2 : es2.size < scanBound := by rw [hsz]; exact hb1
    refine wpAny_bind (hg _ _ _ ?_)
    refine wpAny_bind (wpAny_storeSet_of ho1 rfl ?_ (fits_of_scanBound hb2))
    have ho2 := storeX_at (es' := es2) (t' := t3) ho1 rfl
    refine wpAny_pure (hR _ (sb1.trans (Heap.SameBut.update _ a _)) ?_)
    exact ⟨_, es2, _, t3, ho2, hex, rfl, fun e he => g1 e (pm.mem_iff.mp he), (pm.map keyT).nodup_iff.mpr nd1, fun k => (m1 k).trans (pm.map keyT).mem_iff.symm, hb2, hf3, hsz, hr3,
      hl.imp id fun z => by rw [hl3]; exact z⟩
  · exact wpAny_pure (hR _ sb1 ⟨_, es1, _, t2, ho1, hex, rfl, g1, nd1, m1, hb1, hf2, rfl, hr, hl⟩)

theorem setX_hashed {k : Str} {tk : Tok} {Q : Bool → Shared → Prop} (R : SetX w s.heap a S n) (room : n + 1 < scanBound)
    (hQ : ∀ h', Heap.SameBut a s.heap h' → SetX w h' a (fun j => S j || decide (j = k)) (if S k = true then n else n + 1) → Q (!S k) { s with heap := h' }) :
    wpAny (model P w) A (setAddHashed a (.str k tk) ((PySem.strKind P w).hash k)) Q E s := by
  obtain ⟨o, es, ep, t, ho, hex, hd, g, nd, hm, hb, hf, hn, hr, hl⟩ := R
  have hkey : (PySem.strKind P w).is k (.str k tk) = true := strKind_is P w k tk
  have hsc : (Value.str k tk).scannable = true := rfl
  have hel : ElemsOf (PySem.strKind P w) es.toList := txE_elems g
  unfold setAddHashed setAddHashedIn
  refine wpAny_holding (wpAny_bind (wpAny_setState_of ho hd hf ?_))
  dsimp only
  rw [byScan_of hsc hb hel]
  simp only [↓reduceIte]
  unfold setAddByScan
  refine wpAny_bind ?_
  refine wpAny_bind (wpAny_rule ?_)
  refine wpAny_bind (wpAny_setScan_of hkey ho hd hf hel ?_)
  cases hfi : List.findIdx? (fun e => (PySem.strKind P w).is k e.2) es.toList with
  | some j =>
    dsimp only
    obtain ⟨hj, pj, _⟩ := List.findIdx?_eq_some_iff_getElem.mp hfi
    have hSk : S k = true := (hm k).2 ((txE_mem (P := P) (w := w) g k).2 ⟨es.toList[j], List.getElem_mem hj, pj⟩)
    refine wpAny_pure (wpAny_pure ?_)
    have q := hQ s.heap (Heap.SameBut.refl a s.heap) ⟨o, es, ep, t, ho, hex, hd, g, nd, fun i => by
      rw [Bool.or_eq_true, decide_eq_true_eq, ← hm i]
      exact ⟨fun z => z.elim id (fun e => e ▸ hSk), .inl⟩, hb, hf, by rw [if_pos hSk]; exact hn, hr, hl⟩
    rw [hSk] at q
    exact q
  | none =>
    dsimp only
    have hnk : k ∉ es.toList.map keyT := fun z => by
      obtain ⟨e, he, q⟩ := (txE_mem (P := P) (w := w) g k).1 z
      have c := List.findIdx?_eq_none_iff.mp hfi e he
      rw [q] at c
      cases c
    have hSk : S k = false := by
      cases q : S k with
      | false => rfl
      | true => exact absurd ((hm k).1 q) hnk
    have hgw : ∀ (b : Bool) {s₁ : Shared} {Q' : Unit → Shared → Prop}, Q' () s₁ → wpAny (model P w) A (match b with | true => rule "set.scan.the-table-gave-way" | false => pure ()) Q' E s₁ :=
      fun b s₁ Q' q => by cases b <;> first | exact wpAny_pure q | exact wpAny_rule q
    have pm := layNew_perm t es ((PySem.strKind P w).hash k) (.str k tk)
    have hf1 := layNew_fits t es ((PySem.strKind P w).hash k) (.str k tk)
    have hr1 := layNew_ris t es ((PySem.strKind P w).hash k) (.str k tk) hr
    have hl1 := layNew_led t es ((PySem.strKind P w).hash k) (.str k tk)
    generalize layNew t es ((PySem.strKind P w).hash k) (.str k tk) = Z at pm hf1 hr1 hl1 ⊢
    obtain ⟨es1, t1, wasDummy, gave⟩ := Z
    dsimp only at pm hf1 hr1 hl1 ⊢
    rw [Array.toList_push] at pm
    have pc : es1.toList.Perm (((PySem.strKind P w).hash k, Value.str k tk) :: es.toList) := pm.trans (List.perm_append_singleton _ _)
    have pk : (es1.toList.map keyT).Perm (k :: es.toList.map keyT) := pc.map keyT
    have g1 : ∀ e ∈ es1.toList, TxE w e := fun e he => by
      rcases List.mem_cons.mp (pc.mem_iff.mp he) with z | z
      · rw [z]; exact ⟨k, tk, rfl, rfl⟩
      · exact g e z
    have nd1 : (es1.toList.map keyT).Nodup := pk.nodup_iff.mpr (List.nodup_cons.mpr ⟨hnk, nd⟩)
    have m1 : ∀ i, (S i || decide (i = k)) = true ↔ i ∈ es1.toList.map keyT := fun i => by
      rw [Bool.or_eq_true, decide_eq_true_eq, hm i, pk.mem_iff, List.mem_cons]
      exact Or.comm
    have hsz : es1.size = n + 1 := by rw [← Array.length_toList, pc.length_eq, List.length_cons, Array.length_toList, hn]
    have hb1 : es1.size < scanBound := by rw [hsz]; exact room
    have hled : w.params.followText "set-order" = true ∨ t1.led = true := hl.imp id fun z => by rw [hl1]; exact z
    have fin : ∀ h', Heap.SameBut a s.heap h' → SetX w h' a (fun j => S j || decide (j = k)) es1.size → Q true { s with heap := h' } := fun h' sb r => by
      have q := hQ h' sb
      rw [hSk] at q
      rw [hsz] at r
      exact q r
    refine wpAny_bind (hgw _ ?_)
    split
    · refine wpAny_bind ?_
      rw [hashByValue_scannable 8 hsc]
      refine wpAny_pure ?_
      refine setX_tail ?_ ho hex hd g1 nd1 m1 hb1 ?_ ?_ ?_ ?_
      · intro b s₁ Q' q; cases b <;> first | exact wpAny_pure q | exact wpAny_rule q
      · first | (split <;> first | exact hf1 | exact SetTable.fits_plain_off hf1) | exact hf1
      · first | (split <;> exact hr1) | exact hr1
      · first | (split <;> exact hled) | exact hled
      · intro h' sb r; dsimp only; exact wpAny_pure (fin h' sb r)
    · refine wpAny_bind (wpAny_pure ?_)
      simp only [↓reduceIte]
      refine setX_tail ?_ ho hex hd g1 nd1 m1 hb1 hf1 hr1 hled ?_
      · intro b s₁ Q' q; cases b <;> first | exact wpAny_pure q | exact wpAny_rule q
      · intro h' sb r; dsimp only; exact wpAny_pure (fin h' sb r)

end
section
variable {P : Program} {w : World} {A : Around} {E : Value → Shared → Prop} {s : Shared}
theorem setX_fresh {h : Heap} {a : Addr} (hg : h.get? a = some (newSet w)) : SetX w h a (fun _ => false) 0 :=
  ⟨_, #[], 0, _, hg, ⟨rfl, rfl, rfl⟩, rfl, (fun e he => by simp at he), (by simp), (fun k => by simp), (by decide), (by rfl), rfl, List.Pairwise.nil, by
    show _ ∨ (!w.params.followText "set-order") = true
    cases w.params.followText "set-order"
    · exact .inr rfl
    · exact .inl rfl⟩
/-- members of the first i texts -/
def hasT (xs : List Str) (i : Nat) (k : Str) : Bool := decide (k ∈ xs.take i)
theorem hasT_step {xs : List Str} {i : Nat} {x : Str} (h : xs[i]? = some x) (k : Str) : hasT xs (i + 1) k = (hasT xs i k || decide (k = x)) := by
  unfold hasT
  rw [take_next h, ← Bool.decide_or]
  exact decide_eq_decide.mpr (by rw [List.mem_append, List.mem_singleton])
section
variable {R : Result → Shared → Prop} {I : Addr} {fp wr : List Addr} {G : Array GenState → Array GenState → Prop} {n : Nat} {Pv : Nat → Value → Prop} {St : Nat → Shared → Prop}
theorem loopX (W : WalksS P w A.in1 I fp wr G n Pv St) (S : Addr) (hSf : S ∉ fp) (xs : List Str) (hsz : xs.length = n) (hfew : n < 64) (hval : ∀ i v, Pv i v → ∃ x t, xs[i]? = some x ∧ v = .str x t) :
    ∀ (k i : Nat) (s : Shared), n - i = k → i ≤ n → St i s → (∃ m, m ≤ i ∧ SetX w s.heap S (hasT xs i) m) →
      (∀ s', Moved (S :: wr) G s s' → (∃ m, m ≤ n ∧ SetX w s'.heap S (hasT xs n) m) → R (.ok (.ret .none)) s') →
      codeAny (model P w) A (.builtin "set.update.loop" ⟨[.ref S, .ref I], []⟩) R s := by
  have hSw : S ∉ wr := fun h => hSf (W.sub _ h)
  have hsub : ∀ b ∈ wr, b ∈ S :: wr := fun b hb => List.mem_cons_of_mem _ hb
  intro k
  induction k with
  | zero =>
    intro i s hk hi hst hS hR
    have hin : i = n := by omega
    subst hin
    refine codeAny_builtin PyProof.Rows.F.entry_set_update_loop ?_
    rw [Around.under_plainId PyProof.Rows.F.plain_set_update_loop _]
    show wpAny _ A.in1 (pyNext (.ref I) >>= _) _ _ s
    refine wpAny_bind (W.done s _ _ hst fun s' hm => ?_)
    show wpAny _ A.in1 (ret Value.none) _ _ s'
    obtain ⟨m, hm1, X⟩ := hS
    exact wpAny_pure (hR s' (hm.mono hsub) ⟨m, hm1, X.at fun o e => hm.heap S o hSw e⟩)
  | succ k ih =>
    intro i s hk hi hst hS hR
    have hlt : i < n := by omega
    refine codeAny_builtin PyProof.Rows.F.entry_set_update_loop ?_
    rw [Around.under_plainId PyProof.Rows.F.plain_set_update_loop _]
    show wpAny _ A.in1 (pyNext (.ref I) >>= _) _ _ s
    refine wpAny_bind (W.item i s _ _ hlt hst fun v s' hP hst' hm => ?_)
    obtain ⟨x, t, hx, rfl⟩ := hval i v hP
    obtain ⟨m, hm1, X0⟩ := hS
    have X1 : SetX w s'.heap S (hasT xs i) m := X0.at fun o e => hm.heap S o hSw e
    show wpAny _ A.in1 (holding [Value.str x t] (setAdd S (.str x t)) >>= _) _ _ s'
    refine wpAny_bind (wpAny_holding ?_)
    unfold setAdd
    refine wpAny_holding ?_
    refine wpAny_bind ((PySem.strKind P w).pyHash (k := x) (strKind_is _ _ _ _) ?_)
    refine setX_hashed (s := { s' with toks := s'.toks + 1 }) X1 (by unfold scanBound; omega) fun h' hsb X2 => ?_
    have X3 : ∃ m, m ≤ i + 1 ∧ SetX w h' S (hasT xs (i + 1)) m := by
      refine ⟨_, ?_, X2.congr fun k => hasT_step hx k⟩
      split <;> omega
    refine wpAny_pure ⟨plainId_quiet PyProof.Rows.F.plain_set_update_loop _, ih (i + 1) _ (by omega) hlt (W.frame _ s' _ _ hst' (Nat.le_succ _) fun b hb o e => ?_) X3 fun s'' hm'' hS'' => ?_⟩
    · rw [hsb.2 b (fun h : b = S => hSf (by rw [← h]; exact hb))]; exact e
    · refine hR s'' (Moved.trans W.gtrans ((hm.mono hsub).then_heap (Nat.le_succ _) fun b o hb e => ?_) hm'') hS''
      rw [hsb.2 b (fun h : b = S => hb (by rw [h]; exact List.mem_cons_self))]; exact e
end
/-- set(xs) of a list of texts -/
theorem setX_of_list {l : Addr} {items : Array Value} {xs : List Str} {Q : Value → Shared → Prop} (hh : A.handled = none) (hl : s.heap.IsList l items) (hi : StrsAre items.toList xs) (few : xs.length < 64)
    (fin : ∀ (g : Heap) (tk m : Nat), m ≤ xs.length → SetX w g s.heap.objs.size (fun k => decide (k ∈ xs)) m → (∀ b o, s.heap.get? b = some o → g.get? b = some o) → Q (.ref s.heap.objs.size) { s with heap := g, toks := tk }) :
    wpAny (model P w) A (call (.type "set") [.ref l]) Q E s := by
  have size_eq : xs.length = items.size := by rw [← StrsAre.len_eq hi, Array.length_toList]
  obtain ⟨c, tl, hmro⟩ := F.called_set.mro
  have i1 := F.called_set.made
  have i2 := F.called_set.sub
  have i3 := F.called_set.notType
  have i4 := F.called_set.canCreate
  have i5 := F.typeCall_set_1 (.ref l)
  have base_get : (s.heap.push (newSet w)).get? s.heap.objs.size = some (newSet w) := Heap.get?_push_size _ rfl
  refine wpAny_call (codeAny_of_tree ?_)
  show wpAny _ _ (callAny (.type "set") _) _ _ _
  refine wpAny_pure ⟨Code.quiet_builtin _ (by decide +kernel), codeAny_builtin F.entry_type_call ?_⟩
  rw [Around.under_plain (weight_type_call_type "set" [.ref l] []) rfl]
  repeat (any_goals (first | assumption | wp_step))
  refine codeAny_mono (code_set_led1 (.ref l) (E := E) (Q₁ := fun obj s₁ => obj = .ref s.heap.objs.size ∧ s₁ = { s with heap := s.heap.push (newSet w) }) ⟨rfl, rfl⟩) fun r s₁ hr => ?_
  cases r with
  | error e => exact hr
  | ok fl =>
    cases fl with
    | ret obj =>
      obtain ⟨rfl, rfl⟩ := hr
      have at_new : Shared.TypeIs { s with heap := s.heap.push (newSet w) } (.ref s.heap.objs.size) "set" := ⟨_, base_get, rfl⟩
      have j1 := F.called_set.init.lookup
      have j2 := F.called_set.init.bind (.ref s.heap.objs.size)
      repeat (any_goals (first | assumption | wp_step))
      refine codeAny_mono (codeAny_call_builtin (R := wants (fun r u => r = .none ∧ ∃ g tk m, u = { s with heap := g, toks := tk } ∧ m ≤ xs.length ∧ SetX w g s.heap.objs.size (fun k => decide (k ∈ xs)) m ∧
          (∀ b o, s.heap.get? b = some o → g.get? b = some o)) E) F.called_set.init.plain F.entry_set_init (check_set_init_1 at_new ?_)) fun r₂ s₂ hr₂ => ?_
      · obtain ⟨ol, hol, hcl, nl, hdl⟩ := hl
        obtain ⟨ocls, odict, odata, oslots⟩ := ol
        simp only at hcl hdl
        subst hcl; subst hdl
        have hol' := Heap.get?_push_of_some (newSet w) hol
        have hsls := F.sub_list_set
        have hslf := F.sub_list_frozenset
        have hne : (Value.type "list" == Value.type "dict") = false := by decide
        have hl1 : (s.heap.push (newSet w)).IsList l items := ⟨_, hol', rfl, nl, rfl⟩
        unfold Builtin.«set.__init__» noKeywords Builtin.Frozenset.updateFrom
        generalize hPI : pyIter = PI
        wp_walk
        subst hPI
        refine wpAny_pyIter_list hl1 ?_
        refine wpAny_bind (wpAny_runValue ?_)
        have hlS : l < s.heap.objs.size := Heap.lt_size hol
        have hh3 : A.in1.in1.in1.handled = none := by simp [hh]
        have hneI : l ≠ (s.heap.push (newSet w)).objs.size := by
          rw [Heap.size_push]; exact Nat.ne_of_lt (Nat.lt_succ_of_lt hlS)
        have hSf : s.heap.objs.size ∉ [(s.heap.push (newSet w)).objs.size, l] := by
          rw [Heap.size_push]; simp only [List.mem_cons, List.mem_singleton, List.not_mem_nil, or_false, not_or]
          exact ⟨Nat.ne_of_lt (Nat.lt_succ_self _), Nat.ne_of_gt hlS⟩
        have hval : ∀ (i : Nat) (v : Value), items[i]? = some v → ∃ x t, xs[i]? = some x ∧ v = .str x t := fun i v hv => by
          have hv2 : items.toList[i]? = some v := by rw [Array.getElem?_toList]; exact hv
          obtain ⟨t, e⟩ := SS.strs_at hi i v hv2
          have lt : i < xs.length := by
            rw [size_eq]
            exact (Array.getElem?_eq_some_iff.mp hv).1
          refine ⟨xs[i], t, List.getElem?_eq_getElem lt, ?_⟩
          rw [e, List.getD_eq_getElem?_getD, List.getElem?_eq_getElem lt]
          rfl
        refine loopX ((Walks.list hh3 _ l hneI items).toS) s.heap.objs.size hSf xs size_eq (by omega) hval (items.size - 0) 0 _ (by omega) (Nat.zero_le _)
          ⟨⟨_, Heap.get?_push_size _ rfl, rfl, rfl⟩, (hl1.push _)⟩ ?begin ?last
        case begin =>
          exact ⟨0, Nat.le_refl _, (setX_fresh (Heap.get?_push_of_some _ base_get)).congr fun k => by simp [hasT]⟩
        case last =>
          intro u hm hS
          obtain ⟨h2, g2, d2, tk, o2⟩ := u
          have eg : g2 = s.gens := hm.gens
          have ed : d2 = s.drawn := hm.drawn
          have eo : o2 = s.os := hm.os
          subst eg; subst ed; subst eo
          show wpAny _ _ _ _ _ _
          refine wpAny_pure ?_
          show wpAny _ _ (ret Value.none) _ _ _
          obtain ⟨m, m1, m2⟩ := hS
          refine wpAny_pure ⟨rfl, h2, tk, m, rfl, by omega, m2.congr fun k => by unfold hasT; rw [← size_eq, List.take_length], fun b o e => ?_⟩
          have lt : b < s.heap.objs.size := Heap.lt_size e
          have hb2 : b ≠ (s.heap.push (newSet w)).objs.size := by
            rw [Heap.size_push]; exact Nat.ne_of_lt (Nat.lt_succ_of_lt lt)
          exact hm.heap b o (by simp only [List.mem_cons, List.mem_singleton, List.not_mem_nil, or_false, not_or]; exact ⟨Nat.ne_of_lt lt, hb2⟩) (Heap.get?_push_of_some _ (Heap.get?_push_of_some _ e))
      · cases r₂ with
        | error e => exact hr₂
        | ok fl₂ =>
          cases fl₂ with
          | ret r =>
            obtain ⟨rfl, g, tk, m, rfl, h1, h2, h3⟩ := hr₂
            repeat (any_goals (first | assumption | wp_step))
            exact fin _ _ _ h1 h2 h3
          | _ => exact hr₂.elim
    | _ => exact hr.elim
end
end L2
set_option maxHeartbeats 8000000
/-! OiI: sorted(set(xs)), xs a list of texts. -/
namespace L2
open PySem PySem.Spec PyProof.Rows
section
variable {P : Program} {w : World} {A : Around} {E : Value → Shared → Prop} {s : Shared} {a : Addr}
theorem strs_of : ∀ (l : List (Int × Value)), (∀ e ∈ l, TxE w e) → StrsAre (l.map (·.2)) (l.map keyT)
  | [], _ => .nil
  | e :: l, h => by
    obtain ⟨k, tk, h1, _⟩ := h e List.mem_cons_self
    have t := strs_of l fun u hu => h u (List.mem_cons_of_mem _ hu)
    rw [List.map_cons, List.map_cons, show keyT e = k from by unfold keyT; rw [h1], h1]
    exact .cons k tk t
theorem strs_perm : ∀ {us vs : List Value}, us.Perm vs → ∀ {xs : List Str}, StrsAre vs xs → ∃ ys, ys.Perm xs ∧ StrsAre us ys := by
  intro us vs h
  induction h with
  | nil => intro xs h; exact ⟨xs, List.Perm.refl _, h⟩
  | cons x _ ih =>
    intro xs h
    cases h with
    | cons k t r =>
      obtain ⟨ys, h1, h2⟩ := ih r
      exact ⟨k :: ys, h1.cons k, .cons k t h2⟩
  | swap x y l =>
    intro xs h
    cases h with
    | cons k t r => cases r with | cons k2 t2 r => exact ⟨_, List.Perm.swap _ _ _, .cons k2 t2 (.cons k t r)⟩
  | trans _ _ i1 i2 =>
    intro xs h
    obtain ⟨ys, h1, h2⟩ := i2 h
    obtain ⟨zs, h3, h4⟩ := i1 h2
    exact ⟨zs, h3.trans h1, h4⟩
theorem sortX {S : Str → Bool} {n : Nat} {Q : Value → Shared → Prop} (R : SetX w s.heap a S n) (hh : A.handled = none) (h64 : n < 64)
    (fin : ∀ s' p (out : Array Value) (c : Nat) (ns : List Str), (∀ b o, s.heap.get? b = some o → s'.heap.get? b = some o) → s'.gens = s.gens → s'.os = s.os → s.heap.objs.size ≤ p →
      s'.heap.get? p = some (seqObj "list" out c) → StrsAre out.toList ns → sortedS ns = true → ns.Nodup → (∀ k, k ∈ ns ↔ S k = true) → ns.length = n → Q (.ref p) s') :
    wpAny (model P w) A (call (.builtin "sorted") [.ref a]) Q E s := by
  obtain ⟨o, es, ep, t, ho, hex, hd, g, nd, hm, hb, hf, hn, hr, hl⟩ := R
  refine Calls.call_function_entry kind_sorted plain_sorted entry_sorted (args_sorted1 _) ?_
  unfold Builtin.«sorted»
  refine wpAny_bind (m := checkCount "sorted" 1 1 _) (wpAny_pure ?_)
  refine wpAny_bind (collect_set (A := A.in1) hh ⟨o, ho, hex.1, hd⟩ hf hb hr hl fun s1 vs k1 hz g1 o1 pm => ?_)
  have hvl : vs.length = n := by rw [pm.length_eq, List.length_map, Array.length_toList]; exact hn
  obtain ⟨ss, pk, hI⟩ := strs_perm pm (strs_of es.toList g)
  refine wpAny_bind (wpAny_newList ?_ (by rw [hvl, sizeLine_eq]; omega))
  have hoL : (s1.heap.push (seqObj "list" vs.toArray 0)).get? s1.heap.objs.size = some (seqObj "list" vs.toArray 0) := Heap.get?_push_size _ rfl
  refine wpAny_bind (wpAny_holding (wpAny_call_entry slot_list_sort ⟨_, hoL, rfl⟩ entry_list_sort (list_sort_treeK strKind_oneLt hoL hI.keysOf (fun v₁ v₂ rest e => keyKind_strs (by rw [← e]; exact hI)) (by rw [hvl]; exact h64) fun st' hp hs => ⟨_, rfl, ?_⟩) (args_list_sort _)))
  obtain ⟨ns, a1, a2, a3⟩ := sorted_out_str hI hp hs
  obtain ⟨c, hc⟩ := sortedHeap_at (vs := vs) (out := (arrOf st').map (·.2)) hoL
  have pn : ns.Perm (es.toList.map keyT) := a2.trans pk
  refine wpAny_pure ⟨_, rfl, fin _ s1.heap.objs.size _ c ns (fun b u e => ?_) g1 o1 hz hc a1 a3 (pn.nodup_iff.mpr nd) (fun k => by rw [pn.mem_iff, ← hm k]) ?_⟩
  · have q := k1 b u e
    have hlt := Heap.lt_size q
    show (sortedHeap (s1.heap.push (seqObj "list" vs.toArray 0)) s1.heap.objs.size vs _).get? b = some u
    rw [sortedHeap_old (Nat.ne_of_lt hlt) (by rw [size_push']; exact Nat.lt_succ_of_lt hlt)]
    exact Heap.get?_push_of_some _ q
  · rw [pn.length_eq, List.length_map, Array.length_toList]; exact hn
end
/-- the set of texts at a -/
def SetXO (w : World) (a : Addr) (S : Str → Bool) (n : Nat) : HO := .ext fun h => SetX w h a S n
section
variable {X : Cx}
theorem setXO_new {w : World} {P : Program} {H : Hp} {h : Heap} {a : Addr} {S : Str → Bool} {n : Nat} (R : SetX w h a S n) : ObjOk P w H h a (SetXO w a S n) := by
  have ⟨o, _, _, _, ho, _⟩ := R
  exact ⟨R, ⟨o, ho⟩, fun h1 h2 p k => SetX.at p k⟩
def rSetX (K : PySem.W.Frag) (w : World) : List V → Hp → VK → Prop := fun xs H Q => ∃ (l : Addr) (ss : List Str), xs = [V.ref l] ∧ SqL K H l (ss.map V.str) ∧ ss.length < 64 ∧ ∀ a m, H a = none → m ≤ ss.length → Q (.ref a) (upd H a (SetXO w a (fun k => decide (k ∈ ss)) m))
theorem cr_setX (hc : X.calm = true) : CallR X (.type "set") (rSetX X.K X.w) := by
  intro pins s σ H xs us Q I r h
  obtain ⟨l, ss, rfl, hl, hf, q⟩ := h
  rw [Vals.ref1 r]
  obtain ⟨its, rv, pl, hz⟩ := I.list hl
  have hn : H s.heap.objs.size = none := I.hok.fresh (Nat.le_refl _)
  refine setX_of_list (P := X.prog) (w := X.w) (I.ok.hd hc) pl.isList (xs := ss) (by simpa using strsAre_of rv) hf fun g tk m hm R k => ?_
  exact ⟨.ref s.heap.objs.size, upd H s.heap.objs.size (SetXO X.w s.heap.objs.size _ m), I.laid (t' := tk) k (Nat.le_refl _) (setXO_new R), rfl, q _ m hn hm⟩
def rSortX (w : World) : List V → Hp → VK → Prop := fun vs H Q => ∃ (a : Addr) (S : Str → Bool) (n : Nat), vs = [V.ref a] ∧ H a = some (SetXO w a S n) ∧ n < 64 ∧
  ∀ (ns : List Str) (p : Addr), sortedS ns = true → ns.Nodup → (∀ k, k ∈ ns ↔ S k = true) → H p = none → Q (.ref p) (upd H p (.lst (ns.map V.str)))
theorem vals_of_texts : ∀ {us : List Value} {xs : List Str}, StrsAre us xs → Vals (xs.map V.str) us
  | _, _, .nil => .nil
  | _, _, .cons k t r => .cons ⟨t, rfl⟩ (vals_of_texts r)
theorem cr_sortX (hc : X.calm = true) : CallR X (.builtin "sorted") (rSortX X.w) := by
  intro pins s σ H vs us Q I r h
  obtain ⟨a, S, n, rfl, ha, h64, q⟩ := h
  have R : SetX X.w s.heap a S n := (I.hok a _ ha).1
  rw [Vals.ref1 r]
  refine sortX R (I.ok.hd hc) h64 fun s' p out c ns k g o hp hg hi hs nd hm hl => ?_
  have hlen : (ns.map V.str).length ≤ sizeLine := by rw [List.length_map, hl, sizeLine_eq]; omega
  have hn : H p = none := I.hok.fresh hp
  have J : Inv X pins σ (upd H p (.lst (ns.map V.str))) { s with heap := s'.heap, gens := s'.gens, drawn := s'.drawn, toks := s'.toks } :=
    I.call (ch := []) (Un.laid k hp hn) (I.hok.laid k hp ⟨hlen, out.toList, c, vals_of_texts hi, hg⟩) (by rw [g]; exact I.bare) (fun _ z => nomatch z)
  have e : s' = { s with heap := s'.heap, gens := s'.gens, drawn := s'.drawn, toks := s'.toks } := by
    cases s'
    cases s
    cases o
    rfl
  rw [e]
  exact ⟨.ref p, _, J, rfl, q ns p hs nd hm hn⟩
end
end L2
set_option maxHeartbeats 8000000
/-! OiJ: sorted(set(signs)) as an expression. -/
namespace Oh
open PySem L2 PySem.Spec PyProof.Rows
/-- the letters among signs, in their order -/
def lettersOf (l : List Nat) : List Nat := [97, 98, 99, 100].filter fun c => decide (c ∈ l)
theorem lettersOf_nodup (l : List Nat) : (lettersOf l).Nodup := List.Pairwise.filter _ (by decide)
theorem ris_pw : ∀ (p : Nat) (cs : List Nat), risingS (tx [p]) (cs.map fun c => tx [c]) = true → (p :: cs).Pairwise (· ≤ ·)
  | p, [], _ => List.pairwise_singleton _ _
  | p, x :: r, h => by
    have h' : (!ltCps [x] [p] && risingS (tx [x]) (r.map fun c => tx [c])) = true := h
    rw [Bool.and_eq_true] at h'
    have ih := ris_pw x r h'.2
    have le : p ≤ x := by
      have z := h'.1
      rw [ltCps_eq] at z
      rcases Nat.lt_or_ge x p with c | c
      · exfalso
        have : ([x] : List Nat) < [p] := List.cons_lt_cons_iff.mpr (Or.inl c)
        rw [decide_eq_true this] at z
        cases z
      · exact c
    refine List.pairwise_cons.mpr ⟨fun y hy => ?_, ih⟩
    rcases List.mem_cons.mp hy with e | e
    · rw [e]
      exact le
    · exact Nat.le_trans le ((List.pairwise_cons.mp ih).1 y e)
theorem one_inj {c d : Nat} (h : tx [c] = tx [d]) : c = d := by
  have := tx_inj h
  exact (List.cons.inj this).1
/-- what the sorted set of signs is -/
theorem sorted_signs {cs : List Nat} {ns : List Str} (hc : ∀ c ∈ cs, c = 97 ∨ c = 98 ∨ c = 99 ∨ c = 100) (hs : sortedS ns = true) (nd : ns.Nodup) (hm : ∀ k, k ∈ ns ↔ k ∈ cs.map fun c => tx [c]) : ns = (lettersOf cs).map fun c => tx [c] := by
  have back : ∀ M : List Str, (∀ k ∈ M, k ∈ cs.map fun c => tx [c]) → ∃ ds : List Nat, M = ds.map fun c => tx [c] := by
    intro M
    induction M with
    | nil => exact fun _ => ⟨[], rfl⟩
    | cons x r ih =>
      intro h
      obtain ⟨c, _, e⟩ := List.mem_map.mp (h x List.mem_cons_self)
      obtain ⟨ds, e2⟩ := ih fun k hk => h k (List.mem_cons_of_mem _ hk)
      exact ⟨c :: ds, by rw [List.map_cons, ← e2, e]⟩
  obtain ⟨ds, rfl⟩ := back ns fun k hk => (hm k).mp hk
  have hm2 : ∀ c, c ∈ ds ↔ c ∈ cs := fun c => by
    have z := hm (tx [c])
    rw [List.mem_map, List.mem_map] at z
    constructor
    · intro h
      obtain ⟨d, h1, h2⟩ := z.mp ⟨c, h, rfl⟩
      rw [← one_inj h2]
      exact h1
    · intro h
      obtain ⟨d, h1, h2⟩ := z.mpr ⟨c, h, rfl⟩
      rw [← one_inj h2]
      exact h1
  have nd2 : ds.Nodup := List.Pairwise.of_map (fun c => tx [c]) (fun a b h e => h (by rw [e])) nd
  have pw : ds.Pairwise (· ≤ ·) := by
    cases ds with
    | nil => exact .nil
    | cons p r => exact ris_pw p r hs
  have e : ds = lettersOf cs := by
    refine List.Perm.eq_of_pairwise (le := (· ≤ ·)) (fun a b _ _ h k => Nat.le_antisymm h k) pw (List.Pairwise.filter _ (by decide)) ((List.perm_ext_iff_of_nodup nd2 (lettersOf_nodup cs)).mpr fun c => ?_)
    rw [hm2]
    unfold lettersOf
    rw [List.mem_filter, decide_eq_true_eq]
    refine ⟨fun h => ⟨?_, h⟩, fun h => h.2⟩
    rcases hc c h with e | e | e | e <;> rw [e] <;> decide
  rw [e]
section
variable {C : Ct} [g : Gx C.ga] {A : AS} {a : Expr} {p p2 q pos : Pos}
/-- sorted(set(signs)) -/
theorem xn_sortSigns {cs : List Nat} (ha : Xd C a A (.dat (.list (cs.map fun c => pS [c])))) (hc : ∀ c ∈ cs, c = 97 ∨ c = 98 ∨ c = 99 ∨ c = 100) (hl : cs.length < 64) (hg : gloB C.sc "sorted" = true := by (try dsimp only [Ct.blk]); decide +kernel) (hg2 : gloB C.sc "set" = true := by (try dsimp only [Ct.blk]); decide +kernel)
    (hst : isStar a = false := by rfl) : Xd C (.Call (.Name "sorted" p) [.Call (.Name "set" p2) [a] [] q] [] pos) A (.nl ((lettersOf cs).map fun c => pS [c])) := by
  obtain ⟨ta, a1, a2⟩ := ha
  refine ⟨tCB (rSortX C.ga.w) (tCons (tCB (rSetX C.K C.ga.w) (tCons ta tNil)) tNil), fun X hX => ?_, fun H0 σ G H x m Q q => ?_⟩
  · have z1 := cr_setX (X := X) hX.calm
    have z2 := cr_sortX (X := X) hX.calm
    rw [hX.K, hX.w] at z1
    rw [hX.w] at z2
    refine pe_callB z2 (hX.gl hg) (by rw [hX.mg]; exact g.bSorted) (by decide +kernel) (pa_cons (pe_callTy z1 (hX.gl hg2) (by rw [hX.mg]; exact g.bSet) (by decide +kernel) (pa_cons (a1 X hX) pa_nil (star_one hst)) (by decide +kernel) (by decide +kernel) (star_one hst)) pa_nil)
  · refine a2 H0 σ G H x m _ fun v G1 H1 c1 n1 s1 i1 => ?_
    subst s1
    obtain ⟨l, vs, rfl, h1, h2⟩ := is_list i1
    have e := dps_strs (ls := cs.map fun c => [c]) (by rw [List.map_map]; exact h2)
    rw [List.map_map] at e
    subst e
    refine ⟨l, cs.map fun c => tx [c], rfl, by rw [List.map_map]; rw [List.map_map] at h1; exact n1.s.sl h1, by rw [List.length_map]; exact hl, fun d k hd hk => ?_⟩
    rw [List.length_map] at hk
    have x2 : Nx G1 H1 G1 (upd H1 d (SetXO C.ga.w d (fun k => decide (k ∈ cs.map fun c => tx [c])) k)) := Nx.hid n1.s hd
    refine ⟨d, _, k, rfl, upd_same, by omega, fun ns p hs nd hm hn => ?_⟩
    have en := sorted_signs hc hs nd fun k => (hm k).trans decide_eq_true_iff
    refine q _ _ _ _ ((n1.trans x2).trans (Nx.new (o := .lst (ns.map V.str)) x2.s hn)) rfl ⟨p, _, rfl, upd_same, ?_⟩
    rw [en]
    generalize upd G1 p _ = G9
    have z := dps_of_strs (K := C.K) (G := G9) ((lettersOf cs).map fun c => [c])
    rw [List.map_map, List.map_map, List.map_map] at z
    rw [List.map_map]
    exact z
end
end Oh
set_option maxHeartbeats 4000000
/-! OiK: walks: a world's beginnings. -/
namespace Oh
open PySem L2
/-- wishes as a list or as a tuple -/
def wS (tup : Bool) (ps : List Pl) : Ab := if tup then .dat (.tuple (ps.map pP)) else .dat (.list (ps.map pP))
abbrev c_is_book : Con := conD (α := List (List Nat) × List (Nat × T8)) (fun g => FlOk g.1 ∧ g.2.map Prod.fst = letters g.1) (fun g => [.flo g.1, .book g.2]) (fun _ => .dat (.bool true))
theorem lkB_has {bk : List (Nat × T8)} {c : Nat} (h : c ∈ bk.map Prod.fst) : ∃ t, lkB bk c = some t := by
  induction bk with
  | nil => cases h
  | cons q r ih =>
    unfold lkB at ih ⊢
    by_cases e : q.1 = c
    · exact ⟨q.2, by rw [List.find?_cons_of_pos (by simp [e])]; rfl⟩
    · rw [List.find?_cons_of_neg (by simp [e])]
      refine ih ?_
      rcases List.mem_cons.mp h with z | z
      · exact absurd z.symm e
      · exact z
section
variable {Γ : Ga} [Gx Γ]
theorem sc_is_book : FnScope ["floor", "thing", "letters", "letter"] ["floor", "thing"] (defScope (top 41)) := ⟨rfl, rfl, rfl, by decide +kernel, rfl, by decide +kernel, by decide +kernel⟩
theorem ok_is_book (D : Def Γ "is_book" (top 41) ["floor", "thing"]) (h_letters : HasM Γ 6 (CF Γ.K) "letters" c_letters) (h_is_turn : HasF Γ 1 "is_turn" c_is_turn) : HasF Γ 7 "is_book" c_is_book := by
  refine hasF D sc_is_book (fun _ _ => rfl) fun ⟨rows, bk⟩ ⟨F, hb⟩ => ?_
  have F : FlOk rows := F
  have hb : bk.map Prod.fst = letters rows := hb
  have hl : bk.length = (letters rows).length := by rw [← hb, List.length_map]
  have h4 : (letters rows).length ≤ 4 := Nat.le_trans (List.length_filter_le _ _) (by decide)
  refine xp_then (xq_ifB (xt_c (xc_isN (xd_var 1 rfl))) (fun hT => by cases hT) (fun _ => xp_nil rfl)) ?_
  refine xp_then (xq_setD 2 (xd_meth0 h_letters lv Gx.clF (xd_var 0 rfl) ins_flo rows F rfl rfl) rfl) ?_
  refine xp_then (xq_ifB (xt_w (xw_or (xt_not (xt_v (xd_isiB "dict" (xd_var 1 rfl) Gx.bDict (by decide +kernel) ⟨nofun, by with_unfolding_all rfl⟩))) fun _ => (xw_or1 (xt_c (xc_neI (xd_lenB (xd_var 1 rfl)) (xd_lenS (xd_var 2 rfl) (by omega))))))) (fun hT => ?_) (fun _ => xp_nil rfl)) ?_
  · rw [hl] at hT
    simp at hT
  · refine xp_one (xq_retD (Xe.as (xd_all (bs := (letters rows).map fun _ => true) (Xe.as (Xo.lst (xo_lc (letters rows) (fun c => [Ab.dat (pS [c])]) (fun _ => true) (fun _ => .bool true) [("letter", 3)] (xi_txt (xd_var 2 rfl)) (by omega) (fun c hc => ⟨_, xg_name 3, xts_nil, fun _ => ?_⟩))) ?_)) ?_) rfl)
    · obtain ⟨t, ht⟩ := lkB_has (bk := bk) (c := c) (by rw [hb]; exact hc)
      exact Xe.as (xd_and (Xc.e (xc_inB (xd_var 3 rfl) (xd_var 1 rfl))) fun _ => (xe_one (xd_call h_is_turn lv t trivial (xs_cons (xd_getB (xd_var 1 rfl) (xd_var 3 rfl) ht) xs_nil) rfl))) (by rw [ht]; rfl)
    · rw [filt, List.map_map]
      rfl
    · rw [List.all_map]
      congr 2
      rw [List.all_eq_true]
      exact fun _ _ => rfl
end
end Oh
set_option maxHeartbeats 4000000
/-! OiL: isinstance(x, (list, tuple)). -/
namespace L2
open PySem PySem.Spec PyProof.Rows
theorem isi_sub_listL : isSubtype (.type "list") (.type "list") = pure true := by rw [isSubtype_type]; kernel_rfl
theorem ans_list (t : Addr) : AnswersAll (fun s => s.TypeIs (.ref t) "list") (.ref t) [.type "list", .type "tuple"] [true, false] :=
  ⟨Answers.of_true PySem.F.isi_meta_list isi_sub_listL, Answers.of_false_list (by decide +kernel) PySem.F.isi_meta_tuple PySem.F.sub_list_tuple, True.intro⟩
theorem ans_tup (t : Addr) : AnswersAll (fun s => s.TypeIs (.ref t) "tuple") (.ref t) [.type "list", .type "tuple"] [false, true] :=
  ⟨Answers.of_false_tuple (by decide +kernel) PySem.F.isi_meta_list PySem.F.sub_tuple_list, Answers.of_true PySem.F.isi_meta_tuple PySem.F.isi_sub_tuple, True.intro⟩
def tIsLT (K : PySem.W.Frag) (te : TE) : TE := fun σ H Q => te σ H fun x H1 => (∃ t xs, x = .ref t ∧ (SqL K H1 t xs ∨ SqT K H1 t xs)) ∧ ∀ T, H1 T = none → Q (.bl true) (upd H1 T (.tup [.ty "list", .ty "tuple"]))
section
variable {X : Cx} {p pos tpos : Pos} {e : Expr} {es : List Expr} {te : TE}
theorem pe_isiLT {k : Nat} (he : PE X e te) (hg : Gl X "isinstance") (hm : X.mg "isinstance" = none) (hes : PA X es (tCons (tC (.ty "list")) (tCons (tC (.ty "tuple")) tNil)))
    (hs1 : starEach [e, .Tuple es k tpos] X.env = (false, eval e X.env) :: starEach [.Tuple es k tpos] X.env) (hs2 : starEach [.Tuple es k tpos] X.env = (false, eval (.Tuple es k tpos) X.env) :: starEach [] X.env := by rfl)
    (hpl : (backTo pos (starEach [.Tuple es k tpos] X.env)).any (·.1) = false := by rfl) :
    PE X (.Call (.Name "isinstance" p) [e, .Tuple es k tpos] [] pos) (tIsLT X.K te) := by
  refine ⟨fun pins s σ H Q I h => ?_⟩
  refine wpAny_Call_Name_kw (ld_blt I hg hm PyProof.Rows.boot_isinstance ?_ (by decide) (by decide))
  refine PyProof.Rows.callWith_builtin1 ?_ hs1 hpl
  rw [hs1]
  show wpAny _ _ (spliced ((false, eval e X.env) :: backTo pos (starEach [.Tuple es k tpos] X.env))) _ _ s
  refine Calls.spliced_cons (thn (he.run pins s σ H _ I h) fun u s1 ⟨x, H1, I1, r1, hx, q1⟩ => ?_)
  obtain ⟨t, xs, ex, hT⟩ := hx
  subst ex
  obtain rfl : u = Value.ref t := r1
  rw [hs2]
  show wpAny _ _ (spliced ((false, eval (.Tuple es k tpos) X.env) :: backTo pos (starEach [] X.env))) _ _ s1
  refine Calls.spliced_cons (wpAny_Tuple_spliced (thn (hes.run tpos pins s1 σ H1 (fun ys H' => ys = [.ty "list", .ty "tuple"] ∧ H' = H1) I1 ⟨rfl, rfl⟩) fun us s2 ⟨ys, H2, I2, r2, ey, eH⟩ => ?_))
  subst ey eH
  have eu := vals_ty2 r2
  subst eu
  refine ⟨by show 2 ≤ sizeLine; rw [sizeLine_eq]; omega, ?_⟩
  have hf := I2.hok.fresh (Nat.le_refl s2.heap.objs.size)
  have I3 := I2.laid (a := s2.heap.objs.size) (o := .tup [.ty "list", .ty "tuple"]) (h' := s2.heap.push { cls := .type "tuple", data := .seq [Value.type "list", Value.type "tuple"].toArray }) (t' := s2.toks) (fun b u e => Heap.get?_push_of_some _ e) (Nat.le_refl _)
    ⟨by show 2 ≤ sizeLine; rw [sizeLine_eq]; omega, [.type "list", .type "tuple"], r2, ⟨_, Heap.get?_push_size _ rfl, rfl, _, rfl⟩⟩
  refine Calls.spliced_nil ?_
  rcases hT with hT | hT
  · obtain ⟨its, _, pl, _⟩ := I2.list hT
    obtain ⟨o, ho, hc, _⟩ := pl.isList
    exact call_isinstance (isinstance_tuple (x := .ref t) (Tx := "list") (tp := s2.heap.objs.size) (ans_list t))
      ⟨⟨o, Heap.get?_push_of_some _ ho, hc⟩, Heap.get?_push_size _ rfl, fun tk => ⟨.bl true, _, I3.tok tk, rfl, q1 _ hf⟩⟩
  · obtain ⟨its, _, ⟨o, ho, hc, _⟩, _⟩ := I2.tuple hT
    exact call_isinstance (isinstance_tuple (x := .ref t) (Tx := "tuple") (tp := s2.heap.objs.size) (ans_tup t))
      ⟨⟨o, Heap.get?_push_of_some _ ho, hc⟩, Heap.get?_push_size _ rfl, fun tk => ⟨.bl true, _, I3.tok tk, rfl, q1 _ hf⟩⟩
end
end L2
namespace Oh
open PySem L2
section
variable {C : Ct} [g : Gx C.ga] {A : AS} {e : Expr} {p p2 p3 pos tpos : Pos} {k : Nat}
/-- isinstance(x, (list, tuple)) of a list or a tuple of data -/
theorem xd_isiLTx {c : Ab} (ha : Xd C e A c) (hs : ∀ G v, Is C.K G v c → ∃ l vs, v = .ref l ∧ (SqL C.K G l vs ∨ SqT C.K G l vs)) (hg : gloB C.sc "isinstance" = true := by (try dsimp only [Ct.blk]); decide +kernel) (hg2 : gloB C.sc "list" = true := by (try dsimp only [Ct.blk]); decide +kernel) (hg3 : gloB C.sc "tuple" = true := by (try dsimp only [Ct.blk]); decide +kernel)
    (hst : isStar e = false := by rfl) : Xd C (.Call (.Name "isinstance" p) [e, .Tuple [.Name "list" p2, .Name "tuple" p3] k tpos] [] pos) A (.dat (.bool true)) := by
  obtain ⟨ta, a1, a2⟩ := ha
  refine ⟨tIsLT C.K ta, fun X hX => ?_, fun H0 σ G H x m Q q => ?_⟩
  · have z := pe_isiLT (p := p) (pos := pos) (tpos := tpos) (k := k) (a1 X hX) (hX.gl hg) (by rw [hX.mg]; exact g.bIsi)
      (pa_cons (pe_bltn (pos := p2) (hX.gl hg2) (by rw [hX.mg]; exact g.bList) (by decide +kernel) (show RelV (V.ty "list") (.type "list") from rfl) (by decide +kernel) (by decide +kernel))
        (pa_cons (pe_bltn (pos := p3) (hX.gl hg3) (by rw [hX.mg]; exact g.bTuple) (by decide +kernel) (show RelV (V.ty "tuple") (.type "tuple") from rfl) (by decide +kernel) (by decide +kernel)) pa_nil)) (star_one hst)
    rw [hX.K] at z
    exact z
  · refine a2 H0 σ G H x m _ fun v G1 H1 z n1 s1 i1 => ?_
    subst s1
    obtain ⟨l, vs, rfl, h1⟩ := hs _ _ i1
    exact ⟨⟨l, vs, rfl, h1.imp n1.s.sl n1.s.st⟩, fun T hT => q _ _ _ _ (n1.trans (Nx.hid n1.s hT)) rfl mk_bool⟩
theorem xd_isiLT {c : Ab} {ds : List PyData} (ha : Xd C e A c) (hs : seqA c = some ds) (hg : gloB C.sc "isinstance" = true := by (try dsimp only [Ct.blk]); decide +kernel) (hg2 : gloB C.sc "list" = true := by (try dsimp only [Ct.blk]); decide +kernel) (hg3 : gloB C.sc "tuple" = true := by (try dsimp only [Ct.blk]); decide +kernel)
    (hst : isStar e = false := by rfl) : Xd C (.Call (.Name "isinstance" p) [e, .Tuple [.Name "list" p2, .Name "tuple" p3] k tpos] [] pos) A (.dat (.bool true)) :=
  xd_isiLTx ha (fun G v i => let ⟨l, vs, h1, h2, _⟩ := is_seq hs i; ⟨l, vs, h1, h2⟩) hg hg2 hg3 hst
end
/-! ### are_wishes, first_wrong -/
theorem seq_wS (b : Bool) (ps : List Pl) : seqA (wS b ps) = some (ps.map pP) := by cases b <;> rfl
structure WsOk (rows : List (List Nat)) (ps : List Pl) : Prop where
  i : ∀ p ∈ ps, inF rows p = true
  n : ps.Nodup
  l : ps.length < 60
abbrev c_are_wishes : Con := conD (α := List (List Nat) × Bool × List Pl) (fun g => FlOk g.1 ∧ WsOk g.1 g.2.2) (fun g => [.flo g.1, wS g.2.1 g.2.2]) (fun _ => .dat (.bool true))
structure FwOk (rows : List (List Nat)) (p : Pl) (bk : List (Nat × T8)) (ws : List Pl) : Prop where
  f : FlOk rows
  b : p ∈ opens rows
  k : bk.map Prod.fst = letters rows
  w : WsOk rows ws
abbrev c_first_wrong : Con := conD (α := List (List Nat) × Pl × T8 × List (Nat × T8) × Bool × List Pl) (fun g => FwOk g.1 g.2.1 g.2.2.2.1 g.2.2.2.2.2) (fun g => [.flo g.1, .dat (pP g.2.1), .dat (pT g.2.2.1), .book g.2.2.2.1, wS g.2.2.2.2.1 g.2.2.2.2.2]) (fun _ => .dat .none)
section
variable {Γ : Ga} [Gx Γ]
theorem opens_in {rows : List (List Nat)} {p : Pl} (h : p ∈ opens rows) : inF rows p = true := by
  have z := of_decide_eq_true (List.mem_filter.mp h).2
  unfold seen at z
  split at z
  · rename_i c
    exact c
  · exact absurd z (by decide)
theorem sc_are_wishes : FnScope ["floor", "thing", "place"] ["floor", "thing"] (defScope (top 42)) := ⟨rfl, rfl, rfl, by decide +kernel, rfl, by decide +kernel, by decide +kernel⟩
theorem xi_wS {C : Ct} [Gx C.ga] {A : AS} {tg e : Expr} {b : Bool} {ps : List Pl} (h : Xd C e A (wS b ps)) : Xid C tg e A (ps.map fun p => [Ab.dat (pP p)]) := by
  cases b
  · exact xi_eq (xi_list h) (by unfold its1; rw [List.map_map]; rfl)
  · exact xi_eq (xi_tup h) (by unfold its1; rw [List.map_map]; rfl)
theorem lenA_wS (b : Bool) (ps : List Pl) : lenA (wS b ps) = some ps.length := by
  cases b
  · show some (ps.map pP).length = _
    rw [List.length_map]
  · show some (ps.map pP).length = _
    rw [List.length_map]
theorem ok_are_wishes (D : Def Γ "are_wishes" (top 42) ["floor", "thing"]) (h_has : HasM Γ 4 (CF Γ.K) "has" c_has) : HasF Γ 5 "are_wishes" c_are_wishes := by
  refine hasF D sc_are_wishes (fun _ _ => rfl) fun ⟨rows, b, ps⟩ ⟨F, W⟩ => ?_
  have F : FlOk rows := F
  have W : WsOk rows ps := W
  have l60 := W.l
  refine xp_then (xq_ifB (xt_w (xw_or (xt_not (xt_v (xd_isiLT (xd_var 1 rfl) (seq_wS b ps)))) fun _ => (xw_or1 (xt_not (xt_v (xd_all (bs := ps.map fun p => inF rows p) (Xe.as (Xo.lst (xo_lc ps (fun p => [Ab.dat (pP p)]) (fun _ => true) (fun p => .bool (inF rows p)) [("place", 2)] (xi_wS (xd_var 1 rfl)) (by omega) (fun p hp => ⟨_, xg_name 2, xts_nil, fun _ => xd_meth h_has lv Gx.clF (xd_var 0 rfl) ins_flo (rows, p) F (xs_cons (xd_var 2 rfl) xs_nil) rfl rfl⟩))) ?_))))))) (fun hT => ?_) (fun _ => xp_nil rfl)) ?_
  · rw [filt, List.map_map]
    rfl
  · have e : (ps.map fun p => inF rows p).all id = true := by
      rw [List.all_map, List.all_eq_true]
      exact fun p hp => W.i p hp
    rw [e] at hT
    cases hT
  · refine xp_one (xq_retD (Xe.as (Xc.e (xc_eqI (xd_lenSet (xd_var 1 rfl) (seq_wS b ps) W.n (by omega)) (xd_len (xd_var 1 rfl) (lenA_wS b ps)))) ?_) rfl)
    rw [decide_eq_true rfl]
theorem sc_first_wrong : FnScope ["floor", "begin", "turn", "book", "wishes"] ["floor", "begin", "turn", "book", "wishes"] (defScope (top 43)) := ⟨rfl, rfl, rfl, by decide +kernel, rfl, by decide +kernel, by decide +kernel⟩
theorem ok_first_wrong (D : Def Γ "first_wrong" (top 43) ["floor", "begin", "turn", "book", "wishes"]) (h_has : HasM Γ 4 (CF Γ.K) "has" c_has) (h_open_places : HasM Γ 6 (CF Γ.K) "open_places" c_opens) (h_is_turn : HasF Γ 1 "is_turn" c_is_turn) (h_is_book : HasF Γ 7 "is_book" c_is_book)
    (h_are_wishes : HasF Γ 5 "are_wishes" c_are_wishes) : HasF Γ 8 "first_wrong" c_first_wrong := by
  refine hasF D sc_first_wrong (fun _ _ => rfl) fun ⟨rows, p, t, bk, b, ps⟩ W => ?_
  have W : FwOk rows p bk ps := W
  have F := W.f
  have hin : inF rows p = true := opens_in W.b
  refine xp_then (xq_ifB (xt_not (xt_v (xd_isiC (xd_var 0 rfl) Gx.mgF rfl))) (fun hT => by cases hT) (fun _ => xp_nil rfl)) ?_
  refine xp_then (xq_ifB (xt_w (xw_or (xt_not (xt_v (xd_meth h_has lv Gx.clF (xd_var 0 rfl) ins_flo (rows, p) F (xs_cons (xd_var 1 rfl) xs_nil) rfl rfl))) fun _ => (xw_or1 (xt_c (xc_ninD (xd_var 1 rfl) (xd_meth0 h_open_places lv Gx.clF (xd_var 0 rfl) ins_flo rows F rfl rfl) ?_ ?_))))) (fun hT => ?_) (fun _ => xp_nil rfl)) ?_
  · exact sh_ok (sh_pP p)
  · exact sh_ok (sh_list (k := 1) (sh_map fun u _ => sh_pP u))
  · have e : ((opens rows).map pP).any (fun z => PyData.eqv z (pP p)) = true := by
      rw [List.any_map, List.any_eq_true]
      exact ⟨p, W.b, by show PyData.eqv (pP p) (pP p) = true; rw [eqv_pP, decide_eq_true rfl]⟩
    rw [e, hin] at hT
    cases hT
  · refine xp_then (xq_ifB (xt_not (xt_v (xd_call h_is_turn lv t trivial (xs_cons (xd_var 2 rfl) xs_nil) rfl))) (fun hT => by cases hT) (fun _ => xp_nil rfl)) ?_
    refine xp_then (xq_ifB (xt_not (xt_v (xd_call h_is_book lv (rows, bk) ⟨F, W.k⟩ (xs_cons (xd_var 0 rfl) (xs_cons (xd_var 3 rfl) xs_nil)) rfl))) (fun hT => by cases hT) (fun _ => xp_nil rfl)) ?_
    exact xp_one (xq_retD (xe_if (xt_v (xd_call h_are_wishes lv (rows, b, ps) ⟨F, W.w⟩ (xs_cons (xd_var 0 rfl) (xs_cons (xd_var 4 rfl) xs_nil)) rfl)) (fun _ => xd_non) (fun h => by cases h)) rfl)
end
end Oh
set_option maxHeartbeats 4000000
/-! OiM: dict comprehensions by texts. -/
namespace Oh
open PySem L2
theorem odK_fst : ∀ (kvs : List (Str × Ab)) (vs : List V), vs.length = kvs.length → (odK kvs vs).map Prod.fst = kvs.map fun p => (Sum.inr p.1 : Key)
  | [], [], _ => rfl
  | [], _ :: _, h => by cases h
  | _ :: _, [], h => by cases h
  | p :: r, v :: vs, h => by
    show (Sum.inr p.1 : Key) :: (odK r vs).map Prod.fst = _
    rw [odK_fst r vs (Nat.succ.inj h)]
    rfl
theorem val_none {kvs : List (Key × V)} {k : Key} (h : k ∉ kvs.map Prod.fst) : valV kvs k = none := by
  unfold valV
  rw [Option.map_eq_none_iff, List.find?_eq_none]
  intro q hq
  simp only [decide_eq_true_eq]
  exact fun z => h (List.mem_map.mpr ⟨q, hq, z⟩)
section
variable {C : Ct} {A : AS} {kx vx tg iter : Expr} {scope : Scope} {pos : Pos}
/-- {k: v for target in s}, the keys texts of which none comes twice -/
theorem xo_dc {α : Type} (l : List α) (f : α → List Ab) (kf : α → Str) (vf : α → Ab) (own : List (Str × Nat)) (hs : Xid C tg iter A (l.map f)) (hl : l.length ≤ 100000) (hn : (l.map kf).Nodup)
    (hb : ∀ a ∈ l, ∃ A2, Xg (C.blk scope) tg (own.map (·.2)) (wipes A (own.map (·.2))) (f a) A2 ∧ Xd (C.blk scope) kx A2 (.dat (.str (kf a))) ∧ Xd (C.blk scope) vx A2 (vf a))
    (hblk : blkC C.N C.sc scope own = true := by (try dsimp only [Ct.blk]); decide +kernel) (hoff : offs A (own.map (·.2)) := by exact offs_none) (hf : ∀ env x, foldedSetIterable iter env x = pure x := by intro _ _; rfl) :
    Xo C (.DictComp kx vx [⟨tg, iter, [], 0⟩] scope pos) A (fun o => o = .od (l.map fun a => (kf a, vf a))) := by
  obtain ⟨wi, w1, w2⟩ := hs
  refine ⟨tDc wi (UG (C.blk scope) tg) tYes (UE (C.blk scope) kx) (UE (C.blk scope) vx) (own.map (·.2)), fun X hX => pe_dc hX.calm hX.nd (w1 X hX) (by rw [hX.N, hX.sc]; exact blkOk_by hblk) (fun s H Cc cl fp => pg_UG (hX.blk scope s H Cc cl fp)) (fun _ _ _ _ _ => pts_nil)
      (fun s H Cc cl fp => pe_UE (hX.blk scope s H Cc cl fp)) (fun s H Cc cl fp => pe_UE (hX.blk scope s H Cc cl fp)) (hf X.env),
    fun H0 σ G H x m Q q => w2 H0 σ G H x m _ fun J G1 H1 its n1 s1 src D hD => ?_⟩
  subst s1
  obtain ⟨Gd, Y, w, hg, hy⟩ := src.w
  rw [List.length_map] at w hy
  let acc : Nat → List (Str × Ab) := fun i => (l.take i).map fun a => (kf a, vf a)
  refine it_go w (fun i H' => ∃ G' vs, Nx G1 H1 G' H' ∧ G' D = none ∧ H' D = some (.dK (odK (acc i) vs)) ∧ IsA C.K G' vs ((acc i).map Prod.snd)) ⟨G1, [], Nx.hid n1.s hD, n1.s.back hD, upd_same, trivial⟩
    (fun i H' _ ⟨G', vs, n2, _⟩ => hg H' (n2.g.trans n2.s)) (fun i v H' H2 hlt ⟨G', vs, n2, gD, hD', hd⟩ y => ?_) fun H' ⟨G', vs, n2, gD, hD', hd⟩ => ?_
  · obtain ⟨G2, it, n3, hit, hi⟩ := hy i H' v H2 G' hlt n2.g n2.s y
    obtain ⟨a, ha, hm, rfl⟩ := map_get hit
    obtain ⟨A2, ⟨g, g1, g2⟩, hk, hv⟩ := hb a hm
    obtain ⟨gD2, hD2⟩ := n3.n D _ (by exact trivial) gD hD'
    have m2 := ((m.up n1).up ⟨n2.e.trans n3.e, n2.g.trans n3.g, n3.s, fun b o hp h1 h2 => let ⟨k1, k2⟩ := n2.n b o hp h1 h2; n3.n b o hp k1 k2⟩ : M C.K A H0 σ G2 H2).wipes hoff
    refine ⟨g, g1, g2 H0 _ G2 H2 v n3.s m2 hi _ fun σ2 m3 hw => ⟨by rw [hw, wipe_wipe], ?_⟩⟩
    refine hk.ev H0 σ2 G2 H2 n3.s m3 _ fun u G3 H3 c n4 s4 i4 => ?_
    subst s4
    obtain ⟨gD3, hD3⟩ := n4.n D _ (by exact trivial) gD2 hD2
    refine hv.ev H0 σ2 G3 H3 n4.s (m3.up n4) _ fun z G4 H4 c n5 s5 i5 => ?_
    subst s5
    obtain ⟨gD4, hD4⟩ := n5.n D _ (by exact trivial) gD3 hD3
    have e1 : acc (i + 1) = acc i ++ [(kf a, vf a)] := by
      show (l.take (i + 1)).map _ = _
      rw [take_app ha, List.map_append]
      rfl
    have hlen : vs.length = (acc i).length := by rw [hd.len, List.length_map]
    have hlen2 : (odK (acc i) vs).length = (acc i).length := by
      have z := congrArg List.length (odK_fst (acc i) vs hlen)
      rw [List.length_map, List.length_map] at z
      exact z
    have hnew : (Sum.inr (kf a) : Key) ∉ (odK (acc i) vs).map Prod.fst := by
      rw [odK_fst _ _ hlen]
      intro h
      obtain ⟨p, hp, ep⟩ := List.mem_map.mp h
      obtain ⟨b, hbm, rfl⟩ := List.mem_map.mp hp
      have ek : kf b = kf a := Sum.inr.inj ep
      have z : (l.map kf).take (i + 1) = (l.take i).map kf ++ [kf a] := by
        rw [← List.map_take, take_app ha, List.map_append]
        rfl
      have nd : ((l.take i).map kf ++ [kf a]).Nodup := by
        rw [← z]
        exact hn.sublist (List.take_sublist _ _)
      exact (List.nodup_append.mp nd).2.2 (kf b) (List.mem_map.mpr ⟨b, hbm, rfl⟩) (kf a) List.mem_cons_self ek
    refine ⟨odK (acc i) vs, Sum.inr (kf a), is_str i4, hD4, ?_, G4, vs ++ [z], (((n2.trans n3).trans n4).trans n5).mut hD gD4, gD4, ?_, ?_⟩
    · rw [hlen2]
      show ((l.take i).map _).length < _
      rw [List.length_map, List.length_take]
      exact small_lt (by omega)
    · rw [putK_new z (val_none hnew), e1, odK_app hlen]
      exact upd_same
    · rw [e1, List.map_append]
      exact isA_app (isA_up ((n3.g.trans n4.g).trans n5.g) hd) ⟨i5, trivial⟩
  · have e : acc l.length = l.map fun a => (kf a, vf a) := by
      show (l.take l.length).map _ = _
      rw [List.take_length]
    rw [e] at hD' hd
    exact q D G' H' _ (n1.trans n2) (n1.e.dom D hD) gD rfl ⟨vs, hD', hd⟩
end
end Oh
set_option maxHeartbeats 4000000
/-! OiN: walks: a world made, a world equal. -/
namespace Oh
open PySem L2
/-- the world made of these -/
def wdN (rows : List (List Nat)) (p : Pl) (t : T8) (bk : List (Nat × T8)) (ps : List Pl) : Wd := ⟨rows, bk, sP ps, p, some (p, t)⟩
abbrev ci_World : ConI := ⟨List (List Nat) × Pl × T8 × List (Nat × T8) × Bool × List Pl, fun g => FwOk g.1 g.2.1 g.2.2.2.1 g.2.2.2.2.2, fun g => [.flo g.1, .dat (pP g.2.1), .dat (pT g.2.2.1), .book g.2.2.2.1, wS g.2.2.2.2.1 g.2.2.2.2.2], fun g => wdA (wdN g.1 g.2.1 g.2.2.1 g.2.2.2.1 g.2.2.2.2.2)⟩
theorem book_again {rows : List (List Nat)} {bk : List (Nat × T8)} (hb : bk.map Prod.fst = letters rows) : (letters rows).map (fun c => (tx [c], Ab.dat (pT ((lkB bk c).getD 0)))) = bkA bk := by
  have nd : (bk.map Prod.fst).Nodup := by
    rw [hb]
    exact letters_nodup rows
  rw [← hb, List.map_map]
  unfold bkA
  refine List.map_congr_left fun p hp => ?_
  show (tx [p.1], Ab.dat (pT ((lkB bk p.1).getD 0))) = _
  rw [lkB_mem nd hp]
  rfl
theorem in64 {rows : List (List Nat)} {p : Pl} (F : FlOk rows) (h : inF rows p = true) : P64 p := by
  obtain ⟨⟨a1, a2⟩, b1, b2⟩ := inF_iff.mp h
  have f1 := F.h2
  have f2 := F.w2
  unfold hgt at a2
  unfold P64
  omega
theorem off_own {A : AS} {i j : Nat} {o : Ow} (h : A.ow = some (j, o)) (hne : j ≠ i := by decide) : AS.off A i := fun j' o' h' => by
  rw [h] at h'
  cases h'
  exact hne
section
variable {Γ : Ga} [Gx Γ]
theorem sc_winit : FnScope ["self", "floor", "begin", "turn", "book", "wishes", "wrong", "letter"] ["self", "floor", "begin", "turn", "book", "wishes"] (defScope (wl 0)) := ⟨rfl, rfl, rfl, by decide +kernel, rfl, by decide +kernel, by decide +kernel⟩
theorem fn_winit {f : Addr} {fd : FuncData} {dvs : List V} {kws : List (Str × V)} (F : FunD Γ.K "__init__" "World.__init__" (defArgs (wl 0)) (defBody (wl 0)) (defScope (wl 0)) dvs kws f fd) (h_first_wrong : HasF Γ 8 "first_wrong" c_first_wrong) (h_letters : HasM Γ 6 (CF Γ.K) "letters" c_letters) :
    FnOk Γ.P Γ.w Γ.K Γ.mg Γ.base CX0 9 f fd ["self", "floor", "begin", "turn", "book", "wishes"] (spI Γ.K (CW Γ.K) ci_World) := by
  refine fn_okI F sc_winit (fun _ _ => rfl) fun ⟨rows, p, t, bk, b, ps⟩ x W => ?_
  have W : FwOk rows p bk ps := W
  have F := W.f
  have l60 := W.w.l
  have h4 : (letters rows).length ≤ 4 := Nat.le_trans (List.length_filter_le _ _) (by decide)
  refine xp_then (xq_setD 6 (xd_call h_first_wrong lv (rows, p, t, bk, b, ps) W (xs_cons (xd_var 1 rfl) (xs_cons (xd_var 2 rfl) (xs_cons (xd_var 3 rfl) (xs_cons (xd_var 4 rfl) (xs_cons (xd_var 5 rfl) xs_nil))))) rfl) rfl (hi := off_own rfl)) ?_
  refine xp_then (xq_ifB (xt_c (xc_notN (xd_var 6 rfl))) (fun hT => by cases hT) (fun _ => xp_nil rfl)) ?_
  refine xp_then (xq_fldD 0 rfl Gx.clW Gx.aGround (xd_var 1 rfl) rfl) ?_
  refine xp_then (xq_fldD 0 rfl Gx.clW Gx.aPages (a := .book bk) ((xo_dc (letters rows) (fun c => [Ab.dat (pS [c])]) (fun c => tx [c]) (fun c => .dat (pT ((lkB bk c).getD 0))) [("letter", 7)] (xi_txt (xd_meth0 h_letters lv Gx.clF (xd_var 1 rfl) ins_flo rows F rfl rfl)) (by omega) ?_ (fun c hc => ⟨_, xg_name 7 (hi := off_own rfl), xd_var 7 rfl, ?_⟩) (hoff := ?_)).xe fun o e => ⟨_, by rw [e, book_again W.k]; exact pub_book, rfl⟩) rfl) ?_
  · exact nodup_map (fun _ _ e => one_inj e) (letters_nodup rows)
  · obtain ⟨u, hu⟩ := lkB_has (bk := bk) (c := c) (by rw [W.k]; exact hc)
    refine xe_if (xt_c (xc_isN (xd_var 4 rfl))) (fun h => by cases h) (fun _ => Xe.as (xd_getB (xd_var 4 rfl) (xd_var 7 rfl) hu) ?_)
    rw [hu]
    rfl
  · intro i hi j o h
    cases List.mem_singleton.mp hi
    cases h
    decide
  · refine xp_then (xq_fldD 0 rfl Gx.clW Gx.aGoals (xd_tuple (xd_nl (xn_sorted (xd_var 5 rfl) (seq_wS b ps) (fun z hz => in64 F (W.w.i z hz)) (by omega))) rfl) rfl) ?_
    refine xp_then (xq_fldD 0 rfl Gx.clW Gx.aOpening (xd_var 2 rfl) rfl) ?_
    exact xp_one (xq_fldD 0 rfl Gx.clW Gx.aFirst (xd_tup (xs_cons (xd_var 2 rfl) (xs_cons (xd_var 3 rfl) xs_nil))) rfl)
end
end Oh
set_option maxHeartbeats 4000000
/-! OiO: a world made by keywords. -/
namespace Oh
open PySem L2
abbrev wPs : List Str := ["self", "floor", "begin", "turn", "book", "wishes"]
structure HasW (Γ : Ga) (k : Nat) : Prop where
  h : ∃ (f : Addr) (fd : FuncData), FnOk Γ.P Γ.w Γ.K Γ.mg Γ.base CX0 k f fd wPs (spI Γ.K (CW Γ.K) ci_World) ∧ Mk Γ.K (CW Γ.K) f ∧
    (∃ g, KBn Γ.K fd wPs 3 ["turn", "book", "wishes"] g (fun vs zs => vs ++ zs)) ∧ (∃ g, KBn Γ.K fd wPs 3 ["book", "wishes"] g (fun vs zs => vs ++ V.str (tx (tt 0)) :: zs))
section
variable {C : Ct} [gx : Gx C.ga] {A : AS} {e1 e2 e3 e4 e5 : Expr} {pos p p3 p4 p5 : Pos} {x : Str} {k : Nat} {rows : List (List Nat)} {pl : Pl} {t : T8} {bk : List (Nat × T8)} {b : Bool} {ps : List Pl}
theorem made_w {G1 H1 G2 H2 H0 G H : Hp} {σ : L2.St} {vs : List V} {Q : VK} (n1 : Nx G H G1 H1) (hp : FwOk rows pl bk ps) (i : IsA C.K G1 vs [.flo rows, .dat (pP pl), .dat (pT t), .book bk, wS b ps])
    (q : ∀ p G' H' o, Nx G H G' H' → H p = none → G' p = none → (∃ y, o = .oi y (CW C.K) (wdA (wdN rows pl t bk ps))) → OwIs C.K H G' H' p o → Q (.ref p) H') (y dx : Addr) (hy : H1 y = none) (hdx : H1 dx = none) (hne : dx ≠ y) :
    spI C.K (CW C.K) ci_World (.ref y :: vs) (upd (upd H1 dx (.own y)) y (.ins (CW C.K) dx [])) (fun v H3 => v = .non ∧ Q (.ref y) H3) E0 := by
  obtain ⟨n2, h2⟩ := made_own (K := C.K) (Cl := CW C.K) n1.s hy hdx hne
  exact ⟨(rows, pl, t, bk, b, ps), G1, H1, y, dx, vs, hp, rfl, n2, hy, n1.s.back hy, h2, i, fun G' H' n3 hg3 ho => ⟨rfl, q y G' H' _ (n1.trans n3) (n1.e.dom y hy) hg3 ⟨y, rfl⟩ (OwIs.base n1.e ho)⟩⟩
theorem isA_app2 {K : PySem.W.Frag} {G : Hp} {vs us : List V} {as bs : List Ab} (h : IsA K G vs as) (i : IsA K G us bs) : IsA K G (vs ++ us) (as ++ bs) := isA_app h i
/-- World(floor, begin, turn = .., book = .., wishes = ..) -/
theorem xo_world3 (F : HasW C.ga k) (hm : C.ga.mg x = some (.ref (CW C.K))) (hk : k + 1 ≤ C.k) (hp : FwOk rows pl bk ps) (h1 : Xd C e1 A (.flo rows)) (h2 : Xd C e2 A (.dat (pP pl))) (h3 : Xd C e3 A (.dat (pT t))) (h4 : Xd C e4 A (.book bk)) (h5 : Xd C e5 A (wS b ps))
    (hg : gloB C.sc x = true := by (try dsimp only [Ct.blk]); decide +kernel) (hst : noStars [e1, e2] = true := by rfl) (hdb : (x == ("__debug__" : Str)) = false := by decide +kernel) :
    Xo C (.Call (.Name x p) [e1, e2] [⟨some "turn", e3, p3⟩, ⟨some "book", e4, p4⟩, ⟨some "wishes", e5, p5⟩] pos) A (fun o => ∃ y, o = .oi y (CW C.K) (wdA (wdN rows pl t bk ps))) := by
  obtain ⟨f, fd, F, M, ⟨gg, hb⟩, _⟩ := F.h
  obtain ⟨t1, a1, b1⟩ := (xs_cons h1 (xs_cons h2 xs_nil (noStars_cons (noStars_cons hst).2).1) (noStars_cons hst).1 : Xs C [e1, e2] A [.flo rows, .dat (pP pl)])
  obtain ⟨t3, a3, b3⟩ := h3
  obtain ⟨t4, a4, b4⟩ := h4
  obtain ⟨t5, a5, b5⟩ := h5
  refine ⟨tMakeK (CW C.K) 2 3 (spI C.K (CW C.K) ci_World) (fun vs zs => vs ++ zs) E0 t1 (tCons t3 (tCons t4 (tCons t5 tNil))),
    fun X hX => pe_makeK (by rw [hX.K]; exact M) (On_fn hX F) (hX.room.mono hk) (hX.gl hg) (by rw [hX.mg]; exact hm) (by rw [hX.K]; exact hb) pass0 (a1 X hX) (pk_cons (a3 X hX) (pk_cons (a4 X hX) (pk_cons (a5 X hX) pk_nil))) rfl rfl hdb (star_one (noStars_cons hst).1) ?_,
    fun H0 σ G H x m Q q => b1 H0 σ G H x m _ fun vs G1 H1 as n1 s1 i1 => ?_⟩
  · rw [backTo_any (noStars_any hst)]
    rfl
  · subst s1
    have k5 : EvA C.K (tCons t5 tNil) A (fun as => as = [wS b ps]) := ea_cons b5 ea_nil (fun a as e1 e2 => by rw [e1, e2])
    have k4 : EvA C.K (tCons t4 (tCons t5 tNil)) A (fun as => as = [.book bk, wS b ps]) := ea_cons b4 k5 (fun a as e1 e2 => by rw [e1, e2])
    have bk3 : EvA C.K (tCons t3 (tCons t4 (tCons t5 tNil))) A (fun as => as = [.dat (pT t), .book bk, wS b ps]) := ea_cons b3 k4 (fun a as e1 e2 => by rw [e1, e2])
    refine bk3 H0 σ G1 H1 n1.s (m.up n1) _ fun zs G2 H2 as n2 s2 i2 => ?_
    subst s2
    have n3 := n1.trans n2
    refine ⟨i1.len, i2.len, fun y dx hy hdx hne => ?_⟩
    exact made_w (H0 := H0) (σ := σ) (G2 := G2) (H2 := H2) (b := b) n3 hp (isA_app (isA_up n2.g i1) i2) q y dx hy hdx hne
/-- World(floor, begin, book = .., wishes = ..) -/
theorem xo_world2 (F : HasW C.ga k) (hm : C.ga.mg x = some (.ref (CW C.K))) (hk : k + 1 ≤ C.k) (hp : FwOk rows pl bk ps) (h1 : Xd C e1 A (.flo rows)) (h2 : Xd C e2 A (.dat (pP pl))) (h4 : Xd C e4 A (.book bk)) (h5 : Xd C e5 A (wS b ps))
    (hg : gloB C.sc x = true := by (try dsimp only [Ct.blk]); decide +kernel) (hst : noStars [e1, e2] = true := by rfl) (hdb : (x == ("__debug__" : Str)) = false := by decide +kernel) :
    Xo C (.Call (.Name x p) [e1, e2] [⟨some "book", e4, p4⟩, ⟨some "wishes", e5, p5⟩] pos) A (fun o => ∃ y, o = .oi y (CW C.K) (wdA (wdN rows pl 0 bk ps))) := by
  obtain ⟨f, fd, F, M, _, ⟨gg, hb⟩⟩ := F.h
  obtain ⟨t1, a1, b1⟩ := (xs_cons h1 (xs_cons h2 xs_nil (noStars_cons (noStars_cons hst).2).1) (noStars_cons hst).1 : Xs C [e1, e2] A [.flo rows, .dat (pP pl)])
  obtain ⟨t4, a4, b4⟩ := h4
  obtain ⟨t5, a5, b5⟩ := h5
  refine ⟨tMakeK (CW C.K) 2 2 (spI C.K (CW C.K) ci_World) (fun vs zs => vs ++ V.str (tx (tt 0)) :: zs) E0 t1 (tCons t4 (tCons t5 tNil)),
    fun X hX => pe_makeK (by rw [hX.K]; exact M) (On_fn hX F) (hX.room.mono hk) (hX.gl hg) (by rw [hX.mg]; exact hm) (by rw [hX.K]; exact hb) pass0 (a1 X hX) (pk_cons (a4 X hX) (pk_cons (a5 X hX) pk_nil)) rfl rfl hdb (star_one (noStars_cons hst).1) ?_,
    fun H0 σ G H x m Q q => b1 H0 σ G H x m _ fun vs G1 H1 as n1 s1 i1 => ?_⟩
  · rw [backTo_any (noStars_any hst)]
    rfl
  · subst s1
    have k5 : EvA C.K (tCons t5 tNil) A (fun as => as = [wS b ps]) := ea_cons b5 ea_nil (fun a as e1 e2 => by rw [e1, e2])
    have k4 : EvA C.K (tCons t4 (tCons t5 tNil)) A (fun as => as = [.book bk, wS b ps]) := ea_cons b4 k5 (fun a as e1 e2 => by rw [e1, e2])
    refine k4 H0 σ G1 H1 n1.s (m.up n1) _ fun zs G2 H2 as n2 s2 i2 => ?_
    subst s2
    have n3 := n1.trans n2
    refine ⟨i1.len, i2.len, fun y dx hy hdx hne => ?_⟩
    have i3 : IsA C.K G2 (V.str (tx (tt 0)) :: zs) [.dat (pT 0), .book bk, wS b ps] := ⟨mk_str, i2⟩
    exact made_w (H0 := H0) (σ := σ) (G2 := G2) (H2 := H2) (b := b) (t := 0) n3 hp (isA_app (isA_up n2.g i1) i3) q y dx hy hdx hne
end
end Oh
set_option maxHeartbeats 4000000
/-! OiP: walks: begun. -/
namespace Oh
open PySem L2
/-- a world's parts, fit for making another of them -/
structure BgOk (w : Wd) : Prop where
  m : FwOk w.rows w.opening w.book w.goals
  g : sP w.goals = w.goals
abbrev c_begun : Con := conD (α := Wd × Sd) (fun g => BgOk g.1 ∧ StOk g.1.rows g.2) (fun g => [.wor g.1, .dat (pSd g.2)]) (fun g => .wor { g.1 with first := g.2 })
section
variable {Γ : Ga} [Gx Γ]
theorem sc_begun : FnScope ["self", "stand", "found"] ["self", "stand"] (defScope (wl 7)) := ⟨rfl, rfl, rfl, by decide +kernel, rfl, by decide +kernel, by decide +kernel⟩
theorem ok_begun (D : MDef Γ (CW Γ.K) "begun" "World.begun" (wl 7) ["self", "stand"]) (h_want_stand : HasM Γ 8 (CW Γ.K) "want_stand" c_wwant) (h_World : HasW Γ 9) : HasM Γ 11 (CW Γ.K) "begun" c_begun := by
  refine hasM D sc_begun (fun _ _ => rfl) fun ⟨w, s⟩ ⟨B, hs⟩ => ?_
  have B : BgOk w := B
  refine xp_then (xq_expr (xd_meth h_want_stand lv Gx.clW (xd_var 0 rfl) ins_wor (w, s) ⟨B.m.f, hs⟩ (xs_cons (xd_var 1 rfl) xs_nil) rfl rfl) rfl) ?_
  refine xp_cons (Mid := fun Z => ∃ y, Z = ⟨[some (.wor w), some (.dat (pSd s)), none], some (2, .oi y (CW Γ.K) (wdA (wdN w.rows w.opening 0 w.book w.goals)))⟩) (xq_own 2 (xo_world2 (b := true) (ps := w.goals) h_World Gx.mgW lv B.m (xd_ground (xd_var 0 rfl)) (xd_opening (xd_var 0 rfl)) (xd_pages (xd_var 0 rfl)) (xd_goals (xd_var 0 rfl))) (fun o ⟨y, e⟩ => ⟨y, by rw [e]; rfl⟩)) ?_
  rintro Z ⟨y, rfl⟩
  refine xp_then (xq_fldD 2 rfl Gx.clW Gx.aFirst (xd_var 1 rfl) rfl) ?_
  refine xp_pub (i := 2) (a := .wor { w with first := s }) rfl ?_ (xp_one (xq_retD (xd_var 2 rfl) rfl))
  have e : putI "first" (.dat (pSd s)) (wdA (wdN w.rows w.opening 0 w.book w.goals)) = wdA { w with first := s } := by
    show [_, _, _, _, _] = [_, _, _, _, _]
    unfold wdN
    rw [B.g]
  rw [e]
  exact pub_wor
end
end Oh
set_option maxHeartbeats 4000000
/-! OiQ: walks: stand_pictured, hand_turned. -/
namespace Oh
open PySem L2
def stP (s : Sd) (t : T8) (h w : Int) : Sd := s.map fun z => (pt t z.1 h w, cm z.2 t)
abbrev c_stand_pictured : Con := conD (α := Sd × T8 × Int × Int) (fun g => ∀ z, g.1 = some z → inR z.1 g.2.2.1 g.2.2.2 = true) (fun g => [.dat (pSd g.1), .dat (pT g.2.1), .dat (.tuple [.int g.2.2.1, .int g.2.2.2])]) (fun g => .dat (pSd (stP g.1 g.2.1 g.2.2.1 g.2.2.2)))
/-- the same place, the sense turned from the inside -/
def hdT (s : Sd) (t : T8) : Sd := s.map fun z => (z.1, cm t z.2)
abbrev c_hand_turned : Con := conD (α := Wd × T8) (fun g => BgOk g.1 ∧ StOk g.1.rows g.1.first) (fun g => [.wor g.1, .dat (pT g.2)]) (fun g => .wor { g.1 with first := hdT g.1.first g.2 })
section
variable {Γ : Ga} [Gx Γ]
theorem sc_stand_pictured : FnScope ["stand", "turn", "size", "place", "mine"] ["stand", "turn", "size"] (defScope (top 47)) := ⟨rfl, rfl, rfl, by decide +kernel, rfl, by decide +kernel, by decide +kernel⟩
theorem ok_stand_pictured (D : Def Γ "stand_pictured" (top 47) ["stand", "turn", "size"]) (h_place_turned : HasF Γ 4 "place_turned" c_place_turned) (h_then : HasF Γ 5 "then" c_then) : HasF Γ 6 "stand_pictured" c_stand_pictured := by
  refine hasF D sc_stand_pictured (fun _ _ => rfl) fun ⟨s, t, h, w⟩ hp => ?_
  match s, hp with
  | none, _ => exact xp_cons (Mid := fun B => False) (xq_ifB (xt_c (xc_isN (xd_var 0 rfl))) (fun hT => xp_one (xq_retD xd_non rfl)) (fun hF => by cases hF)) fun _ h => h.elim
  | some (p, u), hp =>
    have hi : inR p h w = true := hp (p, u) rfl
    refine xp_then (xq_ifB (xt_c (xc_isN (xd_var 0 rfl))) (fun hT => by cases hT) (fun _ => xp_nil rfl)) ?_
    refine xp_then (xq_asgD [3, 4] (xd_var 0 rfl) (xg_pairD 3 4) rfl) ?_
    exact xp_one (xq_retD (xd_tup (ds := [pP (pt t p h w), pT (cm u t)]) (xs_cons (xd_call h_place_turned lv (t, p, h, w) hi (xs_cons (xd_var 1 rfl) (xs_cons (xd_var 3 rfl) (xs_cons (xd_ixT (xd_var 2 rfl) xd_int (atI_nat (j := 0) rfl)) (xs_cons (xd_ixT (xd_var 2 rfl) xd_int (atI_nat (j := 1) rfl)) xs_nil)))) rfl) (xs_cons (xd_call h_then lv (u, t) trivial (xs_cons (xd_var 4 rfl) (xs_cons (xd_var 1 rfl) xs_nil)) rfl) xs_nil))) rfl)
theorem sc_hand_turned : FnScope ["world", "turn", "stand"] ["world", "turn"] (defScope (top 49)) := ⟨rfl, rfl, rfl, by decide +kernel, rfl, by decide +kernel, by decide +kernel⟩
theorem ok_hand_turned (D : Def Γ "hand_turned" (top 49) ["world", "turn"]) (h_want_turn : HasF Γ 2 "want_turn" c_want_turn) (h_start : HasM Γ 1 (CW Γ.K) "start" c_wstart) (h_begun : HasM Γ 11 (CW Γ.K) "begun" c_begun) (h_then : HasF Γ 5 "then" c_then) : HasF Γ 12 "hand_turned" c_hand_turned := by
  refine hasF D sc_hand_turned (fun _ _ => rfl) fun ⟨⟨rows, bk, goals, op, first⟩, t⟩ ⟨B, hs⟩ => ?_
  refine xp_then (xq_expr (xd_call h_want_turn lv t trivial (xs_cons (xd_var 1 rfl) xs_nil) rfl) rfl) ?_
  refine xp_then (xq_setD 2 (xd_meth0 h_start lv Gx.clW (xd_var 0 rfl) ins_wor ⟨rows, bk, goals, op, first⟩ trivial rfl rfl) rfl) ?_
  match first, hs with
  | none, _ => exact xp_cons (Mid := fun B => False) (xq_ifB (xt_c (xc_isN (xd_var 2 rfl))) (fun hT => xp_one (xq_retD (xd_meth h_begun lv Gx.clW (xd_var 0 rfl) ins_wor (⟨rows, bk, goals, op, none⟩, none) ⟨B, trivial⟩ (xs_cons xd_non xs_nil) rfl rfl) rfl)) (fun hF => by cases hF)) fun _ h => h.elim
  | some (p, u), hs =>
    refine xp_then (xq_ifB (xt_c (xc_isN (xd_var 2 rfl))) (fun hT => by cases hT) (fun _ => xp_nil rfl)) ?_
    exact xp_one (xq_retD (xd_meth h_begun lv Gx.clW (xd_var 0 rfl) ins_wor (⟨rows, bk, goals, op, some (p, u)⟩, some (p, cm t u)) ⟨B, hs⟩ (xs_cons (xd_tup (ds := [pP p, pT (cm t u)]) (xs_cons (xd_ixT (xd_var 2 rfl) xd_int (atI_nat (j := 0) rfl)) (xs_cons (xd_call h_then lv (t, u) trivial (xs_cons (xd_var 1 rfl) (xs_cons (xd_ixT (xd_var 2 rfl) xd_int (atI_nat (j := 1) rfl)) xs_nil)) rfl) xs_nil))) xs_nil) rfl rfl) rfl)
end
end Oh
set_option maxHeartbeats 4000000
/-! OiR: walks: worlds equal, a hand made. -/
namespace Oh
open PySem L2
/-- two worlds of one floor and one set of letters -/
structure EqOk (a b : Wd) : Prop where
  fa : FlOk a.rows
  fb : FlOk b.rows
  r : a.rows = b.rows
  ka : a.book.map Prod.fst = letters a.rows
  kb : b.book.map Prod.fst = letters b.rows
abbrev c_weq : Con := conD (α := Wd × Wd) (fun g => EqOk g.1 g.2) (fun g => [.wor g.1, .wor g.2]) (fun g => .dat (.bool (decide (g.1.book = g.2.book) && (decide (g.1.goals = g.2.goals) && decide (g.1.first = g.2.first)))))
section
variable {Γ : Ga} [Gx Γ]
theorem sc_weq : FnScope ["self", "other"] ["self", "other"] (defScope (wl 1)) := ⟨rfl, rfl, rfl, by decide +kernel, rfl, by decide +kernel, by decide +kernel⟩
theorem ok_weq (D : MDef Γ (CW Γ.K) "__eq__" "World.__eq__" (wl 1) ["self", "other"]) (h_feq : HasM Γ 1 (CF Γ.K) "__eq__" c_feq) (E : EqF Γ.K (CF Γ.K)) : HasM Γ 3 (CW Γ.K) "__eq__" c_weq := by
  refine hasM D sc_weq (fun _ _ => rfl) fun ⟨a, b⟩ O => ?_
  have O : EqOk a b := O
  have sg : ∀ ps : List Pl, SeqAt.shaped (.tuple (ps.map pP)) = true := fun ps => sh_ok (sh_tup (k := 1) (sh_map fun u _ => sh_pP u))
  have ss : ∀ s : Sd, SeqAt.shaped (pSd s) = true := fun s => sh_ok (sh_pSd s)
  refine xp_cons (Mid := fun Z => a.book = b.book ∧ Z = ⟨[some (.wor a), some (.wor b)], none⟩) (xq_ifB (xt_w (xw_or (xt_not (xt_v (xd_isiC (xd_var 1 rfl) Gx.mgW rfl))) fun _ => (xw_or (xt_c (xc_ownNe (r := true) h_feq E boolD lv (xd_ground (xd_var 0 rfl)) (xd_ground (xd_var 1 rfl)) (a.rows, b.rows) ⟨O.fa, O.fb⟩ rfl ins_flo ins_flo (fun z e => ?_))) fun _ => (xw_or1 (xt_c (xc_neBk (xd_pages (xd_var 0 rfl)) (xd_pages (xd_var 1 rfl)) ?_ ?_)))))) (fun hT => xp_one (xq_retD xd_bl ?_)) (fun hF => xp_nil ⟨?_, rfl⟩)) ?_
  · have e' : Ab.dat (.bool z) = .dat (.bool (decide (a.rows = b.rows))) := e
    rw [decide_eq_true O.r] at e'
    cases e'
    rfl
  · rw [O.ka, O.kb, O.r]
  · rw [O.kb]
    exact letters_nodup _
  · have h : decide (a.book = b.book) = false := by
      cases c : decide (a.book = b.book) with
      | false => rfl
      | true =>
        rw [c] at hT
        cases hT
    show _ = Ab.dat (.bool (decide (a.book = b.book) && _))
    rw [h]
    rfl
  · cases c : decide (a.book = b.book) with
    | true => exact of_decide_eq_true c
    | false =>
      rw [c] at hF
      cases hF
  · rintro Z ⟨h, rfl⟩
    refine xp_one (xq_retD (Xe.as (xd_and (Xc.e (xc_eqD (xd_goals (xd_var 0 rfl)) (xd_goals (xd_var 1 rfl)) (sg a.goals) (sg b.goals))) fun _ => (xe_one (Xc.e (xc_eqD (xd_first (xd_var 0 rfl)) (xd_first (xd_var 1 rfl)) (ss a.first) (ss b.first))))) ?_) rfl)
    rw [eqv_tup eqv_pP, eqv_pSd]
    show _ = Ab.dat (.bool (decide (a.book = b.book) && _))
    rw [decide_eq_true h, Bool.true_and]
end
end Oh
set_option maxHeartbeats 4000000
/-! OiS: walks: a hand made. -/
namespace Oh
open PySem L2
abbrev c_are_worlds : Con := conD (α := List Wd) (fun ws => 1 ≤ ws.length ∧ ws.length ≤ 4) (fun ws => [.wls false ws]) (fun _ => .dat (.bool true))
abbrev ci_Hand : ConI := ⟨List Wd, fun ws => 1 ≤ ws.length ∧ ws.length ≤ 4, fun ws => [.wls false ws], fun ws => [("ones", .wls true ws)]⟩
section
variable {C : Ct} [g : Gx C.ga] {A : AS} {e : Expr} {p pos : Pos}
theorem xd_tupleW {ws : List Wd} (ha : Xd C e A (.wls false ws)) (hg : gloB C.sc "tuple" = true := by (try dsimp only [Ct.blk]); decide +kernel) (hst : noStars [e] = true := by rfl) : Xd C (.Call (.Name "tuple" p) [e] [] pos) A (.wls true ws) :=
  xe_callTy on_tuple g.bTuple (by decide +kernel) (xs_cons ha xs_nil (noStars_cons hst).1) (rc_d fun vs G H x ia Q q => by
    obtain ⟨v, rfl, i⟩ := isA_one ia
    obtain ⟨l, us, rfl, h1, h2⟩ := i
    exact ⟨l, us, rfl, Or.inl ⟨x.sl h1, fun t ht => q _ _ _ _ (Nx.new (o := .tup us) x ht) rfl ⟨t, us, rfl, SqT.of upd_same, isWs_up (Ex.new (x.back ht)) h2⟩⟩⟩) hg hst
end
section
variable {Γ : Ga} [Gx Γ]
theorem sc_are_worlds : FnScope ["thing", "one"] ["thing"] (defScope (top 52)) := ⟨rfl, rfl, rfl, by decide +kernel, rfl, by decide +kernel, by decide +kernel⟩
theorem ok_are_worlds (D : Def Γ "are_worlds" (top 52) ["thing"]) : HasF Γ 1 "are_worlds" c_are_worlds := by
  refine hasF D sc_are_worlds (fun _ _ => rfl) fun ws ⟨h1, h2⟩ => ?_
  have h1 : 1 ≤ ws.length := h1
  have h2 : ws.length ≤ 4 := h2
  refine xp_then (xq_ifB (xt_w (xw_or (xt_not (xt_v (xd_isiLTx (xd_var 0 rfl) (fun G v i => ?_)))) fun _ => (xw_or1 (xt_not (xt_c (xc_chain (fun _ _ => op_le) (fun _ _ => op_le) xd_int (xd_len (xd_var 0 rfl) rfl) xd_cMOST_WORLDS)))))) (fun hT => ?_) (fun _ => xp_nil rfl)) ?_
  · obtain ⟨l, vs, h1, h2, _⟩ := i
    exact ⟨l, vs, h1, Or.inl h2⟩
  · rw [decide_eq_true (by omega : (1 : Int) ≤ (ws.length : Int)), decide_eq_true (by omega : (ws.length : Int) ≤ 4)] at hT
    cases hT
  · refine xp_one (xq_retD (Xe.as (xd_all (bs := ws.map fun _ => true) (Xe.as (Xo.lst (xo_lc ws (fun w => [Ab.wor w]) (fun _ => true) (fun _ => .bool true) [("one", 1)] (xi_wls (xd_var 0 rfl)) (by omega) (fun w _ => ⟨_, xg_name 1, xts_nil, fun _ => xd_isiC (xd_var 1 rfl) Gx.mgW rfl⟩))) ?_)) ?_) rfl)
    · rw [filt, List.map_map]
      rfl
    · rw [List.all_map]
      congr 2
      rw [List.all_eq_true]
      exact fun _ _ => rfl
theorem sc_hinit : FnScope ["self", "worlds"] ["self", "worlds"] (defScope (hl 0)) := ⟨rfl, rfl, rfl, by decide +kernel, rfl, by decide +kernel, by decide +kernel⟩
theorem ok_hinit {f : Addr} {fd : FuncData} (F : FunD Γ.K "__init__" "Hand.__init__" (defArgs (hl 0)) (defBody (hl 0)) (defScope (hl 0)) [] [] f fd) (M : Mk Γ.K (CH Γ.K) f) (hb : Binds Γ.K fd ["self", "worlds"] []) (h_are_worlds : HasF Γ 1 "are_worlds" c_are_worlds) : HasI Γ 2 (CH Γ.K) ci_Hand := by
  refine ⟨f, fd, _, fn_okI F sc_hinit (fun _ _ => rfl) fun ws x hp => ?_, M, hb⟩
  refine xp_then (xq_ifB (xt_not (xt_v (xd_call h_are_worlds lv ws hp (xs_cons (xd_var 1 rfl) xs_nil) rfl))) (fun hT => by cases hT) (fun _ => xp_nil rfl)) ?_
  exact xp_one (xq_fldD 0 rfl Gx.clH Gx.aOnes (xd_tupleW (xd_var 1 rfl)) rfl)
end
end Oh
set_option maxHeartbeats 4000000
/-! OiT: walk: a world of a land. -/
namespace Oh
open PySem L2
abbrev c_made : Con := conD (α := List (List Nat) × Pl × T8 × List (Nat × T8) × List Pl) (fun g => FwOk g.1 g.2.1 g.2.2.2.1 g.2.2.2.2) (fun g => [.land g.1 (some (g.2.1, g.2.2.1)) g.2.2.2.1 g.2.2.2.2]) (fun g => .wor (wdN g.1 g.2.1 g.2.2.1 g.2.2.2.1 g.2.2.2.2))
section
variable {Γ : Ga} [Gx Γ]
theorem sc_made : FnScope ["_law_land_here", "_law_spot", "_law_sense_here", "_law_floor"] ["_law_land_here"] (defScope (top 62)) := ⟨rfl, rfl, rfl, by decide +kernel, rfl, by decide +kernel, by decide +kernel⟩
theorem ok_made (D : Def Γ "_law_made" (top 62) ["_law_land_here"]) (h_Floor : HasI Γ 3 (CF Γ.K) ci_Floor) (h_World : HasW Γ 9) : HasF Γ 11 "_law_made" c_made := by
  refine hasF D sc_made (fun _ _ => rfl) fun ⟨rows, p, t, bk, ps⟩ W => ?_
  have W : FwOk rows p bk ps := W
  refine xp_then (xq_asgD [1, 2] (xd_lStart (xd_var 0 rfl)) (xg_pairD 1 2) rfl) ?_
  refine xp_then (xq_setD 3 ((xo_make h_Floor Gx.mgF lv rows W.f (xs_cons (xd_nl (xn_list (xd_lRows (xd_var 0 rfl)) rfl)) xs_nil)).xe fun o ⟨y, e⟩ => ⟨_, by rw [e]; exact pub_flo, rfl⟩) rfl) ?_
  exact xp_one (xq_retD ((xo_world3 (b := false) h_World Gx.mgW lv W (xd_var 3 rfl) (xd_var 1 rfl) (xd_var 2 rfl) (xd_dictB (xd_lBook (xd_var 0 rfl))) (xd_nl (xn_list (xd_lWished (xd_var 0 rfl)) rfl))).xe fun o ⟨y, e⟩ => ⟨_, by rw [e]; exact pub_wor, rfl⟩) rfl)
end
end Oh
set_option maxHeartbeats 4000000
/-! OiU: walk: the mirror. -/
namespace Oh
open PySem L2
/-- a turn that lays rows across -/
def oddT (t : T8) : Bool := match t with
  | 0 => false
  | 1 => true
  | 2 => false
  | 3 => true
  | 4 => false
  | 5 => false
  | 6 => true
  | 7 => true
/-- the picture of rows by a turn -/
def pic (t : T8) (rows : List (List Nat)) : List (List Nat) :=
  let h := if oddT t then wid rows else hgt rows
  let w := if oddT t then hgt rows else wid rows
  (List.range h).map fun (y : Nat) => (List.range w).map fun (x : Nat) => at2 rows (pt (inv t) ((y : Int), (x : Int)) h w)
abbrev c_picture : Con := conD (α := List (List Nat) × T8) (fun g => FlOk g.1) (fun g => [.flo g.1, .dat (pT g.2)]) (fun g => .flo (pic g.2 g.1))
section
variable {C : Ct} {A : AS} {pos : Pos}
/-- {} -/
theorem xo_none : Xo C (.Dict [] [] pos) A (fun o => o = .od []) :=
  ⟨tDNewK, fun X hX => pe_dnewK, fun H0 σ G H x m Q q => fun p hp => q p G _ _ (Nx.hid x hp) hp (x.back hp) rfl ⟨[], upd_same, trivial⟩⟩
end
def mrB (t : T8) (bk : List (Nat × T8)) : List (Nat × T8) := bk.map fun z => (z.1, cm (cm (inv t) z.2) t)
def mrW (t : T8) (w : Wd) : Wd := ⟨w.rows, mrB t w.book, sP (w.goals.map fun p => pt t p (hgt w.rows) (wid w.rows)), (opens w.rows).headD (0, 0), stP w.first t (hgt w.rows) (wid w.rows)⟩
structure MrOk (w : Wd) (t : T8) : Prop where
  b : BgOk w
  p : pic t w.rows = w.rows
  s : StOk w.rows w.first
abbrev c_in_mirror : Con := conD (α := Wd × T8) (fun g => MrOk g.1 g.2) (fun g => [.wor g.1, .dat (pT g.2)]) (fun g => .wor (mrW g.2 g.1))
end Oh
set_option maxHeartbeats 4000000
/-! OiW: plain: pictures, kept rows. -/
namespace Oh
open PySem L2
theorem inv_is : inv 0 = 0 ∧ inv 1 = 3 ∧ inv 2 = 2 ∧ inv 3 = 1 ∧ inv 4 = 4 ∧ inv 5 = 5 ∧ inv 6 = 6 ∧ inv 7 = 7 := by decide +kernel
theorem pt_back (t : T8) (p : Pl) (h w : Int) : pt (inv t) (pt t p h w) (if oddT t then w else h) (if oddT t then h else w) = p := by
  obtain ⟨i0, i1, i2, i3, i4, i5, i6, i7⟩ := inv_is
  obtain ⟨y, x⟩ := p
  match t with
  | 0 => rw [i0]; rfl
  | 1 => rw [i1]; show (h - 1 - (h - 1 - y), x) = _; congr 1; omega
  | 2 => rw [i2]; show (h - 1 - (h - 1 - y), w - 1 - (w - 1 - x)) = _; congr 1 <;> omega
  | 3 => rw [i3]; show (y, w - 1 - (w - 1 - x)) = _; congr 1; omega
  | 4 => rw [i4]; show (y, w - 1 - (w - 1 - x)) = _; congr 1; omega
  | 5 => rw [i5]; show (h - 1 - (h - 1 - y), x) = _; congr 1; omega
  | 6 => rw [i6]; rfl
  | 7 => rw [i7]; show (h - 1 - (h - 1 - y), w - 1 - (w - 1 - x)) = _; congr 1 <;> omega
theorem inR_iff {p : Pl} {h w : Int} : inR p h w = true ↔ (0 ≤ p.1 ∧ p.1 ≤ h - 1) ∧ (0 ≤ p.2 ∧ p.2 ≤ w - 1) := by
  unfold inR
  simp only [Bool.and_eq_true, decide_eq_true_eq]
theorem pt_in {t : T8} {p : Pl} {h w : Int} (hp : inR p h w = true) : inR (pt t p h w) (if oddT t then w else h) (if oddT t then h else w) = true := by
  obtain ⟨⟨a1, a2⟩, b1, b2⟩ := inR_iff.mp hp
  obtain ⟨y, x⟩ := p
  refine inR_iff.mpr ?_
  match t with
  | 0 => exact ⟨⟨a1, a2⟩, b1, b2⟩
  | 1 => show (0 ≤ x ∧ x ≤ w - 1) ∧ (0 ≤ h - 1 - y ∧ h - 1 - y ≤ h - 1); dsimp only at *; omega
  | 2 => show (0 ≤ h - 1 - y ∧ h - 1 - y ≤ h - 1) ∧ (0 ≤ w - 1 - x ∧ w - 1 - x ≤ w - 1); dsimp only at *; omega
  | 3 => show (0 ≤ w - 1 - x ∧ w - 1 - x ≤ w - 1) ∧ (0 ≤ y ∧ y ≤ h - 1); dsimp only at *; omega
  | 4 => show (0 ≤ y ∧ y ≤ h - 1) ∧ (0 ≤ w - 1 - x ∧ w - 1 - x ≤ w - 1); dsimp only at *; omega
  | 5 => show (0 ≤ h - 1 - y ∧ h - 1 - y ≤ h - 1) ∧ (0 ≤ x ∧ x ≤ w - 1); dsimp only at *; omega
  | 6 => show (0 ≤ x ∧ x ≤ w - 1) ∧ (0 ≤ y ∧ y ≤ h - 1); dsimp only at *; omega
  | 7 => show (0 ≤ w - 1 - x ∧ w - 1 - x ≤ w - 1) ∧ (0 ≤ h - 1 - y ∧ h - 1 - y ≤ h - 1); dsimp only at *; omega
end Oh
set_option maxHeartbeats 8000000
/-! OjA: dict comprehensions whose keys are tuples; sorted(..) of such a dict. -/
namespace L2
open PySem PySem.Spec PyProof.Rows
section
variable {X : Cx}
/-- D[b] = r, b a tuple that is known -/
theorem setT {pins : List (Addr × Obj)} {σ : St} {H : Hp} {s : Shared} {E : Value → Shared → Prop} {D b : Addr} {kvs : List (List Key × V)} {k : List Key} {z : V} {r : Value} {Q : Unit → Shared → Prop} (hu : X.A.units < cLine)
    (I : Inv X pins σ H s) (hD : H D = some (.dT kvs)) (hb : H b = some (.tup (k.map kV))) (few : kvs.length < sizeLine) (rz : RelV z r) (fin : ∀ s', Inv X pins σ (upd H D (.dT (putK kvs k z))) s' → Q () s') :
    wpAny (model X.prog X.w) X.A (dictSet D (.ref b) r) Q E s := by
  obtain ⟨z1, z2, ys, rel, dd⟩ := dt_of I.hok hD
  have e1 : ys.length ≤ sizeLine := by
    have e := Paired.length rel
    omega
  have e2 : (putK kvs k z).length ≤ sizeLine := Nat.le_trans (length_putK kvs k z) few
  refine wpAny_dictSet_heap (knd := tupleKind (mixKind X.prog X.w)) (hsz := e1) hu (key_of I.hok hb) dd fun g dg sb => fin _ ?_
  obtain ⟨o, es, ep, ho, c1, c2, c3, _, c5⟩ := dg
  refine d_write I (by rw [hD]; exact True.intro) sb ⟨o, ho⟩ ⟨e2, z2, _, (rel.put k hb rz).keeps fun c xs hc => ?_, o, es, ep, ho, c1, c2, c3, c5⟩
  rw [upd_ne (ne_of hc hD fun e => nomatch e)]
  exact hc
/-- {k: v for target in iter}, the keys known tuples: D the new dict -/
def tDcT (wi : TI) (g : TG) (tk tv : TE) (vs : List Nat) : TE := fun σ H Q => wi σ H fun J H1 => ∀ D, H1 D = none → ∃ W : Nat → Nat → Hp → Prop, (∃ m, W 0 m (upd H1 D (.dT []))) ∧ ∀ i m H2, W i m H2 →
  (J.stop i H2 ∧ Q (.ref D) H2) ∨ (J.go i H2 ∧ ∃ Nx : Hp → Prop, (∀ H', Nx H' → ∃ m', m' < m ∧ W (i + 1) m' H') ∧ ∀ x H', J.yld i H2 x H' → g x (wipe σ vs) H' fun σ2 H3 => wipe σ2 vs = wipe σ vs ∧
    tk σ2 H3 fun y H4 => tv σ2 H4 fun z H5 => ∃ kvs k b, y = V.ref b ∧ H5 b = some (.tup (k.map kV)) ∧ H5 D = some (.dT kvs) ∧ kvs.length < sizeLine ∧ Nx (upd H5 D (.dT (putK kvs k z))))
section
variable {kx vx tg iter : Expr} {scope : Scope} {own : List (Str × Nat)} {pos : Pos} {wi : TI} {g : TG} {tk tv : TE}
theorem pe_dcT (hu : X.A.units < cLine) (hc : X.calm = true) (hN : X.N.Nodup) (hi : PI X tg iter wi) (ok : BlkOk X.N X.env.scope scope own)
    (hg : ∀ s H Cc cl fp, PG (X.blk s H scope (compEnvC scope cl Cc X.env) fp) tg g) (hk : ∀ s H Cc cl fp, PE (X.blk s H scope (compEnvC scope cl Cc X.env) fp) kx tk) (he : ∀ s H Cc cl fp, PE (X.blk s H scope (compEnvC scope cl Cc X.env) fp) vx tv)
    (hs : ∀ x, foldedSetIterable iter X.env x = pure x) : PE X (.DictComp kx vx [⟨tg, iter, [], 0⟩] scope pos) (tDcT wi g tk tv (own.map (·.2))) := by
  refine ⟨fun pins s0 σ H0 Q I0 h => ?_⟩
  rw [arm_eval_DictComp]
  have fr : ∀ y ∈ scope.names, y.2 = .free → ∃ c, X.env.cells.lookup y.1 = some c := by
    intro y hy e
    rcases ok.free y hy e with q | q
    · exact I0.ok.has _ (Or.inl q)
    · exact I0.ok.has _ (Or.inr q)
  refine wpAny_comprehension_free (use := none) rfl hs (closure_ok fr) ok.kind (fun y hy e => (ok.uniq y hy).trans (by rw [e])) (thn (hi.run pins s0 σ H0 _ I0 h) fun xv s1 h1 => thn h1 fun itv s2 h2 => ?_)
  obtain ⟨it, fp, tn, J, H2, rfl, I2, T, st2, f2, body⟩ := h2
  refine wpAny_newObj_type (newEnv_comp ?_)
  generalize eD : s2.heap.objs.size = D
  have freeD : H2 D = none := I2.hok.fresh (by rw [eD]; exact Nat.le_refl _)
  obtain ⟨W, ⟨m0, w0⟩, turn⟩ := body D freeD
  generalize e3 : ({ s2 with heap := s2.heap.push { cls := .type "dict", data := .dict #[] } } : Shared) = s3
  have heap3 : s3.heap = s2.heap.push { cls := .type "dict", data := .dict #[] } := by
    rw [← e3]
  have I3 : Inv X pins σ (upd H2 D (.dT [])) s3 := by
    rw [← e3, ← eD]
    exact I2.laid (t' := s2.toks) (fun _ _ q => Heap.get?_push_of_some _ q) (Nat.le_refl _) (dt_empty s2.heap I2.big)
  have low : ∀ b ∈ fp, b < s2.heap.objs.size := by
    intro b hb
    obtain ⟨o, q, _⟩ := T.obj _ _ st2 b hb
    exact Heap.lt_size q
  have f3 : ∀ b ∈ fp, FpOk X pins (upd H2 D (.dT [])) b ∧ b < s3.heap.objs.size := by
    intro b hb
    have lt := low b hb
    have ne : b ≠ D := fun q => Nat.lt_irrefl _ (by rw [← eD] at q; rw [q] at lt; exact lt)
    exact ⟨⟨by rw [upd_ne ne]; exact (f2 b hb).1, (f2 b hb).2⟩, by rw [heap3, Heap.size_push]; exact Nat.lt_succ_of_lt lt⟩
  have st3 : tn 0 s3.heap := T.keep _ _ _ st2 fun b _ o q => by
    rw [heap3]
    exact Heap.get?_push_of_some _ q
  have I4 := block_start I3 ok hN f3
  let cl := cellsFrom (s3.heap.objs.size + 1) scope.names (cloFrom X.env.cells scope.names [])
  have pg := hg s3 (upd H2 D (.dT [])) s3.heap.objs.size cl fp
  have pk := hk s3 (upd H2 D (.dT [])) s3.heap.objs.size cl fp
  have pv := he s3 (upd H2 D (.dT [])) s3.heap.objs.size cl fp
  have fpn : ∀ b ∈ fp, (upd H2 D (.dT [])) b = none := fun b hb => (f3 b hb).1.1
  show codeAny _ _ (.compStart (.DictComp kx vx [⟨tg, iter, [], 0⟩] scope pos) 0 (.ref it) (.ref D) (compEnvC scope cl s3.heap.objs.size X.env)) (compPost (model X.prog X.w) X.A X.xe none (EP X pins σ Q) (.ref D) s3.heap.objs.size) { s3 with heap := pushCells (s3.heap.push { cls := .type "dict", data := .dict #[] }) scope.names }
  generalize ece : compEnvC scope cl s3.heap.objs.size X.env = ce at pg pk pv ⊢
  have I4' := I4
  rw [show compEnvC scope (cellsFrom (s3.heap.objs.size + 1) scope.names (cloFrom X.env.cells scope.names [])) s3.heap.objs.size X.env = ce from ece] at I4'
  have locs : ce.locals = s3.heap.objs.size := by
    rw [← ece]
    rfl
  generalize eH3 : upd H2 D (.dT []) = H3 at I3 I4' pg pk pv w0 fpn f3
  generalize e4 : ({ s3 with heap := pushCells (s3.heap.push { cls := .type "dict", data := .dict #[] }) scope.names } : Shared) = s4 at I4' ⊢
  have st4 : tn 0 s4.heap := by
    refine T.keep _ _ _ st3 fun b _ o q => ?_
    rw [← e4]
    exact pushCells_keeps _ _ _ _ (Heap.get?_push_of_some _ q)
  have stat : ∀ {σ' : St} {H' : Hp} {s' : Shared}, Inv (X.blk s3 H3 scope ce fp) [] σ' H' s' → (∀ b ∈ fp, H' b = none) → ∀ b ∈ fp, FpOk (X.blk s3 H3 scope ce fp) [] H' b := by
    intro σ' H' s' I' n b hb
    obtain ⟨q1, q2⟩ := I'.ok.exf b hb
    refine ⟨n b hb, q1, I'.ok.exfs b hb, Or.inl hb, fun x c q => q2 x c q, fun p hp => ?_⟩
    exact absurd (show p ∈ ([] : List (Addr × Obj)) ++ [] from hp) (by simp)
  have loop : codeAny (model X.prog X.w) X.A (.compLoop (.DictComp kx vx [⟨tg, iter, [], 0⟩] scope pos) 0 (.ref it) (.ref D) ce) (compPost (model X.prog X.w) X.A X.xe none (EP X pins σ Q) (.ref D) s3.heap.objs.size) s4 := by
    refine compLoop_anyD (fun n s' => ∃ i H', W i n H' ∧ Inv (X.blk s3 H3 scope ce fp) [] (wipe σ (own.map (·.2))) H' s' ∧ tn i s'.heap ∧ ∀ b ∈ fp, H' b = none) ?_ m0 ⟨0, H3, w0, I4', st4, fpn⟩
    rintro n s5 ⟨i, H5, w5, I5, st5, n5⟩
    rcases turn i n H5 w5 with ⟨stop, qe⟩ | ⟨go, Nx, hNx, step⟩
    · refine thnF (T.done (X.blk s3 H3 scope ce fp) rfl rfl rfl hc i [] s5 _ H5 (fun _ _ => False) I5 (stat I5 n5) st5 stop) fun r s6 ⟨hr, I6⟩ => ?_
      rw [hr]
      have I7 : Inv X pins σ H5 s6 := I3.call' (ch := fp) I6.os I6.base I6.hok I6.bare fun b hb => let z := (f3 b hb).1.2; ⟨z.2.2.1, z.1, z.2.2.2.1, z.2.2.2.2⟩
      have nf : H5 s3.heap.objs.size = none := by
        rw [← locs]
        exact I6.free
      obtain ⟨m, hn, _⟩ := I6.loc
      have hn' : s6.heap.Ns s3.heap.objs.size m := by
        rw [← locs]
        exact hn
      obtain ⟨a0, a1, a2, a3, a4, a5⟩ := I3.fpOk (Nat.le_refl _) nf
      exact ⟨m, hn', fun g sb => ⟨.ref D, H5, I7.turned (t' := s6.toks) (fun b o hb q => (sb.2 b hb).trans q) a0 a1 a3 a4 a5, rfl, qe⟩⟩
    · refine thnF (T.item (X.blk s3 H3 scope ce fp) rfl rfl rfl hc i [] s5 _ H5 (fun _ _ => False) I5 (stat I5 n5) st5 go) fun r s6 ⟨u, hr, h6⟩ => ?_
      rw [hr]
      refine thnF h6 fun _ s7 ⟨x, H7, I7, r7, y7, st7, n7⟩ => ?_
      refine thnF (pg.run _ s7 _ H7 x u _ (I7.pinned (stat I7 n7) (T.obj _ _ st7)) r7 (step x H7 y7)) fun _ s8 ⟨σ8, H8, I8, hw8, q8⟩ => ?_
      refine thnF ((pts_nil (X := X.blk s3 H3 scope ce fp)).run _ s8 σ8 H8 _ I8 (show tYes σ8 H8 fun b H' => b = true ∧ H' = H8 from ⟨rfl, rfl⟩)) fun b s9 ⟨H9, I9, hb, e9⟩ => ?_
      subst hb
      subst e9
      simp only [if_true]
      refine thnF (pk.run _ s9 σ8 H9 _ I9 q8) fun z s10 ⟨yk, H10, I10, r10, q10⟩ => thnF (pv.run _ s10 σ8 H10 _ I10 q10) fun z2 s11 ⟨yv, H11, I11, r11, q11⟩ => ?_
      obtain ⟨kvs, k, b, rfl, hb, hD, few, nx⟩ := q11
      cases (show z = Value.ref b from r10)
      refine setT (X := X.blk s3 H3 scope ce fp) hu I11 hD hb few r11 fun s12 I12 => ?_
      obtain ⟨m', lt, w'⟩ := hNx _ nx
      have pinned : ∀ b ∈ fp, ∀ o, s7.heap.get? b = some o → s12.heap.get? b = some o ∧ (upd H11 D (.dT (putK kvs k yv))) b = none := by
        intro b hb o q
        have z := I12.pin (b, o) (List.mem_append_right _ (List.mem_append_right _ (mem_pinsAt hb q)))
        exact ⟨z.1, z.2.1⟩
      have len8 : (wipe σ (own.map (·.2))).length = σ8.length := by
        rw [← hw8]
        exact wipe_length ..
      refine ⟨m', lt, i + 1, _, w', (I12.unpinned (pins := [])).weak len8 (fun j v q => ?_), T.keep _ _ _ st7 (fun b hb o q => (pinned b hb o q).1), fun b hb => ?_⟩
      · rw [← hw8] at q
        exact (wipe_some q).1
      · obtain ⟨o, q, _⟩ := T.obj _ _ st7 b hb
        exact (pinned b hb o q).2
  exact codeAny_compStart_dict loop (T.self X.A 0 _ _ _ st4 loop)
end
end
section
variable {P : Program} {w : World} {A : Around} {E : Value → Shared → Prop} {s : Shared}
/-- sorted(d), d a dict whose keys are tuples of ints -/
theorem sorted_of_dict {d : Addr} {o : Obj} {es : Array DictEntry} {ep : Nat} {vs : List Value} {dim : Nat} {B : Int} {Q : Value → Shared → Prop} (hh : A.handled = none) (lo : (d == sysModules) = false) (ho : s.heap.get? d = some o) (hx : o.ExactDict) (hd : o.data = .dict es ep)
    (hv : es.toList.map (·.key) = vs) (h64 : vs.length < 64) (hdim : 1 ≤ dim) (x : TS.TupsOk s.heap dim B vs)
    (fin : ∀ (out : Array Value) (g : Heap) (tk : Nat) (p : Addr), out.toList.Perm vs → out.toList.Pairwise (fun u v => TS.code B (TS.intsOf s.heap u) ≤ TS.code B (TS.intsOf s.heap v)) → s.heap.get? p = none →
      (∀ b o, s.heap.get? b = some o → g.get? b = some o) → (∃ e, g.get? p = some (seqObj "list" out e)) → Q (.ref p) { s with heap := g, toks := tk }) :
    wpAny (model P w) A (call (.builtin "sorted") [.ref d]) Q E s := by
  have sz : es.size = vs.length := by
    rw [← hv, List.length_map, Array.length_toList]
  refine Calls.call_function_entry kind_sorted plain_sorted entry_sorted (args_sorted1 _) ?_
  unfold Builtin.«sorted»
  refine wpAny_bind (m := checkCount "sorted" 1 1 _) (wpAny_pure ?_)
  refine wpAny_bind (PySem.W.kdu_collect (A := A.in1) (kdl_raw lo hx hd) hh ho (by rw [sizeLine_eq]; omega) fun g1 tk acc keep1 hacc => ?_)
  have eacc : acc.toList = vs := by
    rw [← hv]
    refine List.ext_getElem? fun j => ?_
    rw [List.getElem?_map, Array.getElem?_toList, Array.getElem?_toList]
    cases hj : acc[j]? with
    | none =>
      have h1 := Array.getElem?_eq_none_iff.mp hj
      have h2 : acc.size = es.size := hacc.1
      rw [Array.getElem?_eq_none (by omega)]
      rfl
    | some v =>
      obtain ⟨en, h1, h2⟩ := hacc.2 j v hj
      rw [h1, h2]
      rfl
  rw [eacc]
  refine wpAny_bind (wpAny_newList ?_ (by rw [sizeLine_eq]; omega))
  have new1 : s.heap.get? g1.objs.size = none := by
    cases y : s.heap.get? g1.objs.size with
    | none => rfl
    | some oo => exact absurd (Heap.lt_size (keep1 _ _ y)) (Nat.lt_irrefl _)
  have at_new : (g1.push (seqObj "list" vs.toArray 0)).get? g1.objs.size = some (seqObj "list" vs.toArray 0) := Heap.get?_push_size _ rfl
  have keep2 : ∀ b o, s.heap.get? b = some o → (g1.push (seqObj "list" vs.toArray 0)).get? b = some o := fun b o q => Heap.get?_push_of_some _ (keep1 b o q)
  refine wpAny_bind (wpAny_holding (wpAny_call_entry slot_list_sort ⟨_, at_new, rfl⟩ entry_list_sort (TS.sort_tups (s := { s with heap := g1.push (seqObj "list" vs.toArray 0), toks := tk }) at_new h64 hdim (x.keeps fun b o q _ => keep2 b o q) (fun v => TS.code B (TS.intsOf s.heap v)) (fun v hv ns t => ?_) fun out a1 a2 => ⟨_, rfl, ?_⟩) (args_list_sort _)))
  · obtain ⟨ns0, t0, _⟩ := x v hv
    have e : ns = ns0 := t.ints.symm.trans (t0.keeps fun b o q _ => keep2 b o q).ints
    rw [e]
    show TS.code B (TS.intsOf s.heap v) = TS.code B ns0
    rw [t0.ints]
  · refine wpAny_pure ⟨_, rfl, fin out _ tk _ a1 a2 new1 (fun b o q => ?_) ?_⟩
    · have lt : b < g1.objs.size := Heap.lt_size (keep1 b o q)
      show (sortedHeap _ _ _ _).get? b = _
      rw [sortedHeap_old (Nat.ne_of_lt lt) (by rw [Heap.size_push]; exact Nat.lt_succ_of_lt lt)]
      exact keep2 b o q
    · exact sortedHeap_at at_new
end
section
variable {X : Cx}
theorem kt_keys {P : Program} {w : World} {H : Hp} : ∀ {kvs : List (List Key × V)} {xs : List (List Key × Addr × Value)}, KT H kvs xs → (xs.map (entryOfKey (tupleKind (mixKind P w)))).map (·.key) = (xs.map fun x => x.2.1).map Value.ref
  | _, _, .nil => rfl
  | _, _, .cons h t => by
    show _ :: _ = _ :: _
    rw [List.cons.injEq]
    exact ⟨rfl, kt_keys t⟩
/-- sorted(d): the keys, by their order -/
theorem cr_sortDT (hc : X.calm = true) {dim : Nat} {B : Int} (hdim : 1 ≤ dim) : CallR X (.builtin "sorted") (fun vs H Q => ∃ (d : Addr) (kvs : List (List Int × V)), vs = [V.ref d] ∧ Rd H d (.dT (kvs.map fun q => (q.1.map Sum.inl, q.2))) ∧ kvs.length < 64 ∧ (∀ q ∈ kvs, q.1.length = dim ∧ TS.Bd B q.1) ∧
  ∀ (ks : List (Addr × List Int)) (p : Addr), (ks.map (·.2)).Perm (kvs.map (·.1)) → (∀ q ∈ ks, H q.1 = some (.tup (q.2.map V.int))) → (ks.map (·.2)).Pairwise (fun n m => TS.code B n ≤ TS.code B m) → H p = none → Q (.ref p) (upd H p (.lst (ks.map fun q => V.ref q.1)))) := by
  intro pins s σ H vs us Q I r h
  obtain ⟨d, kvs, rfl, hd, h64, hb, q⟩ := h
  rw [Vals.ref1 r]
  obtain ⟨z, lo, xs, pr, o, es, ep, ho, hx, hdt, he, hn⟩ := (show ObjOk X.prog X.w H s.heap d (.dT _) from hd.ok I.hok)
  -- the keys with their addresses
  have get : ∀ {l : List (List Int × V)} {m : List (List Key × Addr × Value)}, KT H (l.map fun q => (q.1.map Sum.inl, q.2)) m → ∃ ks : List (Addr × List Int), m.map (fun x => x.2.1) = ks.map (·.1) ∧ ks.map (·.2) = l.map (·.1) ∧ ∀ q ∈ ks, H q.1 = some (.tup (q.2.map V.int)) := by
    intro l
    induction l with
    | nil =>
      intro m t
      cases t
      exact ⟨[], rfl, rfl, fun q hq => nomatch hq⟩
    | cons a l ih =>
      intro m t
      cases t with
      | @cons _ b _ bs hab t' =>
        obtain ⟨ks, e1, e2, e3⟩ := ih t'
        refine ⟨(b.2.1, a.1) :: ks, by rw [List.map_cons, List.map_cons, e1], by rw [List.map_cons, List.map_cons, e2], fun q hq => ?_⟩
        rcases List.mem_cons.mp hq with e | hq
        · rw [e]
          have y := hab.2.1
          rw [List.map_map] at y
          exact y
        · exact e3 q hq
  obtain ⟨ks, e1, e2, e3⟩ := get pr
  have ekeys : es.toList.map (·.key) = ks.map fun q => Value.ref q.1 := by
    rw [he, kt_keys pr, e1, List.map_map]
    rfl
  have hlen : ks.length = kvs.length := by
    have y := congrArg List.length e2
    rw [List.length_map, List.length_map] at y
    exact y
  have inb : ∀ q ∈ ks, q.2.length = dim ∧ TS.Bd B q.2 := fun q hq => by
    have y : q.2 ∈ kvs.map (·.1) := by
      rw [← e2]
      exact List.mem_map.mpr ⟨q, hq, rfl⟩
    obtain ⟨u, hu, e⟩ := List.mem_map.mp y
    rw [← e]
    exact hb u hu
  refine sorted_of_dict (vs := ks.map fun q => Value.ref q.1) (dim := dim) (B := B) (I.ok.hd hc) lo ho hx hdt ekeys (by rw [List.length_map]; omega) hdim (fun v hv => ?_) fun out g tk p h1 h2 hp hk he2 => ?_
  · obtain ⟨q, hq, rfl⟩ := List.mem_map.mp hv
    exact ⟨q.2, tupI_raw I (SqT.of (e3 q hq)), inb q hq⟩
  · obtain ⟨c, he3⟩ := he2
    have hn2 : H p = none := by
      cases y : H p with
      | none => rfl
      | some u =>
        obtain ⟨oo, y2⟩ := objAt (I.hok p u y)
        rw [hp] at y2
        cases y2
    -- the sorted list read back as keys with addresses
    have back : ∀ {a b : List Value}, a.Perm b → ∀ {ks : List (Addr × List Int)}, b = ks.map (fun q => Value.ref q.1) → ∃ ls : List (Addr × List Int), ls.Perm ks ∧ a = ls.map fun q => Value.ref q.1 := by
      intro a b pm
      induction pm with
      | nil =>
        intro ks e
        have ek : ks = [] := List.map_eq_nil_iff.mp e.symm
        exact ⟨[], by rw [ek], rfl⟩
      | cons u pm ih =>
        intro ks e
        cases ks with
        | nil => cases e
        | cons k ks =>
          rw [List.map_cons, List.cons.injEq] at e
          obtain ⟨ls, p1, p2⟩ := ih e.2
          exact ⟨k :: ls, p1.cons k, by rw [List.map_cons, ← p2, e.1]⟩
      | swap u v l =>
        intro ks e
        cases ks with
        | nil => cases e
        | cons k ks =>
          cases ks with
          | nil => cases e
          | cons k2 ks =>
            rw [List.map_cons, List.map_cons, List.cons.injEq, List.cons.injEq] at e
            exact ⟨k2 :: k :: ks, .swap .., by rw [List.map_cons, List.map_cons, ← e.1, ← e.2.1, ← e.2.2]⟩
      | trans _ _ i1 i2 =>
        intro ks e
        obtain ⟨ls, p1, p2⟩ := i2 e
        obtain ⟨ms, p3, p4⟩ := i1 p2
        exact ⟨ms, p3.trans p1, p4⟩
    obtain ⟨ls, p1, p2⟩ := back h1 rfl
    have e4 : ∀ q ∈ ls, H q.1 = some (.tup (q.2.map V.int)) := fun q hq => e3 q (p1.mem_iff.mp hq)
    refine ⟨.ref _, upd H p (.lst (ls.map fun q => V.ref q.1)), I.laidN (t' := tk) hk hp hn2 ⟨?_, out.toList, c, ?_, he3⟩, rfl, q ls p (by rw [← e2]; exact p1.map _) e4 ?_ hn2⟩
    · rw [List.length_map, p1.length_eq, hlen]
      rw [sizeLine_eq]
      omega
    · rw [p2]
      have y := vals_refs (ls.map (·.1))
      rw [List.map_map, List.map_map] at y
      exact y
    · rw [p2] at h2
      rw [List.pairwise_map] at h2 ⊢
      refine List.Pairwise.imp_of_mem (fun {u v} hu hv hc => ?_) h2
      have i1 : TS.intsOf s.heap (.ref u.1) = u.2 := (tupI_raw I (SqT.of (e4 u hu))).ints
      have i2 : TS.intsOf s.heap (.ref v.1) = v.2 := (tupI_raw I (SqT.of (e4 v hv))).ints
      rw [← i1, ← i2]
      exact hc
end
end L2
set_option maxHeartbeats 4000000
/-! OjB: dicts by places: made by a comprehension, sorted, read. -/
namespace Oh
open PySem L2 PySem.Spec PyProof.Rows
theorem perm_pre {α β : Type} {f : α → β} : ∀ {a b : List β}, a.Perm b → ∀ {m : List α}, b = m.map f → ∃ l : List α, l.Perm m ∧ a = l.map f := by
  intro a b pm
  induction pm with
  | nil =>
    intro m e
    have em : m = [] := List.map_eq_nil_iff.mp e.symm
    exact ⟨[], by rw [em], rfl⟩
  | cons u pm ih =>
    intro m e
    cases m with
    | nil => cases e
    | cons k m =>
      rw [List.map_cons, List.cons.injEq] at e
      obtain ⟨l, p1, p2⟩ := ih e.2
      exact ⟨k :: l, p1.cons k, by rw [List.map_cons, ← p2, e.1]⟩
  | swap u v l =>
    intro m e
    cases m with
    | nil => cases e
    | cons k m =>
      cases m with
      | nil => cases e
      | cons k2 m =>
        rw [List.map_cons, List.map_cons, List.cons.injEq, List.cons.injEq] at e
        exact ⟨k2 :: k :: m, .swap .., by rw [List.map_cons, List.map_cons, ← e.1, ← e.2.1, ← e.2.2]⟩
  | trans _ _ i1 i2 =>
    intro m e
    obtain ⟨l, p1, p2⟩ := i2 e
    obtain ⟨n, p3, p4⟩ := i1 p2
    exact ⟨n, p3.trans p1, p4⟩
/-- an entry of a dict of signs -/
def sgK (p : Pl × Nat) : List Key × V := ([Sum.inl p.1.1, Sum.inl p.1.2], V.str (tx [p.2]))
theorem sgK_inj {p q : Pl} (h : ([Sum.inl p.1, Sum.inl p.2] : List Key) = [Sum.inl q.1, Sum.inl q.2]) : p = q := by
  rw [List.cons.injEq, List.cons.injEq] at h
  exact Prod.ext (Sum.inl.inj h.1) (Sum.inl.inj h.2.1)
theorem sg_none {kvs : List (Pl × Nat)} {p : Pl} (h : p ∉ kvs.map Prod.fst) : valV (kvs.map sgK) [Sum.inl p.1, Sum.inl p.2] = none := by
  unfold valV
  rw [Option.map_eq_none_iff, List.find?_eq_none]
  intro q hq
  obtain ⟨r, hr, rfl⟩ := List.mem_map.mp hq
  simp only [decide_eq_true_eq]
  intro z
  exact h (List.mem_map.mpr ⟨r, hr, sgK_inj z⟩)
def lkP (kvs : List (Pl × Nat)) (p : Pl) : Option Nat := (kvs.find? fun q => decide (q.1 = p)).map Prod.snd
theorem sg_lk (p : Pl) : ∀ (kvs : List (Pl × Nat)), valV (kvs.map sgK) [Sum.inl p.1, Sum.inl p.2] = (lkP kvs p).map fun c => V.str (tx [c])
  | [] => rfl
  | q :: r => by
    have ih := sg_lk p r
    unfold valV lkP at *
    by_cases h : q.1 = p
    · have hd : decide ((sgK q).1 = [Sum.inl p.1, Sum.inl p.2]) = true := decide_eq_true (by unfold sgK; rw [h])
      rw [List.map_cons, List.find?_cons_of_pos (a := sgK q) (p := fun kv => decide (kv.1 = [Sum.inl p.1, Sum.inl p.2])) hd, List.find?_cons_of_pos (by simpa using h)]
      rfl
    · have hd : ¬ decide ((sgK q).1 = [Sum.inl p.1, Sum.inl p.2]) = true := fun z => h (sgK_inj (of_decide_eq_true z))
      rw [List.map_cons, List.find?_cons_of_neg (a := sgK q) (p := fun kv => decide (kv.1 = [Sum.inl p.1, Sum.inl p.2])) hd, List.find?_cons_of_neg (by simpa using h)]
      exact ih
section
variable {C : Ct} [g : Gx C.ga] {A : AS} {kx vx tg iter e a b : Expr} {scope : Scope} {pos p : Pos}
/-- {place: sign for target in s}, no place twice -/
theorem xd_dcT {α : Type} (l : List α) (f : α → List Ab) (kf : α → Pl) (vf : α → Nat) (own : List (Str × Nat)) (hs : Xid C tg iter A (l.map f)) (hl : l.length ≤ 100000) (hn : (l.map kf).Nodup)
    (hb : ∀ a ∈ l, ∃ A2, Xg (C.blk scope) tg (own.map (·.2)) (wipes A (own.map (·.2))) (f a) A2 ∧ Xd (C.blk scope) kx A2 (.pt (kf a)) ∧ Xd (C.blk scope) vx A2 (.dat (pS [vf a])))
    (hblk : blkC C.N C.sc scope own = true := by (try dsimp only [Ct.blk]); decide +kernel) (hoff : offs A (own.map (·.2)) := by exact offs_none) (hf : ∀ env x, foldedSetIterable iter env x = pure x := by intro _ _; rfl) :
    Xd C (.DictComp kx vx [⟨tg, iter, [], 0⟩] scope pos) A (.sgn (l.map fun a => (kf a, vf a))) := by
  obtain ⟨wi, w1, w2⟩ := hs
  refine ⟨tDcT wi (UG (C.blk scope) tg) (UE (C.blk scope) kx) (UE (C.blk scope) vx) (own.map (·.2)), fun X hX => pe_dcT (by have := on_units hX; omega) hX.calm hX.nd (w1 X hX) (by rw [hX.N, hX.sc]; exact blkOk_by hblk) (fun s H Cc cl fp => pg_UG (hX.blk scope s H Cc cl fp))
      (fun s H Cc cl fp => pe_UE (hX.blk scope s H Cc cl fp)) (fun s H Cc cl fp => pe_UE (hX.blk scope s H Cc cl fp)) (hf X.env),
    fun H0 σ G H x m Q q => w2 H0 σ G H x m _ fun J G1 H1 its n1 s1 src D hD => ?_⟩
  subst s1
  obtain ⟨Gd, Y, w, hg, hy⟩ := src.w
  rw [List.length_map] at w hy
  let acc : Nat → List (Pl × Nat) := fun i => (l.take i).map fun a => (kf a, vf a)
  refine it_go w (fun i H' => ∃ G', Nx G1 H1 G' H' ∧ G' D = none ∧ H' D = some (.dT ((acc i).map sgK))) ⟨G1, Nx.hid n1.s hD, n1.s.back hD, upd_same⟩
    (fun i H' _ ⟨G', n2, _⟩ => hg H' (n2.g.trans n2.s)) (fun i v H' H2 hlt ⟨G', n2, gD, hD'⟩ y => ?_) fun H' ⟨G', n2, gD, hD'⟩ => ?_
  · obtain ⟨G2, it, n3, hit, hi⟩ := hy i H' v H2 G' hlt n2.g n2.s y
    obtain ⟨a, ha, hm, rfl⟩ := map_get hit
    obtain ⟨A2, ⟨tgv, g1, g2⟩, hk, hv⟩ := hb a hm
    obtain ⟨gD2, hD2⟩ := n3.n D _ (by exact trivial) gD hD'
    have m2 := ((m.up n1).up ⟨n2.e.trans n3.e, n2.g.trans n3.g, n3.s, fun b o hp h1 h2 => let ⟨k1, k2⟩ := n2.n b o hp h1 h2; n3.n b o hp k1 k2⟩ : M C.K A H0 σ G2 H2).wipes hoff
    refine ⟨tgv, g1, g2 H0 _ G2 H2 v n3.s m2 hi _ fun σ2 m3 hw => ⟨by rw [hw, wipe_wipe], ?_⟩⟩
    refine hk.ev H0 σ2 G2 H2 n3.s m3 _ fun u G3 H3 c n4 s4 i4 => ?_
    subst s4
    obtain ⟨gD3, hD3⟩ := n4.n D _ (by exact trivial) gD2 hD2
    refine hv.ev H0 σ2 G3 H3 n4.s (m3.up n4) _ fun z G4 H4 c n5 s5 i5 => ?_
    subst s5
    obtain ⟨gD4, hD4⟩ := n5.n D _ (by exact trivial) gD3 hD3
    obtain ⟨b, rfl, kb⟩ := i4
    have e1 : acc (i + 1) = acc i ++ [(kf a, vf a)] := by
      show (l.take (i + 1)).map _ = _
      rw [take_app ha, List.map_append]
      rfl
    have hlen : (acc i).length ≤ i := by
      show ((l.take i).map _).length ≤ i
      rw [List.length_map, List.length_take]
      omega
    have hnew : kf a ∉ (acc i).map Prod.fst := by
      intro h
      obtain ⟨p, hp, ep⟩ := List.mem_map.mp h
      obtain ⟨b, hbm, rfl⟩ := List.mem_map.mp hp
      have z : (l.map kf).take (i + 1) = (l.take i).map kf ++ [kf a] := by
        rw [← List.map_take, take_app ha, List.map_append]
        rfl
      have nd : ((l.take i).map kf ++ [kf a]).Nodup := by
        rw [← z]
        exact hn.sublist (List.take_sublist _ _)
      exact (List.nodup_append.mp nd).2.2 (kf b) (List.mem_map.mpr ⟨b, hbm, rfl⟩) (kf a) List.mem_cons_self ep
    refine ⟨(acc i).map sgK, [Sum.inl (kf a).1, Sum.inl (kf a).2], b, rfl, ?_, hD4, ?_, G4, (((n2.trans n3).trans n4).trans n5).mut hD gD4, gD4, ?_⟩
    · exact n5.s.at_ _ _ trivial (n5.g.at_ _ _ trivial kb)
    · rw [List.length_map]
      exact small_lt (by omega)
    · rw [putK_new z (sg_none hnew), e1, List.map_append, is_str i5]
      exact upd_same
  · have e : acc l.length = l.map fun a => (kf a, vf a) := by
      show (l.take l.length).map _ = _
      rw [List.take_length]
    rw [e] at hD'
    exact q (.ref D) _ H' _ ((n1.trans n2).pub (n1.e.dom D hD) gD hD') rfl ⟨D, rfl, Or.inl upd_same⟩
/-- signs[place] -/
theorem xd_getT {kvs : List (Pl × Nat)} {z : Pl} {c : Nat} (ha : Xd C a A (.sgn kvs)) (hb : Xd C b A (.pt z)) (hl : lkP kvs z = some c) (hs : PlainIx b := by exact fun _ _ => rfl) : Xd C (.Subscript a b pos) A (.dat (pS [c])) := by
  obtain ⟨ta, a1, a2⟩ := ha
  obtain ⟨tb, b1, b2⟩ := hb
  refine ⟨tDGet ta tb, fun X hX => pe_dget (on_units hX) (a1 X hX) (b1 X hX) (nosl hs), fun H0 σ G H x m Q q => a2 H0 σ G H x m _ fun v G1 H1 d n1 s1 i1 => b2 H0 σ G1 H1 n1.s (m.up n1) _ fun u G2 H2 d2 n2 s2 i2 => ?_⟩
  subst s1 s2
  obtain ⟨ad, rfl, h1⟩ := i1
  obtain ⟨bd, rfl, h2⟩ := i2
  refine ⟨ad, V.str (tx [c]), rfl, Or.inr ⟨kvs.map sgK, [Sum.inl z.1, Sum.inl z.2], bd, n2.s.rd _ _ trivial (n2.g.rd _ _ trivial h1), rfl, n2.s.at_ _ _ trivial h2, ?_⟩, q _ G2 H2 _ (n1.trans n2) rfl mk_str⟩
  rw [sg_lk, hl]
  rfl
/-- tuples that stand there become known -/
theorem tups_known {G H : Hp} (x : Ex G H) : ∀ (ks : List (Addr × List Int)), (∀ q ∈ ks, H q.1 = some (.tup (q.2.map V.int))) → ∃ G', Nx G H G' H ∧ ∀ q ∈ ks, G' q.1 = some (.tup (q.2.map V.int))
  | [], _ => ⟨G, Nx.refl x, fun q hq => nomatch hq⟩
  | k :: ks, h => by
    obtain ⟨G1, n1, h1⟩ := tups_known x ks fun q hq => h q (List.mem_cons_of_mem _ hq)
    obtain ⟨G2, n2, h2⟩ := Nx.tup n1.s (h k List.mem_cons_self)
    refine ⟨G2, n1.trans n2, fun q hq => ?_⟩
    rcases List.mem_cons.mp hq with e | hq
    · rw [e]
      exact h2
    · exact n2.g.at_ _ _ trivial (h1 q hq)
/-- for place in sorted(signs) -/
theorem xi_sortedT {kvs : List (Pl × Nat)} (h : Xd C e A (.sgn kvs)) (hb : ∀ z ∈ kvs.map Prod.fst, P64 z) (hl : kvs.length < 64) (hg : gloB C.sc "sorted" = true := by (try dsimp only [Ct.blk]); decide +kernel) (hst : noStars [e] = true := by rfl) :
    Xid C tg (.Call (.Name "sorted" p) [e] [] pos) A ((sP (kvs.map Prod.fst)).map fun z => [Ab.pt z]) := by
  obtain ⟨t, a1, a2⟩ := xs_cons h xs_nil (noStars_cons hst).1
  refine ⟨iList C.K (tCB _ t), fun X hX => by
      have q := pi_list (tg := tg) (pe_callB (pos := pos) (p := p) (cr_sortDT (X := X) hX.calm (dim := 2) (B := 64) (by decide)) (hX.gl hg) (by rw [hX.mg]; exact g.bSorted) (by decide +kernel) (a1 X hX) (by decide +kernel) (by decide +kernel) (star_one (noStars_cons hst).1) (backTo_any (noStars_any (noStars_cons hst).2)))
      rw [hX.K] at q
      exact q, fun H0 σ G H x m R q => a2 H0 σ G H x m _ fun vs G1 H1 as n1 s1 i1 => ?_⟩
  subst s1
  obtain ⟨v, rfl, i⟩ := isA_one i1
  obtain ⟨d, rfl, hd⟩ := i
  refine ⟨d, kvs.map fun z => (ip z.1, V.str (tx [z.2])), rfl, ?_, by rw [List.length_map]; exact hl, fun z hz => ?_, fun ks p hp hk hw hn => ?_⟩
  · rw [List.map_map]
    exact n1.s.rd _ _ trivial hd
  · obtain ⟨r, hr, rfl⟩ := List.mem_map.mp hz
    exact ⟨rfl, ip_bd (hb r.1 (List.mem_map.mpr ⟨r, hr, rfl⟩))⟩
  · obtain ⟨G2, n2, hk2⟩ := tups_known n1.s ks hk
    rw [List.map_map] at hp
    obtain ⟨qs, p1, p2⟩ := perm_pre hp (m := kvs.map Prod.fst) (f := ip) (by rw [List.map_map]; rfl)
    have eqs : qs = sP (kvs.map Prod.fst) := by
      refine sP_unique hb p1 ?_
      rw [p2, List.pairwise_map] at hw
      refine hw.imp fun {u v} h => ?_
      rw [ip_code, ip_code] at h
      exact h
    have n3 := (n1.trans n2).trans (Nx.new (o := .lst (ks.map fun q => V.ref q.1)) n2.s hn)
    refine ⟨p, rfl, ⟨_, SqL.of upd_same⟩, q _ _ _ _ n3 rfl (src_at walk_list (fun H e => e.sl (SqL.of upd_same)) ?_ fun i v hv => ?_)⟩
    · rw [List.length_map, List.length_map, ← eqs]
      have z := congrArg List.length p2
      rw [List.length_map, List.length_map] at z
      exact z
    · obtain ⟨k, hk1, hk3, rfl⟩ := map_get hv
      have z : (ks.map (·.2))[i]? = some k.2 := by rw [List.getElem?_map, hk1]; rfl
      rw [p2] at z
      obtain ⟨pl, hp1, _, ep⟩ := map_get z
      refine ⟨[Ab.pt pl], by rw [← eqs, List.getElem?_map, hp1]; rfl, fun G' eg => ⟨k.1, rfl, ?_⟩⟩
      have y := hk2 k hk3
      rw [ep] at y
      exact eg.at_ _ _ trivial ((Ex.new (n2.s.back hn)).at_ _ _ trivial y)
end
end Oh
set_option maxHeartbeats 4000000
/-! OjC: places as known tuples, slices, the greatest of ints; plain: pictures. -/
namespace Oh
open PySem L2
section
variable {C : Ct} [g : Gx C.ga] {A : AS} {a b c e : Expr} {pos p p2 : Pos} {k : Nat}
/-- (y, x), to be known -/
theorem xd_tupP {i j : Int} (h : Xs C [a, b] A [.dat (.int i), .dat (.int j)]) : Xd C (.Tuple [a, b] k pos) A (.pt (i, j)) := by
  obtain ⟨t, h1, h2⟩ := h
  refine ⟨tTup t, fun X hX => pe_tup (h1 X hX), fun H0 σ G H x m Q q => h2 H0 σ G H x m _ fun vs G1 H1 as n1 s1 i1 => ?_⟩
  subst s1
  obtain ⟨v, u, rfl, i2, i3⟩ := isA_two i1
  rw [is_int i2, is_int i3]
  exact ⟨small_le (Nat.le_of_ble_eq_true rfl), fun p hp => q _ _ _ _ (n1.trans (Nx.new (o := .tup [.int i, .int j]) n1.s hp)) rfl ⟨p, rfl, upd_same⟩⟩
theorem cut_of {K : PySem.W.Frag} {G : Hp} {vs : List V} {ds : List PyData} (h : DpAll K G vs ds) {lo hi : Nat} (h1 : lo ≤ hi) (h2 : hi ≤ ds.length) : DpAll K G (cutV vs (some (lo : Int)) (some (hi : Int))) ((ds.drop lo).take (hi - lo)) := by
  have hl := dps_len h
  unfold cutV
  rw [HT.sIx_nat, HT.sIx_nat, Nat.min_eq_left (by omega), Nat.min_eq_left (by omega)]
  exact dps_take _ (dps_drop lo h)
/-- a[lo:hi] -/
theorem xn_cut {ds : List PyData} {lo hi : Nat} (ha : Xd C a A (.dat (.list ds))) (hb : Xd C b A (.dat (.int lo))) (hc : Xd C c A (.dat (.int hi))) (h1 : lo ≤ hi) (h2 : hi ≤ ds.length) : Xd C (.Subscript a (.Slice (some b) (some c) none p2) pos) A (.nl ((ds.drop lo).take (hi - lo))) := by
  obtain ⟨ta, a1, a2⟩ := ha
  obtain ⟨tb, b1, b2⟩ := hb
  obtain ⟨tc, c1, c2⟩ := hc
  refine ⟨tSl (rSlL C.K) ta (tPart tb) (tPart tc), fun X hX => by have q := pe_slice (p2 := p2) (pos := pos) sl_list (a1 X hX) (po_some (b1 X hX)) (po_some (c1 X hX)); rw [hX.K] at q; exact q, fun H0 σ G H x m Q q => a2 H0 σ G H x m _ fun v G1 H1 z n1 s1 i1 => ?_⟩
  subst s1
  obtain ⟨l, vs, rfl, k1, k2⟩ := is_list i1
  refine b2 H0 σ G1 H1 n1.s (m.up n1) _ fun u G2 H2 z2 n2 s2 i2 => ?_
  subst s2
  refine ⟨lo, is_int i2, c2 H0 σ G2 H2 n2.s (m.up (n1.trans n2)) _ fun y G3 H3 z3 n3 s3 i3 => ?_⟩
  subst s3
  exact ⟨hi, is_int i3, l, vs, rfl, n3.s.sl (n3.g.sl (n2.g.sl k1)), fun p hp => q _ _ _ _ (((n1.trans n2).trans n3).trans (Nx.new (o := .lst (cutV vs (some (lo : Int)) (some (hi : Int)))) n3.s hp)) rfl ⟨p, _, rfl, upd_same, (Ex.new (n3.s.back hp)).dps (cut_of (n3.g.dps (n2.g.dps k2)) h1 h2)⟩⟩
theorem on_max : ∀ X, C.On X → CallR X (.builtin "max") (rMax C.K) := fun X hX => by
  have q := cr_max (X := X) hX.calm
  rw [hX.K] at q
  exact q
/-- max(ints) -/
theorem xd_max {is : List Int} {i : Int} (ha : Xd C e A (.dat (.list (is.map PyData.int)))) (hi : i ∈ is) (hm : ∀ y ∈ is, y ≤ i) (hg : gloB C.sc "max" = true := by (try dsimp only [Ct.blk]); decide +kernel) (hst : noStars [e] = true := by rfl) : Xd C (.Call (.Name "max" p) [e] [] pos) A (.dat (.int i)) :=
  xe_callB on_max g.bMax (by decide +kernel) (xs_cons ha xs_nil (noStars_cons hst).1) (rc_d fun vs G H x ia Q q => by
    obtain ⟨v, rfl, i1⟩ := isA_one ia
    obtain ⟨l, us, rfl, h1, h2⟩ := is_list i1
    rw [dps_ints h2] at h1
    refine ⟨l, is, rfl, x.sl h1, List.length_pos_of_mem hi, fun m hmem hle => ?_⟩
    have e1 : m = i := Int.le_antisymm (hm m hmem) (hle i hi)
    rw [e1]
    exact fin x q rfl mk_int) hg hst
end
/-! ### a comprehension stored in a captured name -/
def celO (sc : Scope) (x : Str) : Bool := match sc.names.lookup x with
  | some .cell => true
  | _ => false
theorem sw_cell {v : Expr} {x : Str} {px : Pos} {l : Nat} {env : Env} {sc : Scope} (hs : env.scope = sc) (hx : celO sc x = true) : swapsWith v (some (.Name x px)) l env = pure false := by
  have ky : env.kindOf x = some .cell := by
    unfold Env.kindOf
    rw [hs]
    unfold celO at hx
    split at hx
    · assumption
    · cases hx
  unfold swapsWith
  simp only [ky]
  split
  · rename_i h
    show (pure (_ && (some NameKind.cell == some NameKind.local) && _ && _) : Sem Bool) = _
    rw [show (some NameKind.cell == some NameKind.local) = false from rfl, Bool.and_false]
    rfl
  · rfl
section
variable {C : Ct} {A : AS} {E : AE} {e : Expr} {pos pos' : Pos} {x : Str}
theorem celO_sto {sc : Scope} (h : celO sc x = true) : stoB sc (fun _ => true) x = true := by
  unfold celO at h
  unfold stoB
  split at h
  · rename_i h'
    rw [h']
  · cases h
theorem xq_setC (i : Nat) {a : Ab} (h : Xd C e A a) (k : E.nx (A.set i a)) (hN : C.N[i]? = some x := by rfl) (hc : celO C.sc x = true := by (try dsimp only [Ct.blk]); decide +kernel) (hx : stoB C.sc C.fn x = true := by (try dsimp only [Ct.blk]); decide +kernel) (hi : A.off i := by exact AS.off_none) :
    Xq C (.Assign [.Name x pos'] e pos) A E := fun D G0 H0 ok σ G H n m =>
  ⟨tAsg (UE C e) (gName i), fun X hX => ps_set hX.nd (by rw [hX.N]; exact hN) (by rw [hX.sc]; exact stoB_loc hx) (pe_UE hX) (sw_cell hX.sc hc) (by rw [hX.fn, hX.sc]; exact stoB_fn hx),
    h.ev H0 σ G H n.s m _ fun v G' H' b n' s j => ok.nx _ _ G' H' k (n.step n') ((m.up n').set hi (by rw [← s]; exact j))⟩
theorem xq_ownC (i : Nat) {S : Ow → Prop} (h : Xo C e A S) (k : ∀ o, S o → E.nx (A.own i o)) (hN : C.N[i]? = some x := by rfl) (hc : celO C.sc x = true := by (try dsimp only [Ct.blk]); decide +kernel) (hx : stoB C.sc C.fn x = true := by (try dsimp only [Ct.blk]); decide +kernel) (hi : i < A.ts.length := by exact Nat.le_of_ble_eq_true rfl) :
    Xq C (.Assign [.Name x pos'] e pos) A E := fun D G0 H0 ok σ G H n m =>
  ⟨tAsg (UE C e) (gName i), fun X hX => ps_set hX.nd (by rw [hX.N]; exact hN) (by rw [hX.sc]; exact stoB_loc hx) (pe_UE hX) (sw_cell hX.sc hc) (by rw [hX.fn, hX.sc]; exact stoB_fn hx),
    h.ev H0 σ G H n.s m _ fun p G' H' o n' h0 hg s ho => let ⟨n2, h2, ho2⟩ := stepO n n' h0 ho; ok.nx _ _ G' H' (k o s) n2 ((m.up n').owns hi h2 hg ho2)⟩
end
/-! ### place_turned, its place known -/
abbrev c_place_turnedP : Con := conD (α := T8 × Pl × Int × Int) (fun g => inR g.2.1 g.2.2.1 g.2.2.2 = true) (fun g => [.dat (pT g.1), .dat (pP g.2.1), .dat (.int g.2.2.1), .dat (.int g.2.2.2)]) (fun g => .pt (pt g.1 g.2.1 g.2.2.1 g.2.2.2))
def ptKP (y x low far : Int) : List (List Nat × Ab) := [([117, 114, 100, 108], .pt (y, x)), ([114, 100, 108, 117], .pt (x, low)), ([100, 108, 117, 114], .pt (low, far)), ([108, 117, 114, 100], .pt (far, y)),
  ([117, 108, 100, 114], .pt (y, far)), ([100, 114, 117, 108], .pt (low, x)), ([108, 100, 114, 117], .pt (x, y)), ([114, 117, 108, 100], .pt (far, low))]
theorem ptKP_lk (t : T8) (p : Pl) (h w : Int) : lkA ((ptKP p.1 p.2 (h - 1 - p.1) (w - 1 - p.2)).map fun q => (tx q.1, q.2)) (tx (tt t)) = some (.pt (pt t p h w)) := by
  unfold ptKP
  simp only [List.map_cons, List.map_nil, lkT]
  match t with
  | 0 => rfl
  | 1 => rfl
  | 2 => rfl
  | 3 => rfl
  | 4 => rfl
  | 5 => rfl
  | 6 => rfl
  | 7 => rfl
section
variable {Γ : Ga} [Gx Γ]
theorem ok_place_turnedP (D : Def Γ "place_turned" (top 25) ["turn", "place", "rows", "columns"]) (h_want_turn : HasF Γ 2 "want_turn" c_want_turn) (h_is_place : HasF Γ 3 "is_place" c_is_place) : HasF Γ 4 "place_turned" c_place_turnedP := by
  refine hasF D sc_place_turned (fun _ _ => rfl) fun ⟨t, q, h, w⟩ hq => ?_
  have hq : inR q h w = true := hq
  refine xp_then (xq_expr (xd_call h_want_turn lv _ trivial (xs_cons (xd_var 0 rfl) xs_nil) rfl) rfl) ?_
  refine xp_then (xq_ifB (xt_not (xt_v (xd_call h_is_place lv (q, _, _) trivial (xs_cons (xd_var 1 rfl) (xs_cons (xd_var 2 rfl) (xs_cons (xd_var 3 rfl) xs_nil))) rfl))) (fun hT => by rw [hq] at hT; cases hT) (fun _ => xp_nil rfl)) ?_
  refine xp_then (xq_asgD [4, 5] (xd_var 1 rfl) (xg_pairD 4 5) rfl) ?_
  refine xp_then (xq_parD 6 7 (xs_cons (xd_sub (xd_sub (xd_var 2 rfl) xd_int) (xd_var 4 rfl)) (xs_cons (xd_sub (xd_sub (xd_var 3 rfl) xd_int) (xd_var 5 rfl)) xs_nil)) rfl) ?_
  refine xp_then (xq_ownD 8 (o := .od ((ptKP q.1 q.2 (h - 1 - q.1) (w - 1 - q.2)).map fun (q : List Nat × Ab) => ((tx q.1, q.2) : Str × Ab))) (xo_dispD
    (x2_consT [117, 114, 100, 108] (xd_tupP (xs_cons (xd_var 4 rfl) (xs_cons (xd_var 5 rfl) xs_nil)))
    (x2_consT [114, 100, 108, 117] (xd_tupP (xs_cons (xd_var 5 rfl) (xs_cons (xd_var 6 rfl) xs_nil)))
    (x2_consT [100, 108, 117, 114] (xd_tupP (xs_cons (xd_var 6 rfl) (xs_cons (xd_var 7 rfl) xs_nil)))
    (x2_consT [108, 117, 114, 100] (xd_tupP (xs_cons (xd_var 7 rfl) (xs_cons (xd_var 4 rfl) xs_nil)))
    (x2_consT [117, 108, 100, 114] (xd_tupP (xs_cons (xd_var 4 rfl) (xs_cons (xd_var 7 rfl) xs_nil)))
    (x2_consT [100, 114, 117, 108] (xd_tupP (xs_cons (xd_var 6 rfl) (xs_cons (xd_var 5 rfl) xs_nil)))
    (x2_consT [108, 100, 114, 117] (xd_tupP (xs_cons (xd_var 5 rfl) (xs_cons (xd_var 4 rfl) xs_nil)))
    (x2_consT [114, 117, 108, 100] (xd_tupP (xs_cons (xd_var 7 rfl) (xs_cons (xd_var 6 rfl) xs_nil)))
    x2_nilD)))))))) (nodup_tx (ls := [[117, 114, 100, 108], [114, 100, 108, 117], [100, 108, 117, 114], [108, 117, 114, 100], [117, 108, 100, 114], [100, 114, 117, 108], [108, 100, 114, 117], [114, 117, 108, 100]]) (by decide)) (Nat.le_of_ble_eq_true rfl)) rfl) ?_
  exact xp_one (xq_retD (xd_ownGet 8 rfl (xd_var 0 rfl) (ptKP_lk t q h w)) rfl)
end
/-! ### plain: places -/
theorem mem_places {h w : Nat} {p : Pl} : p ∈ places h w ↔ inR p h w = true := by
  rw [inR_iff]
  obtain ⟨y, x⟩ := p
  unfold places
  simp only [List.mem_flatten, List.mem_map, List.mem_range]
  constructor
  · rintro ⟨l, ⟨a, ha, rfl⟩, hm⟩
    obtain ⟨b, hb, e⟩ := List.mem_map.mp hm
    cases e
    have hb' := List.mem_range.mp hb
    omega
  · rintro ⟨⟨h1, h2⟩, h3, h4⟩
    refine ⟨_, ⟨y.toNat, by omega, rfl⟩, List.mem_map.mpr ⟨x.toNat, List.mem_range.mpr (by omega), ?_⟩⟩
    rw [Int.toNat_of_nonneg h1, Int.toNat_of_nonneg h3]
theorem places_fin : ∀ h w : Fin 7, (places h w).Pairwise le2 ∧ (places h w).Nodup := by decide +kernel
theorem places_pw {h w : Nat} (h6 : h ≤ 6) (w6 : w ≤ 6) : (places h w).Pairwise le2 ∧ (places h w).Nodup := places_fin ⟨h, by omega⟩ ⟨w, by omega⟩
def tall (t : T8) (rows : List (List Nat)) : Nat := if oddT t then wid rows else hgt rows
def broad (t : T8) (rows : List (List Nat)) : Nat := if oddT t then hgt rows else wid rows
theorem tall_i (t : T8) (rows : List (List Nat)) : (tall t rows : Int) = if oddT t then (wid rows : Int) else (hgt rows : Int) := by
  unfold tall
  split <;> rfl
theorem broad_i (t : T8) (rows : List (List Nat)) : (broad t rows : Int) = if oddT t then (hgt rows : Int) else (wid rows : Int) := by
  unfold broad
  split <;> rfl
theorem odd_inv : ∀ t : T8, oddT (inv t) = oddT t := by decide +kernel
theorem inv_inv : ∀ t : T8, inv (inv t) = t := by decide +kernel
theorem pt_there {t : T8} {p : Pl} {rows : List (List Nat)} (hp : inR p (hgt rows) (wid rows) = true) : inR (pt t p (hgt rows) (wid rows)) (tall t rows) (broad t rows) = true := by
  rw [tall_i, broad_i]
  exact pt_in hp
theorem pt_fro (t : T8) (p : Pl) (rows : List (List Nat)) : pt (inv t) (pt t p (hgt rows) (wid rows)) (tall t rows) (broad t rows) = p := by
  rw [tall_i, broad_i]
  exact pt_back t p _ _
theorem pt_hence {t : T8} {q : Pl} {rows : List (List Nat)} (hq : inR q (tall t rows) (broad t rows) = true) : inR (pt (inv t) q (tall t rows) (broad t rows)) (hgt rows) (wid rows) = true ∧ pt t (pt (inv t) q (tall t rows) (broad t rows)) (hgt rows) (wid rows) = q := by
  have z := pt_in (t := inv t) hq
  have y := pt_back (inv t) q (tall t rows) (broad t rows)
  rw [inv_inv] at y
  rw [odd_inv] at z y
  have e1 : (if oddT t then ((broad t rows : Nat) : Int) else (tall t rows : Int)) = hgt rows := by
    rw [tall_i, broad_i]
    cases oddT t <;> rfl
  have e2 : (if oddT t then ((tall t rows : Nat) : Int) else (broad t rows : Int)) = wid rows := by
    rw [tall_i, broad_i]
    cases oddT t <;> rfl
  rw [e1, e2] at z y
  exact ⟨z, y⟩
theorem tall_le {rows : List (List Nat)} (F : FlOk rows) (t : T8) : 1 ≤ tall t rows ∧ tall t rows ≤ 6 ∧ 1 ≤ broad t rows ∧ broad t rows ≤ 6 := by
  have h1 : 1 ≤ hgt rows := F.h1
  have h2 : hgt rows ≤ 6 := F.h2
  have w1 := F.w1
  have w2 := F.w2
  unfold tall broad
  cases oddT t <;> simp only [if_true, if_false, Bool.false_eq_true] <;> omega
/-- the keys of the dict of signs -/
def pkeys (t : T8) (rows : List (List Nat)) : List Pl := (places (hgt rows) (wid rows)).map fun p => pt t p (hgt rows) (wid rows)
theorem pkeys_nodup {rows : List (List Nat)} (F : FlOk rows) (t : T8) : (pkeys t rows).Nodup := by
  unfold pkeys
  exact nodup_map (fun a b e => by rw [← pt_fro t a rows, ← pt_fro t b rows, e]) (places_pw F.h2 F.w2).2
theorem mem_pkeys {rows : List (List Nat)} {t : T8} {q : Pl} : q ∈ pkeys t rows ↔ inR q (tall t rows) (broad t rows) = true := by
  unfold pkeys
  constructor
  · intro h
    obtain ⟨p, hp, rfl⟩ := List.mem_map.mp h
    exact pt_there (mem_places.mp hp)
  · intro h
    obtain ⟨z, y⟩ := pt_hence h
    exact List.mem_map.mpr ⟨_, mem_places.mpr z, y⟩
theorem in_64 {p : Pl} {h w : Nat} (h6 : h ≤ 6) (w6 : w ≤ 6) (hp : inR p h w = true) : P64 p := by
  have z := inR_iff.mp hp
  unfold P64
  omega
theorem pkeys_sorted {rows : List (List Nat)} (F : FlOk rows) (t : T8) : sP (pkeys t rows) = places (tall t rows) (broad t rows) := by
  obtain ⟨t1, t2, b1, b2⟩ := tall_le F t
  refine (sP_unique (fun p hp => in_64 t2 b2 (mem_pkeys.mp hp)) ?_ (places_pw t2 b2).1).symm
  exact (List.perm_ext_iff_of_nodup (places_pw t2 b2).2 (pkeys_nodup F t)).mpr fun q => by rw [mem_places, mem_pkeys]
theorem lkP_mem {kvs : List (Pl × Nat)} : ∀ {p : Pl × Nat}, (kvs.map Prod.fst).Nodup → p ∈ kvs → lkP kvs p.1 = some p.2 := by
  induction kvs with
  | nil => intro p _ h; cases h
  | cons q r ih =>
    intro p nd h
    rw [List.map_cons, List.nodup_cons] at nd
    unfold lkP
    rcases List.mem_cons.mp h with e | h
    · rw [e, List.find?_cons_of_pos (by simp)]
      rfl
    · rw [List.find?_cons_of_neg (by simp only [decide_eq_true_eq]; intro e; exact nd.1 (by rw [e]; exact List.mem_map.mpr ⟨p, h, rfl⟩))]
      exact ih nd.2 h
/-- what stands at a place of the picture -/
def pAt (t : T8) (rows : List (List Nat)) (q : Pl) : Nat := at2 rows (pt (inv t) q (tall t rows) (broad t rows))
theorem signs_lk {rows : List (List Nat)} (F : FlOk rows) {t : T8} {q : Pl} (hq : inR q (tall t rows) (broad t rows) = true) : lkP ((places (hgt rows) (wid rows)).map fun p => (pt t p (hgt rows) (wid rows), seen rows p)) q = some (pAt t rows q) := by
  obtain ⟨z, y⟩ := pt_hence hq
  have e : (q, seen rows (pt (inv t) q (tall t rows) (broad t rows))) ∈ (places (hgt rows) (wid rows)).map fun p => (pt t p (hgt rows) (wid rows), seen rows p) := List.mem_map.mpr ⟨_, mem_places.mpr z, by rw [y]⟩
  have k := lkP_mem (p := (q, seen rows (pt (inv t) q (tall t rows) (broad t rows)))) (by rw [List.map_map]; exact pkeys_nodup F t) e
  rw [k]
  unfold pAt seen
  rw [if_pos (show inF rows _ = true from z)]
theorem pic_eq (t : T8) (rows : List (List Nat)) : pic t rows = (List.range (tall t rows)).map fun (y : Nat) => (List.range (broad t rows)).map fun (x : Nat) => pAt t rows ((y : Int), (x : Int)) := by
  unfold pic pAt
  show (List.range (tall t rows)).map _ = _
  refine List.map_congr_left fun y _ => List.map_congr_left fun x _ => ?_
  rfl
theorem pic_row {t : T8} {rows : List (List Nat)} {r : List Nat} (h : r ∈ pic t rows) : ∃ y : Nat, y < tall t rows ∧ r = (List.range (broad t rows)).map fun (x : Nat) => pAt t rows ((y : Int), (x : Int)) := by
  rw [pic_eq] at h
  obtain ⟨y, hy, rfl⟩ := List.mem_map.mp h
  exact ⟨y, List.mem_range.mp hy, rfl⟩
theorem at2_sign {rows : List (List Nat)} (F : FlOk rows) {p : Pl} (h : inF rows p = true) : at2 rows p ∈ SIGNS := let ⟨_, _, _, _, z⟩ := F.at2 h; z
theorem in_nat {h w : Nat} {y x : Nat} (hy : y < h) (hx : x < w) : inR ((y : Int), (x : Int)) h w = true := inR_iff.mpr (by dsimp only; omega)
theorem pic_ok {rows : List (List Nat)} (F : FlOk rows) (t : T8) : FlOk (pic t rows) ∧ hgt (pic t rows) = tall t rows ∧ wid (pic t rows) = broad t rows := by
  obtain ⟨t1, t2, b1, b2⟩ := tall_le F t
  have hh : hgt (pic t rows) = tall t rows := by
    unfold hgt
    rw [pic_eq, List.length_map, List.length_range]
  have hl : ∀ r ∈ pic t rows, r.length = broad t rows := fun r hr => by
    obtain ⟨y, _, rfl⟩ := pic_row hr
    rw [List.length_map, List.length_range]
  have hw : wid (pic t rows) = broad t rows := by
    unfold wid
    cases e : pic t rows with
    | nil =>
      rw [e] at hh
      have hh : 0 = tall t rows := hh
      omega
    | cons r q => exact hl r (by rw [e]; exact List.mem_cons_self)
  have hh' : (pic t rows).length = tall t rows := hh
  refine ⟨⟨by omega, by omega, by omega, by omega, fun r hr => by rw [hw]; exact hl r hr, fun r hr c hc => ?_⟩, hh, hw⟩
  obtain ⟨y, hy, rfl⟩ := pic_row hr
  obtain ⟨x, hx, rfl⟩ := List.mem_map.mp hc
  exact at2_sign F (pt_hence (in_nat hy (List.mem_range.mp hx))).1
/-- the rows out of the flat list -/
theorem flat_cut {α : Type} {w : Nat} : ∀ (L : List (List α)) (i : Nat) (r : List α), (∀ l ∈ L, l.length = w) → L[i]? = some r → (L.flatten.drop (i * w)).take w = r
  | [], i, r, _, h => by cases h
  | l :: L, 0, r, hl, h => by
    have e : l = r := Option.some.inj h
    rw [Nat.zero_mul, List.drop_zero, List.flatten_cons, ← hl l List.mem_cons_self, List.take_left, e]
  | l :: L, i + 1, r, hl, h => by
    have hw := hl l List.mem_cons_self
    rw [List.flatten_cons, Nat.succ_mul, List.drop_append, hw, List.drop_of_length_le (by rw [hw]; omega), List.nil_append, Nat.add_sub_cancel]
    exact flat_cut L i r (fun z hz => hl z (List.mem_cons_of_mem _ hz)) h
end Oh
set_option maxHeartbeats 4000000
/-! OjD: walks: picture, kept_by. -/
namespace Oh
open PySem L2
theorem rgc_small : ∀ a b : Fin 7, 1 ≤ b.val → (((b.val : Int) ≠ 0 ∧ (b.val : Int).natAbs < 1073741824) ∧ Builtin.Range.small 0 ((a.val * b.val : Nat) : Int) (b.val : Int) = true) ∧ Builtin.Range.rangeSize 0 ((a.val * b.val : Nat) : Int) (b.val : Int) = a.val := by decide +kernel
theorem rgc_of {a b : Nat} (ha : a ≤ 6) (hb : 1 ≤ b) (hb6 : b ≤ 6) : RgC 0 ((a * b : Nat) : Int) (b : Int) a := by
  obtain ⟨⟨⟨z1, z2⟩, z3⟩, z4⟩ := rgc_small ⟨a, by omega⟩ ⟨b, by omega⟩ hb
  exact ⟨z1, z2, z3, z4⟩
/-- a row of the picture -/
def prow (t : T8) (rows : List (List Nat)) (y : Nat) : List Nat := (List.range (broad t rows)).map fun (x : Nat) => pAt t rows ((y : Int), (x : Int))
theorem pic_prow (t : T8) (rows : List (List Nat)) : pic t rows = (List.range (tall t rows)).map (prow t rows) := pic_eq t rows
section
variable {Γ : Ga} [Gx Γ]
theorem sc_picture : FnScope ["self", "turn", "rows", "columns", "signs", "place", "wide", "row", "column", "flat", "at"] ["self", "turn"] (defScope (fl 13)) := ⟨rfl, rfl, rfl, by decide +kernel, rfl, by decide +kernel, by decide +kernel⟩
theorem ok_picture (D : MDef Γ (CF Γ.K) "picture" "Floor.picture" (fl 13) ["self", "turn"]) (h_want_turn : HasF Γ 2 "want_turn" c_want_turn) (h_size : HasM Γ 1 (CF Γ.K) "size" c_size) (h_place_turned : HasF Γ 4 "place_turned" c_place_turnedP)
    (h_seen : HasM Γ 5 (CF Γ.K) "seen" c_seen) (h_places : HasM Γ 2 (CF Γ.K) "places" c_places) (h_Floor : HasI Γ 3 (CF Γ.K) ci_Floor) : HasM Γ 7 (CF Γ.K) "picture" c_picture := by
  refine hasM D sc_picture (fun _ _ => rfl) fun ⟨rows, t⟩ F => ?_
  have F : FlOk rows := F
  have f2 : hgt rows ≤ 6 := F.h2
  have f3 := F.w2
  obtain ⟨t1, t2, b1, b2⟩ := tall_le F t
  have few : hgt rows * wid rows ≤ 36 := Nat.mul_le_mul f2 f3
  have pl : (places (hgt rows) (wid rows)).length ≤ 36 := by
    rw [places_len]
    exact few
  have pk : (pkeys t rows).length ≤ 36 := by
    unfold pkeys
    rw [List.length_map]
    exact pl
  have few2 : tall t rows * broad t rows ≤ 36 := Nat.mul_le_mul t2 b2
  refine xp_then (xq_expr (xd_call h_want_turn lv _ trivial (xs_cons (xd_var 1 rfl) xs_nil) rfl) rfl) ?_
  refine xp_then (xq_asgD [2, 3] (xd_meth0 h_size lv Gx.clF (xd_var 0 rfl) ins_flo rows F rfl rfl) (xg_pairD 2 3) rfl) ?_
  refine xp_then (xq_setC 4 (xd_dcT (places (hgt rows) (wid rows)) (fun p => [Ab.dat (pP p)]) (fun p => pt t p (hgt rows) (wid rows)) (fun p => seen rows p) [("place", 5)] (xi_eq (xi_list (xd_meth0 h_places lv Gx.clF (xd_var 0 rfl) ins_flo rows F rfl rfl)) (by unfold its1; rw [List.map_map]; rfl)) (by omega) (pkeys_nodup F t)
    (fun p hp => ⟨_, xg_name 5, xd_call h_place_turned lv (t, p, (hgt rows : Int), (wid rows : Int)) (mem_places.mp hp) (xs_cons (xd_var 1 rfl) (xs_cons (xd_var 5 rfl) (xs_cons (xd_var 2 rfl) (xs_cons (xd_var 3 rfl) xs_nil)))) rfl, xd_meth h_seen lv Gx.clF (xd_var 0 rfl) ins_flo (rows, p) F (xs_cons (xd_var 5 rfl) xs_nil) rfl rfl⟩)) rfl) ?_
  have keys : ((places (hgt rows) (wid rows)).map fun p => (pt t p (hgt rows) (wid rows), seen rows p)).map Prod.fst = pkeys t rows := by
    rw [List.map_map]
    rfl
  refine xp_then (xq_setD 6 (Xe.as (d := .dat (.int (broad t rows))) (xd_add (xd_max (is := (pkeys t rows).map fun q => q.2) (i := (broad t rows : Int) - 1) (Xe.as (Xo.lst (xo_lc (pkeys t rows) (fun p => [Ab.dat (pP p)]) (fun _ => true) (fun q => .int q.2) [("row", 7), ("column", 8)] (xi_eq (xi_keysT (xd_var 4 rfl)) (by rw [keys]; rfl)) (by omega) (fun q hq => ⟨_, xg_pairD 7 8, xts_nil, fun _ => xd_var 8 rfl⟩))) ?_) ?_ ?_) xd_int) ?_) rfl) ?_
  · rw [filt, List.map_map]
    rfl
  · refine List.mem_map.mpr ⟨(0, (broad t rows : Int) - 1), mem_pkeys.mpr (inR_iff.mpr ?_), rfl⟩
    dsimp only
    omega
  · intro y hy
    obtain ⟨q, hq, rfl⟩ := List.mem_map.mp hy
    have z := inR_iff.mp (mem_pkeys.mp hq)
    omega
  · congr 2
    omega
  · refine xp_then (xq_ownC 9 (xo_lc (places (tall t rows) (broad t rows)) (fun q => [Ab.pt q]) (fun _ => true) (fun q => pS [pAt t rows q]) [("place", 5)] (xi_eq (xi_sortedT (xd_var 4 rfl) ?_ ?_) ?_) ?_ (fun q hq => ⟨_, xg_name 5, xts_nil, fun _ => xd_getT (xd_var 4 rfl) (xd_var 5 rfl) (signs_lk F (mem_places.mp hq))⟩)) fun o ho => by rw [ho]) ?_
    · rw [keys]
      exact fun z hz => in_64 t2 b2 (mem_pkeys.mp hz)
    · rw [List.length_map]
      omega
    · rw [keys, pkeys_sorted F]
    · rw [places_len]
      omega
    · refine xp_pub (i := 9) rfl pub_lst ?_
      have fl : ((places (tall t rows) (broad t rows)).filter fun _ => true).map (fun q => pS [pAt t rows q]) = (((List.range (tall t rows)).map (prow t rows)).flatten.map fun c => [c]).map pS := by
        rw [filt]
        unfold places prow
        rw [List.map_flatten, List.map_flatten, List.map_flatten, List.map_map, List.map_map, List.map_map]
        congr 1
        refine List.map_congr_left fun y _ => ?_
        show List.map _ (List.map _ _) = List.map _ (List.map _ (List.map _ _))
        rw [List.map_map, List.map_map, List.map_map]
        exact List.map_congr_left fun x _ => rfl
      have flen : ((((List.range (tall t rows)).map (prow t rows)).flatten.map fun c => [c]).map pS).length = tall t rows * broad t rows := by
        rw [← fl, filt, List.length_map, places_len]
      refine xp_one (xq_retD (((xo_make h_Floor Gx.mgF lv (pic t rows) (pic_ok F t).1 (xs_cons (Xe.as (Xo.lst (xo_lc (List.range (tall t rows)) (fun i => [Ab.dat (.int ((i * broad t rows : Nat) : Int))]) (fun _ => true) (fun i => pS (prow t rows i)) [("at", 10)] (xi_eq (xi_rng3 (n := tall t rows) (xs_cons xd_int (xs_cons (Xe.as (d := .dat (.int ((tall t rows * broad t rows : Nat) : Int))) (xd_len (xd_var 9 rfl) rfl) ?_) (xs_cons (xd_var 6 rfl) xs_nil))) (rgc_of t2 b1 b2) Gx.bRange) ?_) ?_ (fun i hi => ⟨_, xg_name 10, xts_nil, fun _ => ?_⟩))) ?_) xs_nil)).xe fun o ⟨y, e⟩ => ⟨_, by rw [e]; exact pub_flo, rfl⟩)) rfl)
      · congr 3
        rw [fl]
        exact flen
      · unfold itsR
        refine List.map_congr_left fun i _ => ?_
        congr 3
        push_cast
        omega
      · rw [List.length_range]
        omega
      · have hi' := List.mem_range.mp hi
        have hcut : i * broad t rows + broad t rows ≤ tall t rows * broad t rows := by
          rw [← Nat.succ_mul]
          exact Nat.mul_le_mul_right _ hi'
        refine Xe.as (xd_join (ls := (prow t rows i).map fun c => [c]) (xd_str []) (Xe.as (d := .dat (.list (((prow t rows i).map fun c => [c]).map pS))) (xd_nl (xn_cut (lo := i * broad t rows) (hi := i * broad t rows + broad t rows) (xd_var 9 rfl) (xd_var 10 rfl) (Xe.as (xd_add (xd_var 10 rfl) (xd_var 6 rfl)) (by push_cast; rfl)) (by omega) ?_)) ?_) ?_) ?_
        · rw [fl, flen]
          exact hcut
        · congr 2
          rw [fl, Nat.add_sub_cancel_left, ← List.map_drop, ← List.map_drop, ← List.map_take, ← List.map_take]
          congr 2
          refine flat_cut _ i _ (fun l hl => ?_) ?_
          · obtain ⟨y, _, rfl⟩ := List.mem_map.mp hl
            unfold prow
            rw [List.length_map, List.length_range]
          · rw [List.getElem?_map, List.getElem?_range hi']
            rfl
        · rw [flat_one, List.map_id']
          unfold prow
          rw [List.length_map, List.length_range]
          omega
        · rw [flat_one, List.map_id']
      · rw [filt]
        show Ab.dat (.list (List.map _ _)) = Ab.dat (.list ((pic t rows).map pS))
        rw [pic_prow, List.map_map]
        rfl
/-- the turns that keep rows -/
def keeps (rows : List (List Nat)) : List T8 := (List.finRange 8).filter fun t => decide (pic t rows = rows)
abbrev c_kept_by : Con := conD (α := List (List Nat)) FlOk (fun rows => [.flo rows]) (fun rows => .dat (.list ((keeps rows).map pT)))
theorem sc_kept_by : FnScope ["floor", "turn"] ["floor"] (defScope (top 46)) := ⟨rfl, rfl, rfl, by decide +kernel, rfl, by decide +kernel, by decide +kernel⟩
theorem ok_kept_by (D : Def Γ "kept_by" (top 46) ["floor"]) (h_picture : HasM Γ 7 (CF Γ.K) "picture" c_picture) (h_feq : HasM Γ 1 (CF Γ.K) "__eq__" c_feq) : HasF Γ 8 "kept_by" c_kept_by := by
  refine hasF D sc_kept_by (fun _ _ => rfl) fun rows F => ?_
  have F : FlOk rows := F
  refine xp_one (xq_retD (Xo.lst (xo_lc (List.finRange 8) (fun t => [Ab.dat (pT t)]) (fun t => decide (pic t rows = rows)) pT [("turn", 1)] (xi_eq (xi_tup xd_cTURNS) (by unfold its1; rw [List.map_map, List.map_map]; rfl)) (by decide) (fun t _ =>
    ⟨_, xg_name 1, xts_one (xt_c (xc_own h_feq boolD lv (xd_meth h_picture lv Gx.clF (xd_var 0 rfl) ins_flo (rows, t) F (xs_cons (xd_var 1 rfl) xs_nil) rfl rfl) (xd_var 0 rfl) (pic t rows, rows) ⟨(pic_ok F t).1, F⟩ rfl ins_flo ins_flo (fun z e => ?_))), fun _ => xd_var 1 rfl⟩))) rfl)
  have e' : Ab.dat (.bool z) = .dat (.bool (decide (pic t rows = rows))) := e
  cases e'
  rfl
end
end Oh
set_option maxHeartbeats 4000000
/-! OjE: walk: in_mirror. -/
namespace Oh
open PySem L2
theorem putA_new {α : Type} {kvs : List (Str × α)} {k : Str} (a : α) (h : k ∉ kvs.map Prod.fst) : putA kvs k a = kvs ++ [(k, a)] := by
  unfold putA
  rw [if_neg]
  intro z
  obtain ⟨p, hp, e⟩ := List.any_eq_true.mp z
  exact h (List.mem_map.mpr ⟨p, hp, of_decide_eq_true e⟩)
theorem bkA_fst (bk : List (Nat × T8)) : (bkA bk).map Prod.fst = bk.map fun z => tx [z.1] := by
  unfold bkA
  rw [List.map_map]
  rfl
theorem putA_bk {bk : List (Nat × T8)} {i : Nat} {c : Nat} {u v : T8} (f : Nat × T8 → Nat × T8) (hf : ∀ z, (f z).1 = z.1) (hn : (bk.map Prod.fst).Nodup) (h : bk[i]? = some (c, u)) (hv : f (c, u) = (c, v)) : putA (bkA ((bk.take i).map f)) (tx [c]) (.dat (pT v)) = bkA ((bk.take (i + 1)).map f) := by
  rw [putA_new]
  · rw [take_app h, List.map_append]
    show _ = bkA (_ ++ [f (c, u)])
    rw [hv]
    unfold bkA
    rw [List.map_append]
    rfl
  · intro z
    rw [bkA_fst, List.map_map] at z
    obtain ⟨r, hr, e⟩ := List.mem_map.mp z
    have e1 : (f r).1 = c := one_inj e
    rw [hf] at e1
    have t : (bk.map Prod.fst).take (i + 1) = (bk.take i).map Prod.fst ++ [c] := by
      rw [← List.map_take, take_app h, List.map_append]
      rfl
    have nd : ((bk.take i).map Prod.fst ++ [c]).Nodup := by
      rw [← t]
      exact hn.sublist (List.take_sublist _ _)
    exact (List.nodup_append.mp nd).2.2 r.1 (List.mem_map.mpr ⟨r, hr, rfl⟩) c List.mem_cons_self e1
/-! ### plain: floors that a turn keeps -/
theorem at2_pic {t : T8} {rows : List (List Nat)} {q : Pl} (hq : inR q (tall t rows) (broad t rows) = true) : at2 (pic t rows) q = pAt t rows q := by
  obtain ⟨⟨a, b⟩, c, d⟩ := inR_iff.mp hq
  have h1 : q.1.toNat < tall t rows := by omega
  have h2 : q.2.toNat < broad t rows := by omega
  unfold at2
  rw [pic_prow, List.getD_eq_getElem?_getD, List.getD_eq_getElem?_getD, List.getElem?_map, List.getElem?_range h1]
  show ((prow t rows q.1.toNat)[q.2.toNat]?).getD 0 = _
  unfold prow
  rw [List.getElem?_map, List.getElem?_range h2]
  show pAt t rows (((q.1.toNat : Nat) : Int), ((q.2.toNat : Nat) : Int)) = _
  rw [Int.toNat_of_nonneg a, Int.toNat_of_nonneg c]
theorem kept_size {t : T8} {rows : List (List Nat)} (F : FlOk rows) (hk : pic t rows = rows) : tall t rows = hgt rows ∧ broad t rows = wid rows := by
  obtain ⟨_, h1, h2⟩ := pic_ok F t
  rw [hk] at h1 h2
  exact ⟨h1.symm, h2.symm⟩
theorem kept_in {t : T8} {rows : List (List Nat)} (F : FlOk rows) (hk : pic t rows = rows) {p : Pl} (hp : inF rows p = true) : inF rows (pt t p (hgt rows) (wid rows)) = true := by
  obtain ⟨h1, h2⟩ := kept_size F hk
  have z := pt_there (t := t) (rows := rows) hp
  rw [h1, h2] at z
  exact z
theorem kept_seen {t : T8} {rows : List (List Nat)} (F : FlOk rows) (hk : pic t rows = rows) {p : Pl} (hp : inF rows p = true) : seen rows (pt t p (hgt rows) (wid rows)) = seen rows p := by
  have z := at2_pic (pt_there (t := t) (rows := rows) hp)
  unfold pAt at z
  rw [hk, pt_fro] at z
  unfold seen
  rw [if_pos (kept_in F hk hp), if_pos hp, z]
theorem kept_can {t : T8} {rows : List (List Nat)} (F : FlOk rows) (hk : pic t rows = rows) {p : Pl} (hp : canSt rows p = true) : canSt rows (pt t p (hgt rows) (wid rows)) = true := by
  have hi := canSt_in hp
  unfold canSt at *
  rw [kept_in F hk hi, kept_seen F hk hi]
  rw [hi] at hp
  exact hp
theorem wsOk_sP {rows : List (List Nat)} {ps : List Pl} (h : WsOk rows ps) : WsOk rows (sP ps) :=
  ⟨fun p hp => h.i p ((sP_perm ps).mem_iff.mp hp), (sP_perm ps).nodup_iff.mpr h.n, by rw [(sP_perm ps).length_eq]; exact h.l⟩
theorem sP_sP {rows : List (List Nat)} {ps : List Pl} (F : FlOk rows) (h : WsOk rows ps) : sP (sP ps) = sP ps :=
  (sP_unique (fun p hp => in64 F (h.i p ((sP_perm ps).mem_iff.mp hp))) (List.Perm.refl _) (sP_pw ps)).symm
theorem wsOk_pt {t : T8} {rows : List (List Nat)} {ps : List Pl} (F : FlOk rows) (hk : pic t rows = rows) (h : WsOk rows ps) : WsOk rows (ps.map fun p => pt t p (hgt rows) (wid rows)) := by
  refine ⟨fun p hp => ?_, nodup_map (fun a b e => by rw [← pt_fro t a rows, ← pt_fro t b rows, e]) h.n, by rw [List.length_map]; exact h.l⟩
  obtain ⟨q, hq, rfl⟩ := List.mem_map.mp hp
  exact kept_in F hk (h.i q hq)
theorem mrB_fst (t : T8) (bk : List (Nat × T8)) : (mrB t bk).map Prod.fst = bk.map Prod.fst := by
  unfold mrB
  rw [List.map_map]
  rfl
section
variable {Γ : Ga} [Gx Γ]
theorem sc_in_mirror : FnScope ["world", "turn", "size", "book", "letter", "mine", "wishes", "place", "floor", "found"] ["world", "turn"] (defScope (top 48)) := ⟨rfl, rfl, rfl, by decide +kernel, rfl, by decide +kernel, by decide +kernel⟩
theorem ok_in_mirror (D : Def Γ "in_mirror" (top 48) ["world", "turn"]) (h_want_turn : HasF Γ 2 "want_turn" c_want_turn) (h_floor : HasM Γ 1 (CW Γ.K) "floor" c_wfloor) (h_size : HasM Γ 1 (CF Γ.K) "size" c_size) (h_book : HasM Γ 1 (CW Γ.K) "book" c_wbook)
    (h_then : HasF Γ 5 "then" c_then) (h_back : HasF Γ 3 "back" c_back) (h_place_turned : HasF Γ 4 "place_turned" c_place_turned) (h_wishes : HasM Γ 1 (CW Γ.K) "wishes" c_wwishes) (h_picture : HasM Γ 7 (CF Γ.K) "picture" c_picture)
    (h_open_places : HasM Γ 6 (CF Γ.K) "open_places" c_opens) (h_World : HasW Γ 9) (h_begun : HasM Γ 11 (CW Γ.K) "begun" c_begun) (h_stand_pictured : HasF Γ 6 "stand_pictured" c_stand_pictured) (h_start : HasM Γ 1 (CW Γ.K) "start" c_wstart) : HasF Γ 12 "in_mirror" c_in_mirror := by
  refine hasF D sc_in_mirror (fun _ _ => rfl) fun ⟨w, t⟩ O => ?_
  have O : MrOk w t := O
  have F := O.b.m.f
  have l60 := O.b.m.w.l
  have hk : w.book.map Prod.fst = letters w.rows := O.b.m.k
  have nd : (w.book.map Prod.fst).Nodup := by
    rw [hk]
    exact letters_nodup _
  have hl4 : w.book.length ≤ 4 := by
    have z := congrArg List.length hk
    rw [List.length_map] at z
    rw [z]
    exact Nat.le_trans (List.length_filter_le _ _) (by decide)
  refine xp_then (xq_expr (xd_call h_want_turn lv t trivial (xs_cons (xd_var 1 rfl) xs_nil) rfl) rfl) ?_
  refine xp_then (xq_setD 2 (xd_meth0 h_size lv Gx.clF (xd_meth0 h_floor lv Gx.clW (xd_var 0 rfl) ins_wor w trivial rfl rfl) ins_flo w.rows F rfl rfl) rfl) ?_
  refine xp_then (xq_ownD 3 xo_none rfl) ?_
  refine xp_cons (Mid := fun Z => ∃ a b, Z = ⟨[some (.wor w), some (.dat (pT t)), some (.dat (.tuple [.int (hgt w.rows), .int (wid w.rows)])), none, a, b, none, none, none, none], some (3, .od (bkA (mrB t w.book)))⟩)
    (xq_for [4, 5] (fun i Z => ∃ a b, Z = ⟨[some (.wor w), some (.dat (pT t)), some (.dat (.tuple [.int (hgt w.rows), .int (wid w.rows)])), none, a, b, none, none, none, none], some (3, .od (bkA ((w.book.take i).map fun z => (z.1, cm (cm (inv t) z.2) t))))⟩) (xi_items (xd_meth0 h_book lv Gx.clW (xd_var 0 rfl) ins_wor w trivial rfl rfl)) ⟨none, none, rfl⟩ ?_ ?_) ?_
  · intro i it Z hit ⟨a, b, e⟩
    subst e
    obtain ⟨⟨c, u⟩, hc, _, rfl⟩ := map_get hit
    refine ⟨_, xg_pair 4 5 (hi := off_own rfl) (hj := off_own rfl), xp_one (xq_ownPut 3 rfl (S := fun a => a = .dat (pT (cm (cm (inv t) u) t))) (xd_call h_then lv (cm (inv t) u, t) trivial (xs_cons (xd_call h_then lv (inv t, u) trivial (xs_cons (xd_call h_back lv t trivial (xs_cons (xd_var 1 rfl) xs_nil) rfl) (xs_cons (xd_var 5 rfl) xs_nil)) rfl) (xs_cons (xd_var 1 rfl) xs_nil)) rfl) (xd_var 4 rfl) ?_ (fun a e => ?_))⟩
    · unfold bkA
      rw [List.length_map, List.length_map, List.length_take]
      omega
    · refine ⟨some (.dat (pS [c])), some (.dat (pT u)), ?_⟩
      rw [e, ← putA_bk (fun z => (z.1, cm (cm (inv t) z.2) t)) (fun _ => rfl) nd hc rfl]
      rfl
  · rintro Z ⟨a, b, rfl⟩
    refine ⟨a, b, ?_⟩
    have z : (itsB w.book).length = w.book.length := List.length_map ..
    rw [z, List.take_length]
    rfl
  · rintro Z ⟨a, b, rfl⟩
    have hop : ∃ q r, opens w.rows = q :: r := by
      cases h : opens w.rows with
      | nil =>
        have z := O.b.m.b
        rw [h] at z
        cases z
      | cons q r => exact ⟨q, r, rfl⟩
    obtain ⟨q, r, hq⟩ := hop
    have fw : FwOk w.rows q (mrB t w.book) (w.goals.map fun p => pt t p (hgt w.rows) (wid w.rows)) := ⟨F, by rw [hq]; exact List.mem_cons_self, by rw [mrB_fst]; exact hk, wsOk_pt F O.p O.b.m.w⟩
    refine xp_pub (i := 3) (a := .book (mrB t w.book)) rfl pub_book ?_
    refine xp_then (xq_lc 6 (xl_lc w.goals (fun p => [Ab.dat (pP p)]) (fun _ => true) (fun p => pP (pt t p (hgt w.rows) (wid w.rows))) [("place", 7)] (xi_eq (xi_list (xd_meth0 h_wishes lv Gx.clW (xd_var 0 rfl) ins_wor w trivial rfl rfl)) (by unfold its1; rw [List.map_map]; rfl)) (by omega)
      (fun p hp => ⟨_, xg_name 7, xts_nil, fun _ => xd_call h_place_turned lv (t, p, (hgt w.rows : Int), (wid w.rows : Int)) (O.b.m.w.i p hp) (xs_cons (xd_var 1 rfl) (xs_cons (xd_var 7 rfl) (xs_cons (xd_ixT (xd_var 2 rfl) xd_int (atI_nat (j := 0) rfl)) (xs_cons (xd_ixT (xd_var 2 rfl) xd_int (atI_nat (j := 1) rfl)) xs_nil)))) rfl⟩)) fun o ho => by rw [ho]) ?_
    refine xp_pub (i := 6) rfl pub_lst ?_
    refine xp_then (xq_setD 8 (Xe.as (d := .flo w.rows) (xd_meth h_picture lv Gx.clF (xd_meth0 h_floor lv Gx.clW (xd_var 0 rfl) ins_wor w trivial rfl rfl) ins_flo (w.rows, t) F (xs_cons (xd_var 1 rfl) xs_nil) rfl rfl) (by show Ab.flo (pic t w.rows) = _; rw [O.p])) rfl) ?_
    refine xp_then (xq_setD 9 ((xo_world2 (b := false) h_World Gx.mgW lv fw (xd_var 8 rfl) (xd_ixL (xd_meth0 h_open_places lv Gx.clF (xd_var 8 rfl) ins_flo w.rows F rfl rfl) xd_int (atI_nat (j := 0) (by rw [hq]; rfl))) (xd_var 3 rfl) (Xe.as (xd_var 6 rfl) ?_)).xe fun o ⟨y, e⟩ => ⟨_, by rw [e]; exact pub_wor, rfl⟩) rfl) ?_
    · rw [filt]
      show _ = Ab.dat (.list ((w.goals.map _).map pP))
      rw [List.map_map]
      rfl
    · refine xp_one (xq_retD (Xe.as (xd_meth h_begun lv Gx.clW (xd_var 9 rfl) ins_wor (wdN w.rows q 0 (mrB t w.book) (w.goals.map fun p => pt t p (hgt w.rows) (wid w.rows)), stP w.first t (hgt w.rows) (wid w.rows)) ⟨?_, ?_⟩ (xs_cons (xd_call h_stand_pictured lv (w.first, t, (hgt w.rows : Int), (wid w.rows : Int)) ?_ (xs_cons (xd_meth0 h_start lv Gx.clW (xd_var 0 rfl) ins_wor w trivial rfl rfl) (xs_cons (xd_var 1 rfl) (xs_cons (xd_var 2 rfl) xs_nil))) rfl) xs_nil) rfl rfl) ?_) rfl)
      · exact ⟨⟨F, fw.b, fw.k, wsOk_sP fw.w⟩, sP_sP F fw.w⟩
      · have hs := O.s
        revert hs
        cases w.first with
        | none => exact fun h => h
        | some z => exact fun h => kept_can F O.p h
      · have hs := O.s
        revert hs
        cases w.first with
        | none => exact fun _ z e => by cases e
        | some z =>
          intro h u e
          cases e
          exact canSt_in h
      · show Ab.wor _ = Ab.wor (mrW t w)
        unfold mrW wdN
        rw [hq]
        rfl
end
end Oh
set_option maxHeartbeats 4000000
/-! OjF: defs that return a new object of the caller's own. -/
namespace Oh
open PySem L2
structure ConO where
  α : Type
  pre : α → Prop
  args : α → List Ab
  res : α → Ow → Prop
def spO (K : PySem.W.Frag) (c : ConO) : Sp := fun vs H Q _ => ∃ (g : c.α) (G : Hp), c.pre g ∧ Ex G H ∧ IsA K G vs (c.args g) ∧ ∀ p G' H' o, Nx G H G' H' → H p = none → G' p = none → c.res g o → OwIs K H G' H' p o → Q (.ref p) H'
def HasO (Γ : Ga) (k : Nat) (x : Str) (c : ConO) : Prop := ∃ (f : Addr) (fd : FuncData) (ps : List Str), FnOk Γ.P Γ.w Γ.K Γ.mg Γ.base CX0 k f fd ps (spO Γ.K c) ∧ Γ.mg x = some (.ref f) ∧ PySem.W.keepIn Γ.K (.ref f) = true ∧ Binds Γ.K fd ps []
/-- statements that end with the return of what is ours -/
def Xr (C : Ct) (sts : List Stmt) (A : AS) (S : Ow → Prop) : Prop := ∀ (D : Ends) (G0 H0 : Hp), (∀ p G' H' o, Nx G0 H0 G' H' → H0 p = none → G' p = none → S o → OwIs C.K H0 G' H' p o → D.rt (.ref p) H') → ∀ (σ : L2.St) (G H : Hp), Nx G0 H0 G H → M C.K A H0 σ G H → UU C sts D σ H
section
variable {C : Ct} {A : AS} {S : Ow → Prop} {T : Ow → Prop} {e : Expr} {es : List Expr} {st : Stmt} {sts rest : List Stmt} {pos p : Pos} {x : Str} {k : Nat} {c : ConO}
theorem xr_cons {Mid : AS → Prop} (h1 : Xq C st A ⟨Mid, fun _ => False, fun _ => False, fun _ => False⟩) (h2 : ∀ A', Mid A' → Xr C rest A' S) : Xr C (st :: rest) A S := fun D G0 H0 ok σ G H n m =>
  ⟨tSeq (UQ C st) (UU C rest), fun X hX => pss_cons (ps_UQ hX) (pss_UU hX), h1 { D with nx := UU C rest D } G0 H0 ⟨fun A' σ' G' H' hm n' m' => h2 A' hm D G0 H0 ok σ' G' H' n' m', fun _ _ _ _ z => z.elim, fun _ _ _ _ z => z.elim, fun _ _ _ _ z => z.elim⟩ σ G H n m⟩
theorem xr_then {A' : AS} (h1 : Xq C st A ⟨fun B => B = A', fun _ => False, fun _ => False, fun _ => False⟩) (h2 : Xr C rest A' S) : Xr C (st :: rest) A S := xr_cons h1 fun B e => by
  rw [e]
  exact h2
theorem xr_ret (i : Nat) {o : Ow} (how : A.ow = some (i, o)) (hS : S o) (hN : C.N[i]? = some x := by rfl) (hv : visB C.sc x = true := by (try dsimp only [Ct.blk]); decide +kernel) (hdb : (x == ("__debug__" : Str)) = false := by decide +kernel) (hcd : (x == ("__classdict__" : Str)) = false := by decide +kernel) :
    Xr C [.Return (some (.Name x p)) pos] A S := fun D G0 H0 ok σ G H n m => by
  have mo := m.own
  rw [how] at mo
  obtain ⟨pa, h1, h2, h3, h4⟩ := mo
  exact ⟨tRet (tVar i), fun X hX => pss_one (ps_ret (pe_var (by rw [hX.N]; exact hN) (hX.vis hv) hdb hcd)), .ref pa, h1, ok pa G H o n h2 h3 hS h4⟩
/-- a call whose value is ours -/
theorem xo_call {St : List Ab → Prop} (F : HasO C.ga k x c) (hk : k ≤ C.k) (ha : Xa C (e :: es) A St) (hs : ∀ as, St as → ∃ g, c.pre g ∧ as = c.args g ∧ ∀ z, c.res g z → S z) (hg : gloB C.sc x = true := by (try dsimp only [Ct.blk]); decide +kernel) (hst : noStars (e :: es) = true := by rfl)
    (hdb : (x == ("__debug__" : Str)) = false := by decide +kernel) : Xo C (.Call (.Name x p) (e :: es) [] pos) A S := by
  obtain ⟨f, fd, ps, F, hm, hkp, hb⟩ := F
  obtain ⟨t, a1, a2⟩ := ha
  refine ⟨tCall (spO C.K c) [] E0 t, fun X hX => pe_call (On_fn hX F) (hX.room.mono hk) (hX.gl hg) (by rw [hX.mg]; exact hm) (by rw [hX.K]; exact hkp) (by rw [hX.K]; exact hb) .nil pass0 (a1 X hX) hdb (star_one (noStars_cons hst).1) (backTo_any (noStars_any (noStars_cons hst).2)),
    fun H0 σ G H x m Q q => a2 H0 σ G H x m _ fun vs G1 H1 as n1 s1 i1 => ?_⟩
  obtain ⟨g, hp, rfl, hS⟩ := hs as s1
  show spO C.K c (vs ++ []) H1 Q E0
  rw [List.append_nil]
  exact ⟨g, G1, hp, n1.s, i1, fun p G' H' o n h0 hg hr ho => q p G' H' o (n1.trans n) (n1.e.dom p h0) hg (hS o hr) (ho.base n1.e)⟩
end
section
variable {Γ : Ga} {k : Nat} {c : ConO} {x : Str} {st : Stmt} {N ps : List Str}
theorem hasO (D : Def Γ x st ps) (S : FnScope N ps (defScope st)) (hl : ∀ g, c.pre g → (c.args g).length = ps.length)
    (hb : ∀ g, c.pre g → Xr ⟨Γ, N, defScope st, k, fun _ => true⟩ (defBody st) (AS.of N (c.args g)) (c.res g)) : HasO Γ (k + 1) x c := by
  obtain ⟨f, fd, F, hm, hbi⟩ := D.ex
  refine ⟨f, fd, ps, F.ok S (fun vs H Q E h => ?_) (fun cdv A outer s H vs Q E hr h => ?_), hm, F.kp, hbi⟩
  · obtain ⟨g, G, hp, _, hi, _⟩ := h
    rw [hi.len]
    exact hl g hp
  · obtain ⟨g, G, hp, hx, hi, q⟩ := h
    obtain ⟨t, h1, h2⟩ := hb g hp { nx := fun _ H' => Q .non H', rt := Q } G H q (L2.start N vs) G H (Nx.refl hx) (by
      refine ⟨?_, ?_, trivial⟩
      · unfold L2.start AS.of
        simp only [List.length_append, List.length_map, List.length_replicate]
        rw [hi.len]
      · intro i a e
        have h := start_at hi (N.length - (c.args g).length) i a e
        unfold L2.start
        rw [hi.len]
        exact h)
    exact ⟨t, PSs.nox (h1 _ ⟨rfl, rfl, rfl, rfl, rfl, rfl, rfl, rfl, rfl, hr, S.nd, rfl⟩), h2⟩
end
end Oh
set_option maxHeartbeats 4000000
/-! OjG: walk: _law_land. -/
namespace Oh
open PySem L2
theorem mem_spots {rows : List (List Nat)} {sg : List Nat} {p : Pl} : p ∈ spots rows sg ↔ inF rows p = true ∧ at2 rows p ∈ sg := by
  unfold inF
  rw [inR_iff]
  obtain ⟨y, x⟩ := p
  unfold spots
  simp only [List.mem_flatten, List.mem_map, List.mem_range]
  constructor
  · rintro ⟨l, ⟨a, ha, rfl⟩, hm⟩
    obtain ⟨b, hb, e⟩ := List.mem_map.mp hm
    obtain ⟨hb1, hb2⟩ := List.mem_filter.mp hb
    cases e
    have hb' := List.mem_range.mp hb1
    refine ⟨?_, by simpa using hb2⟩
    omega
  · rintro ⟨⟨⟨h1, h2⟩, h3, h4⟩, h5⟩
    refine ⟨_, ⟨y.toNat, by omega, rfl⟩, List.mem_map.mpr ⟨x.toNat, List.mem_filter.mpr ⟨List.mem_range.mpr (by omega), ?_⟩, ?_⟩⟩
    · rw [Int.toNat_of_nonneg h1, Int.toNat_of_nonneg h3]
      simpa using h5
    · rw [Int.toNat_of_nonneg h1, Int.toNat_of_nonneg h3]
def EVERY : List Nat := [35, 46, 126, 120, 97, 98, 99, 100]
theorem signs_every : ∀ c ∈ SIGNS, c ∈ EVERY := by decide
theorem spots_len {rows : List (List Nat)} (F : FlOk rows) (sg : List Nat) : (spots rows sg).length ≤ 36 := by
  have h := spotsTo_len (rows := rows) (sg := sg) (hgt rows)
  have e : spotsTo rows sg (hgt rows) = spots rows sg := by
    unfold spotsTo spots
    rw [List.take_of_length_le (by rw [List.length_range]; exact Nat.le_refl _)]
  rw [e] at h
  have f2 : hgt rows ≤ 6 := F.h2
  exact Nat.le_trans h (Nat.mul_le_mul f2 F.w2)
theorem flat_len {rows : List (List Nat)} (F : FlOk rows) : rows.flatten.length ≤ 36 := by
  rw [List.length_flatten]
  have : rows.map List.length = List.replicate (hgt rows) (wid rows) := List.eq_replicate_iff.mpr ⟨by rw [List.length_map]; rfl, fun b hb => by
    obtain ⟨r, hr, rfl⟩ := List.mem_map.mp hb
    exact F.w r hr⟩
  rw [this]
  simp only [List.sum_replicate_nat]
  have f2 : hgt rows ≤ 6 := F.h2
  exact Nat.mul_le_mul f2 F.w2
theorem lettersOf_rows (rows : List (List Nat)) : lettersOf (rows.flatten.filter fun c => decide (c ∈ LETTERS)) = letters rows := by
  unfold lettersOf letters
  refine List.filter_congr fun c hc => ?_
  have hc : c ∈ LETTERS := hc
  rw [Bool.eq_iff_iff, decide_eq_true_iff, List.any_eq_true]
  constructor
  · intro h
    obtain ⟨h1, _⟩ := List.mem_filter.mp h
    obtain ⟨r, hr, hm⟩ := List.mem_flatten.mp h1
    exact ⟨r, hr, decide_eq_true hm⟩
  · rintro ⟨r, hr, hm⟩
    exact List.mem_filter.mpr ⟨List.mem_flatten.mpr ⟨r, hr, of_decide_eq_true hm⟩, decide_eq_true hc⟩
/-- a land's wishes, drawn -/
structure DrOk (rows : List (List Nat)) (bk : List (Nat × T8)) (ws : List Pl) : Prop where
  b : bk.map Prod.fst = letters rows
  w : WsOk rows ws
  s : sP ws = ws
abbrev co_land : ConO := ⟨List (List Nat), fun rows => FlOk rows ∧ spots rows OPEN ≠ [], fun rows => [.src, .dat (.list (rows.map pS))], fun rows o => ∃ p t bk ws, o = .od (landA rows (some (p, t)) bk ws) ∧ DrOk rows bk ws⟩
abbrev ld0 (p : Pl) (t : T8) : List (Str × Ab) := [("start", .dat (pSd (some (p, t))))]
abbrev ld1 (rows : List (List Nat)) (p : Pl) (t : T8) : List (Str × Ab) := [("rows", .dat (.list (rows.map pS))), ("start", .dat (pSd (some (p, t))))]
abbrev ld2 (rows : List (List Nat)) (p : Pl) (t : T8) (bk : List (Nat × T8)) : List (Str × Ab) := [("rows", .dat (.list (rows.map pS))), ("start", .dat (pSd (some (p, t)))), ("book", .book bk)]
section
variable {Γ : Ga} [Gx Γ]
theorem sc_land : FnScope ["_law_source_here", "_law_rows", "_law_letters", "_law_sign_here", "_law_found", "_law_letter", "_law_every", "_law_k"] ["_law_source_here", "_law_rows"] (defScope (top 61)) := ⟨rfl, rfl, rfl, by decide +kernel, rfl, by decide +kernel, by decide +kernel⟩
theorem ok_land (D : Def Γ "_law_land" (top 61) ["_law_source_here", "_law_rows"]) (h_take : HasF Γ 2 "_law_take" c_take) (h_one : HasF Γ 3 "_law_one" c_oneL) (h_sense : HasF Γ 4 "_law_sense" c_sense) (h_spots : HasF Γ 1 "_law_spots" c_spots) : HasO Γ 5 "_law_land" co_land := by
  refine hasO D sc_land (fun _ _ => rfl) fun rows ⟨F, hop⟩ => ?_
  have F : FlOk rows := F
  have hop : spots rows OPEN ≠ [] := hop
  have fl := flat_len F
  have sl := spots_len F
  refine xr_then (xq_setD 2 (Xe.as (d := .dat (.list ((letters rows).map fun c => pS [c]))) (xd_nl (xn_sortSigns (cs := rows.flatten.filter fun c => decide (c ∈ LETTERS)) (Xe.as (Xo.lst (xo_lc rows.flatten (fun c => [Ab.dat (pS [c])]) (fun c => decide (c ∈ LETTERS)) (fun c => pS [c]) [("_law_sign_here", 3)] (xi_eq (xi_txt (xd_join (ls := rows) (xd_str []) (xd_var 1 rfl) (by omega))) rfl) (by omega)
    (fun c _ => ⟨_, xg_name 3, xts_one (xt_c (xc_inS (xd_var 3 rfl) (xd_str [97, 98, 99, 100]))), fun _ => xd_var 3 rfl⟩))) rfl) ?_ ?_)) ?_) rfl) ?_
  · intro c hc
    have z := of_decide_eq_true (List.mem_filter.mp hc).2
    simpa [LETTERS] using z
  · exact Nat.lt_of_le_of_lt (List.length_filter_le _ _) (by omega)
  · rw [lettersOf_rows]
  refine xr_cons (Mid := fun Z => ∃ p t, Z = ⟨[some .src, some (.dat (.list (rows.map pS))), some (.dat (.list ((letters rows).map fun c => pS [c]))), none, none, none, none, none], some (4, .od (ld1 rows p t))⟩)
    (xq_own 4 (xo_disp (S := fun kvs => ∃ p t, kvs = ld1 rows p t) (x2_cons (Sa := fun a => a = .dat (.list (rows.map pS))) (S := fun kvs => ∃ p t, kvs = ld0 p t) (xd_var 1 rfl)
      (x2_cons (Sa := fun a => ∃ p t, a = .dat (pSd (some (p, t)))) (xe_tup (St := fun as => ∃ p t, as = [.dat (pP p), .dat (pT t)]) (xa_cons (Sa := fun a => ∃ p : Pl, a = .dat (pP p)) (St := fun as => ∃ t, as = [.dat (pT t)])
        (xe_callK h_one lv ((spots rows OPEN).map pP) ⟨?_, ?_⟩ (xs_cons (xd_var 0 rfl) (xs_cons (xd_call h_spots lv (rows, OPEN) F (xs_cons (xd_var 1 rfl) (xs_cons (xd_str [46, 97, 98, 99, 100]) xs_nil)) rfl) xs_nil)) ?_)
        (xa_cons (xe_callK h_sense lv () trivial (xs_cons (xd_var 0 rfl) xs_nil) fun z hz => hz) xa_nil ?_) ?_) ?_) x2_nil ?_) ?_) ?_) ?_) ?_
  · exact fun z => hop (List.map_eq_nil_iff.mp z)
  · show ((spots rows OPEN).map pP).length ≤ 1000
    rw [List.length_map]
    have := sl OPEN
    omega
  · rintro z ⟨d, hd, e⟩
    obtain ⟨p, _, rfl⟩ := List.mem_map.mp hd
    exact ⟨p, e⟩
  · rintro a as ⟨t, e⟩ e2
    exact ⟨t, by rw [e, e2]⟩
  · rintro a as ⟨p, e⟩ ⟨t, e2⟩
    exact ⟨p, t, by rw [e, e2]⟩
  · rintro as ⟨p, t, rfl⟩
    exact ⟨[pP p, pT t], rfl, ⟨p, t, rfl⟩, Nat.le_of_ble_eq_true rfl⟩
  · rintro a kvs ⟨p, t, e⟩ e2
    exact ⟨p, t, by rw [e, e2]⟩
  · rintro a kvs e ⟨p, t, e2⟩
    exact ⟨p, t, by rw [e, e2]⟩
  · rintro kvs ⟨p, t, rfl⟩
    exact ⟨show ([("rows" : Str), ("start" : Str)]).Nodup by decide +kernel, Nat.le_of_ble_eq_true rfl⟩
  · rintro o ⟨kvs, ⟨p, t, rfl⟩, rfl⟩
    exact ⟨p, t, rfl⟩
  rintro Z ⟨p, t, rfl⟩
  refine xr_cons (Mid := fun Z => ∃ bk : List (Nat × T8), bk.map Prod.fst = letters rows ∧ Z = ⟨[some .src, some (.dat (.list (rows.map pS))), some (.dat (.list ((letters rows).map fun c => pS [c]))), none, none, none, none, none], some (4, .od (ld2 rows p t bk))⟩)
    (xq_ownPut 4 rfl (xe_dictP (P := fun bk => bk.map Prod.fst = letters rows) (Xo.lstS (T := fun _ => True) (xo_lcS (Sx := fun its => its = its1 ((letters rows).map fun c => pS [c])) [("_law_letter", 5)] (fun its i ds => ∃ bk : List (Nat × T8), bk.map Prod.fst = (letters rows).take i ∧ ds = bk.map fun p => .tuple [pS [p.1], pT p.2]) (xi_list (xd_var 2 rfl)) ?_ ?_ (hoff := ?_)) ?_) ?_) xd_str0 ?_ ?_) ?_
  · intro its e
    refine ⟨⟨[], by rw [List.take_zero]; rfl, rfl⟩, ?_⟩
    rw [e]
    unfold its1
    rw [List.length_map, List.length_map]
    have : (letters rows).length ≤ 4 := List.length_filter_le ..
    omega
  · rintro its i it ds rfl hit ⟨bk, hb, rfl⟩
    obtain ⟨d, hd, hm, rfl⟩ := map_get hit
    obtain ⟨c, hc, _, rfl⟩ := map_get hd
    refine ⟨_, true, xg_name 5 (hi := off_own rfl), xts_nil, fun _ => xe_tup (St := fun as => ∃ u : T8, as = [.dat (pS [c]), .dat (pT u)]) (xa_cons (Sa := fun a => a = .dat (pS [c])) (St := fun as => ∃ u : T8, as = [.dat (pT u)]) (xd_var 5 rfl) (xa_cons (Sa := anyT) (St := fun as => as = []) (xe_callK h_sense lv () trivial (xs_cons (xd_var 0 rfl) xs_nil) fun z hz => hz) xa_nil fun a as ⟨u, e⟩ e2 => ⟨u, by rw [e, e2]⟩) fun a as e ⟨u, e2⟩ => ⟨u, by rw [e, e2]⟩) ?_, nofun⟩
    rintro as ⟨u, rfl⟩
    exact ⟨[pS [c], pT u], rfl, ⟨_, rfl, bk ++ [(c, u)], by rw [List.map_append, hb, take_app hc]; rfl, by rw [List.map_append]; rfl⟩, Nat.le_of_ble_eq_true rfl⟩
  · exact fun i hi => by
      rw [List.mem_singleton.mp hi]
      exact off_own rfl
  · rintro o ⟨its, ds, rfl, rfl, bk, hb, rfl⟩
    refine ⟨_, rfl, bk, ?_, rfl⟩
    rw [hb]
    unfold its1
    rw [List.length_map, List.length_map, List.take_length]
  · intro bk hb
    rw [hb]
    exact letters_nodup _
  · exact Nat.le_of_ble_eq_true rfl
  · rintro a ⟨bk, hb, rfl⟩
    exact ⟨bk, hb, rfl⟩
  rintro Z ⟨bk, hb, rfl⟩
  refine xr_then (xq_setD 6 (xd_call h_spots lv (rows, EVERY) F (xs_cons (xd_var 1 rfl) (xs_cons (xd_str [35, 46, 126, 120, 97, 98, 99, 100]) xs_nil)) rfl) rfl (hi := off_own rfl)) ?_
  have hev : spots rows EVERY ≠ [] := by
    intro z
    cases e : spots rows OPEN with
    | nil => exact hop e
    | cons q r =>
      have hq : q ∈ spots rows OPEN := by
        rw [e]
        exact List.mem_cons_self
      have hq2 := mem_spots.mpr ⟨(mem_spots.mp hq).1, signs_every _ (at2_sign F (mem_spots.mp hq).1)⟩
      rw [z] at hq2
      cases hq2
  refine xr_cons (Mid := fun Z => ∃ (ws : List Pl) (u : Option Ab), DrOk rows bk ws ∧ Z.ow = some (4, .od (landA rows (some (p, t)) bk ws)))
    (xq_ownPut 4 rfl (Xe.nl (S' := fun z => ∃ ws, DrOk rows bk ws ∧ z = .dat (.list (ws.map pP))) (xe_sortSet (P := fun ps => ps.length ≤ 3 ∧ ∀ q ∈ ps, inF rows q = true) (Xo.lstS (T := fun _ => True) (xo_lcS (Sx := fun its => ∃ k : Nat, k ≤ 3 ∧ its = itsR 0 1 k) [("_law_k", 7)] (fun its i ds => ∃ ps : List Pl, ps.length = i ∧ (∀ q ∈ ps, inF rows q = true) ∧ ds = ps.map pP)
      (xi_rng1S (xe_callK h_take lv 3 ⟨by omega, by omega⟩ (xs_cons (xd_var 0 rfl) (xs_cons xd_int xs_nil)) fun z hz => hz) (fun a ⟨i, ha, h0, h1⟩ => ⟨i, ha, ⟨by omega, by omega⟩, i.toNat, by omega, rfl⟩) Gx.bRange) ?_ ?_ (hoff := ?_)) ?_) ?_) ?_) xd_str0 ?_ ?_) ?_
  · rintro its ⟨k, hk, rfl⟩
    refine ⟨⟨[], rfl, fun q h => absurd h (List.not_mem_nil), rfl⟩, ?_⟩
    unfold itsR
    rw [List.length_map, List.length_range]
    omega
  · rintro its i it ds ⟨k, hk, rfl⟩ hit ⟨ps, hp, hin, rfl⟩
    obtain ⟨j, hj, hm, rfl⟩ := map_get hit
    refine ⟨_, true, xg_name 7 (hi := off_own rfl), xts_nil, fun _ => xe_callK h_one lv ((spots rows EVERY).map pP) ⟨fun z => hev (List.map_eq_nil_iff.mp z), ?_⟩ (xs_cons (xd_var 0 rfl) (xs_cons (xd_var 6 rfl) xs_nil)) ?_, nofun⟩
    · show ((spots rows EVERY).map pP).length ≤ 1000
      rw [List.length_map]
      have := sl EVERY
      omega
    · rintro z ⟨d, hd, e⟩
      obtain ⟨q, hq, rfl⟩ := List.mem_map.mp hd
      refine ⟨_, e, ps ++ [q], by rw [List.length_append, hp]; rfl, fun y hy => ?_, by rw [List.map_append]; rfl⟩
      rcases List.mem_append.mp hy with h | h
      · exact hin y h
      · rw [List.mem_singleton.mp h]
        exact (mem_spots.mp hq).1
  · exact fun i hi => by
      rw [List.mem_singleton.mp hi]
      exact off_own rfl
  · rintro o ⟨its, ds, ⟨k, hk, rfl⟩, rfl, ps, hp, hin, rfl⟩
    refine ⟨_, rfl, ps, ⟨?_, hin⟩, rfl⟩
    rw [hp]
    unfold itsR
    rw [List.length_map, List.length_range]
    exact hk
  · rintro ps ⟨hp, hin⟩
    exact ⟨fun q hq => in64 F (hin q hq), by omega⟩
  · rintro z ⟨ps, ⟨hp, hin⟩, rfl⟩
    have dl : ∀ l : List Pl, (dP l).length ≤ l.length := by
      intro l
      induction l with
      | nil => exact Nat.le_refl _
      | cons a l ih =>
        unfold dP
        split
        · exact Nat.le_succ_of_le ih
        · exact Nat.succ_le_succ ih
    have W : WsOk rows (dP ps) := ⟨fun q hq => hin q (mem_dP.mp hq), dP_nodup ps, Nat.lt_of_le_of_lt (dl ps) (by omega)⟩
    exact ⟨_, rfl, sP (dP ps), ⟨hb, wsOk_sP W, sP_sP F W⟩, rfl⟩
  · exact Nat.le_of_ble_eq_true rfl
  · rintro a ⟨ws, hw, rfl⟩
    exact ⟨ws, none, hw, rfl⟩
  rintro Z ⟨ws, u, hw, how⟩
  exact xr_ret 4 how ⟨p, t, bk, ws, rfl, hw⟩
end
end Oh
set_option maxHeartbeats 8000000
/-! OjH: min of two places. -/
namespace L2
open PySem PySem.Spec PyProof.Rows
/-- one place ahead of another -/
def lt2 (p q : Int × Int) : Bool := if (p.1 == q.1) = true then (if (p.2 == q.2) = true then false else decide (p.2 < q.2)) else decide (p.1 < q.1)
def twoAt (p q : Int × Int) (i : Nat) : Int × Int := if i = 0 then p else q
section
variable {P : Program} {w : World} {A : Around} {E : Value → Shared → Prop} {s : Shared}
def IsPl (h : Heap) (a : Addr) (p : Int × Int) : Prop := ∃ t u, h.IsTuple a #[.int p.1 t, .int p.2 u]
theorem pl_lt {A : Around} {s : Shared} {a b : Addr} {p q : Int × Int} (hu : A.units < cLine) (ha : IsPl s.heap a p) (hb : IsPl s.heap b q) : Ob.RcOp .Lt A s (.ref a) (.ref b) (lt2 p q) := by
  obtain ⟨t, u, ha⟩ := ha
  obtain ⟨t', u', hb⟩ := hb
  have z := Ob.RcOp.tuples_lt (A := A) (s := s) (e := fun j => if j = 0 then p.1 == q.1 else p.2 == q.2) (r := fun j => if j = 0 then decide (p.1 < q.1) else decide (p.2 < q.2)) ha hb hu (fun j h1 h2 => by
    match j, h1, h2 with
    | 0, _, _ => exact SeqAt.EqAt.int_int _ _ _ _
    | 1, _, _ => exact SeqAt.EqAt.int_int _ _ _ _
    | n + 2, h1, _ => exact absurd (show n + 2 < 2 from h1) (by omega)) (fun j h1 h2 _ => by
    match j, h1, h2 with
    | 0, _, _ => exact Ob.RcOp.lt_int _ _ _ _
    | 1, _, _ => exact Ob.RcOp.lt_int _ _ _ _
    | n + 2, h1, _ => exact absurd (show n + 2 < 2 from h1) (by omega))
  exact z
theorem pl_keeps {h h' : Heap} {a : Addr} {p : Int × Int} (x : IsPl h a p) (k : ∀ b o, h.get? b = some o → h'.get? b = some o) : IsPl h' a p := by
  obtain ⟨t, u, o, ho, r⟩ := x
  exact ⟨t, u, o, k _ _ ho, r⟩
/-- min(p, q) of two places -/
theorem min_two_places {a b : Addr} {p q : Int × Int} {Q : Value → Shared → Prop} (hh : A.handled = none) (hu : A.units + 2 < cLine) (ha : IsPl s.heap a p) (hb : IsPl s.heap b q)
    (h : ∀ h' tk, (∀ c o, s.heap.get? c = some o → h'.get? c = some o) → Q (if lt2 q p = true then .ref b else .ref a) { s with heap := h', toks := tk }) :
    wpAny (model P w) A (call (.builtin "min") [.ref a, .ref b]) Q E s := by
  have hT : (s.heap.push { cls := .type "tuple", data := .seq #[Value.ref a, .ref b] }).IsTuple s.heap.objs.size #[Value.ref a, .ref b] := ⟨_, Heap.get?_push_size _ rfl, rfl, 0, rfl⟩
  have kT : ∀ c o, s.heap.get? c = some o → (s.heap.push { cls := .type "tuple", data := .seq #[Value.ref a, .ref b] }).get? c = some o := fun c o e => Heap.get?_push_of_some _ e
  have en : (toString "min" ++ toString ".loop" : String) = "min.loop" := by decide
  refine call_function_tree PySem.F.kind_min PySem.F.plain_min PySem.F.entry_min (PySem.F.args_min2 _ _) ?_
  show wpAny _ A.in1 (Builtin.Builtins.bindParams "min" ["key", "default"] 0 ⟨[], []⟩ >>= fun _ => _) _ _ s
  refine wpAny_bind (wpAny_of_eq (a := [none, none]) rfl ?_)
  show wpAny _ A.in1 (newTuple [Value.ref a, .ref b] >>= fun _ => _) _ _ s
  refine wpAny_bind (wpAny_newObj_type ?_)
  refine wpAny_bind (PySem.W.iter_tupleW (A := A.in1) (s := { s with heap := s.heap.push { cls := .type "tuple", data := .seq #[Value.ref a, .ref b] } }) hh hT fun s2 e2 W st hfp hw hk => wpAny_bind (wpAny_newObj_type ?_))
  have nf : s2.heap.objs.size ∉ [(s.heap.push { cls := .type "tuple", data := .seq #[Value.ref a, .ref b] }).objs.size, s.heap.objs.size] := fun hm => Nat.lt_irrefl _ (hfp _ hm)
  rw [en]
  refine wpAny_pure ⟨plainId_quiet PySem.F.plain_min_loop _, codeAny_min_loop_firstH W (s.heap.push { cls := .type "tuple", data := .seq #[Value.ref a, .ref b] }) hw (fun i j => lt2 (twoAt p q i) (twoAt p q j)) ?_ s2.heap.objs.size nf (fresh_in hk) [] (Nat.zero_lt_succ 1) (fun c o e => Heap.get?_push_of_some _ (hk c o e)) (W.frame 0 s2 _ s2.toks st (Nat.le_refl _) fun c _ o e => Heap.get?_push_of_some _ e) (Heap.get?_push_size _ rfl) fun v s3 hv hm => ?_⟩
  · intro i j vi vj s' Q' E' keep hi hj hq
    have at2 : ∀ (i : Nat) (v : Value), (#[Value.ref a, .ref b])[i]? = some v → ∃ c, v = .ref c ∧ IsPl s'.heap c (twoAt p q i) := by
      intro i v hv
      match i with
      | 0 => cases hv; exact ⟨a, rfl, pl_keeps (pl_keeps ha kT) keep⟩
      | 1 => cases hv; exact ⟨b, rfl, pl_keeps (pl_keeps hb kT) keep⟩
      | n + 2 => cases hv
    obtain ⟨c, rfl, hc⟩ := at2 i vi hi
    obtain ⟨d, rfl, hd⟩ := at2 j vj hj
    exact pl_lt (A := A.in1) (by show A.units + 1 < _; omega) hc hd P w E' Q' hq
  · have m2 := Moved.drop_new (tk := s2.toks) hm (Nat.le_refl _)
    obtain ⟨h', tk, e3, keep⟩ := PySem.W.moved_old e2 rfl m2
    have ev : v = if lt2 q p = true then .ref b else .ref a := by
      have ab : argBest (fun i j => lt2 (twoAt p q i) (twoAt p q j)) ((#[Value.ref a, .ref b]).size - 1) = if lt2 q p = true then 1 else 0 := rfl
      rw [ab] at hv
      by_cases hl : lt2 q p = true
      · rw [if_pos hl] at hv ⊢
        exact (Option.some.inj hv).symm
      · rw [if_neg hl] at hv ⊢
        exact (Option.some.inj hv).symm
    rw [ev, e3]
    exact h h' tk fun c o e => keep c o (kT c o e)
end
section
variable {X : Cx}
theorem pl_of {pins : List (Addr × Obj)} {σ : St} {H : Hp} {s : Shared} {a : Addr} {p : Int × Int} (I : Inv X pins σ H s) (h : SqT X.K H a [.int p.1, .int p.2]) : IsPl s.heap a p := by
  obtain ⟨its, r, o, _⟩ := I.tuple h
  cases r with
  | cons r1 r =>
    cases r with
    | cons r2 r =>
      cases r
      obtain ⟨t, rfl⟩ := r1
      obtain ⟨u, rfl⟩ := r2
      exact ⟨t, u, o⟩
theorem cr_minP (hc : X.calm = true) (hu : X.A.units + 2 < cLine) : CallR X (.builtin "min") (fun vs H Q => ∃ a b p q, vs = [V.ref a, .ref b] ∧ SqT X.K H a [.int p.1, .int p.2] ∧ SqT X.K H b [.int q.1, .int q.2] ∧ Q (if lt2 q p = true then .ref b else .ref a) H) := by
  intro pins s σ H vs us Q I r h
  obtain ⟨a, b, p, q, rfl, ha, hb, k⟩ := h
  obtain ⟨u, v, rfl, ru, rv⟩ := vals2 r
  cases ru
  cases rv
  refine min_two_places (I.ok.hd hc) hu (pl_of I ha) (pl_of I hb) fun h' tk hk => ⟨_, H, I.kept hk, ?_, k⟩
  by_cases hl : lt2 q p = true
  · rw [if_pos hl, if_pos hl]
    rfl
  · rw [if_neg hl, if_neg hl]
    rfl
end
end L2
namespace Oh
open PySem L2
theorem xd_minP {C : Ct} [g : Gx C.ga] {A : AS} {a b : Expr} {pos p : Pos} {z y : Pl} (ha : Xd C a A (.dat (pP z))) (hb : Xd C b A (.dat (pP y))) (hg : gloB C.sc "min" = true := by (try dsimp only [Ct.blk]); decide +kernel) (hst : noStars [a, b] = true := by rfl) : Xd C (.Call (.Name "min" p) [a, b] [] pos) A (.dat (pP (if lt2 y z = true then y else z))) :=
  xe_callB (fun X hX => by have q := cr_minP (X := X) hX.calm (by have := hX.room.un; omega); rw [hX.K] at q; exact q) g.bMin (by decide +kernel) (xs_cons ha (xs_cons hb xs_nil (noStars_cons (noStars_cons hst).2).1) (noStars_cons hst).1) (rc_d fun vs G H x ia Q q => by
    obtain ⟨v, u, rfl, i1, i2⟩ := isA_two ia
    obtain ⟨k1, rfl, h1⟩ := dp_pl i1
    obtain ⟨k2, rfl, h2⟩ := dp_pl i2
    refine ⟨k1, k2, z, y, rfl, x.st h1, x.st h2, fin x q rfl ?_⟩
    by_cases hl : lt2 y z = true
    · rw [if_pos hl, if_pos hl]
      exact dp_of_pl h2
    · rw [if_neg hl, if_neg hl]
      exact dp_of_pl h1) hg hst
end Oh
set_option maxHeartbeats 4000000
/-! OjI: own lists of own lists of signs. -/
namespace Oh
open PySem L2
theorem cells_app {H0 G H : Hp} {q : Addr} {r : List Nat} (h : H0 q = none ∧ G q = none ∧ H q = some (.lst (signs r))) : ∀ {qs : List Addr} {rows : List (List Nat)}, CellsAt H0 G H qs rows → CellsAt H0 G H (qs ++ [q]) (rows ++ [r])
  | [], [], _ => ⟨h, trivial⟩
  | [], _ :: _, z => z.elim
  | _ :: _, [], z => z.elim
  | _ :: _, _ :: _, z => ⟨z.1, cells_app h z.2⟩
theorem cells_off {H0 G H : Hp} {d : Addr} {o : HO} : ∀ {qs : List Addr} {rows : List (List Nat)}, d ∉ qs → CellsAt H0 G H qs rows → CellsAt H0 G (upd H d o) qs rows
  | [], [], _, _ => trivial
  | [], _ :: _, _, z => z.elim
  | _ :: _, [], _, z => z.elim
  | q :: qs, _ :: _, hn, z => ⟨⟨z.1.1, z.1.2.1, by rw [upd_ne (fun e => hn (by rw [e]; exact List.mem_cons_self))]; exact z.1.2.2⟩, cells_off (fun m => hn (List.mem_cons_of_mem _ m)) z.2⟩
theorem cells_get {H0 G H : Hp} : ∀ {qs : List Addr} {rows : List (List Nat)} {n : Nat} {r : List Nat}, CellsAt H0 G H qs rows → rows[n]? = some r → ∃ q, qs[n]? = some q ∧ H0 q = none ∧ G q = none ∧ H q = some (.lst (signs r))
  | [], [], _, _, _, e => by cases e
  | [], _ :: _, _, _, z, _ => z.elim
  | _ :: _, [], _, _, z, _ => z.elim
  | q :: _, _ :: _, 0, _, z, e => by
    cases e
    exact ⟨q, rfl, z.1⟩
  | _ :: _, _ :: _, n + 1, _, z, e => cells_get (n := n) z.2 e
theorem cells_set {H0 G H : Hp} {r' : List Nat} : ∀ {qs : List Addr} {rows : List (List Nat)} {n : Nat} {q : Addr}, qs.Nodup → CellsAt H0 G H qs rows → qs[n]? = some q → CellsAt H0 G (upd H q (.lst (signs r'))) qs (rows.set n r')
  | [], [], _, _, _, _, e => by cases e
  | [], _ :: _, _, _, _, z, _ => z.elim
  | _ :: _, [], _, _, _, z, _ => z.elim
  | q :: qs, _ :: _, 0, _, nd, z, e => by
    cases e
    exact ⟨⟨z.1.1, z.1.2.1, upd_same⟩, cells_off (List.nodup_cons.mp nd).1 z.2⟩
  | b :: qs, _ :: _, n + 1, q, nd, z, e => by
    obtain ⟨h1, h2⟩ := List.nodup_cons.mp nd
    have hm : q ∈ qs := List.mem_of_getElem? (show qs[n]? = some q from e)
    exact ⟨⟨z.1.1, z.1.2.1, by rw [upd_ne (fun e2 => h1 (by rw [e2]; exact hm))]; exact z.1.2.2⟩, cells_set (n := n) h2 z.2 e⟩
theorem cells_len {H0 G H : Hp} : ∀ {qs : List Addr} {rows : List (List Nat)}, CellsAt H0 G H qs rows → qs.length = rows.length
  | [], [], _ => rfl
  | [], _ :: _, z => z.elim
  | _ :: _, [], z => z.elim
  | _ :: _, _ :: _, z => congrArg Nat.succ (cells_len z.2)
theorem cells_some {H0 G H : Hp} {q : Addr} : ∀ {qs : List Addr} {rows : List (List Nat)}, CellsAt H0 G H qs rows → q ∈ qs → H q ≠ none
  | [], [], _, hm => by cases hm
  | [], _ :: _, z, _ => z.elim
  | _ :: _, [], z, _ => z.elim
  | b :: qs, _ :: _, z, hm => by
    rcases List.mem_cons.mp hm with e | hm
    · rw [e, z.1.2.2]
      exact fun y => by cases y
    · exact cells_some z.2 hm
/-- a row of signs as data -/
def pR (r : List Nat) : PyData := .list (r.map fun c => pS [c])
theorem dps_signs {K : PySem.W.Frag} {G : Hp} (r : List Nat) : DpAll K G (signs r) (r.map fun c => pS [c]) := by
  have z := dps_of_strs (K := K) (G := G) (r.map fun c => [c])
  rw [List.map_map, List.map_map, List.map_map] at z
  exact z
theorem pub_cells {K : PySem.W.Frag} {G0 H0 H : Hp} : ∀ {qs : List Addr} {rows : List (List Nat)} {G : Hp}, Nx G0 H0 G H → CellsAt H0 G H qs rows → qs.Nodup → ∃ G', Nx G0 H0 G' H ∧ Ex G G' ∧ DpAll K G' (qs.map V.ref) (rows.map pR) ∧ ∀ b, b ∉ qs → G' b = G b
  | [], [], G, x, _, _ => ⟨G, x, Ex.refl _, .nil, fun _ _ => rfl⟩
  | [], _ :: _, _, _, z, _ => z.elim
  | _ :: _, [], _, _, z, _ => z.elim
  | q :: qs, r :: rows, G, x, z, nd => by
    obtain ⟨h1, h2⟩ := List.nodup_cons.mp nd
    obtain ⟨G1, n1, e1, d1, o1⟩ := pub_cells x z.2 h2
    have g1 : G1 q = none := by
      rw [o1 q h1]
      exact z.1.2.1
    refine ⟨upd G1 q (.lst (signs r)), n1.pub z.1.1 g1 z.1.2.2, e1.trans (Ex.new g1), .cons (Dp.lst (SqL.of upd_same) (dps_signs r)) ((Ex.new g1).dps d1), fun b hb => ?_⟩
    rw [upd_ne (fun e => hb (by rw [e]; exact List.mem_cons_self))]
    exact o1 b fun m => hb (List.mem_cons_of_mem _ m)
theorem pub_oc {K : PySem.W.Frag} {rows : List (List Nat)} : PubTo K (.oc rows) (.dat (.list (rows.map pR))) := fun G0 H0 G H p x h0 hg h => by
  obtain ⟨qs, h1, h2, h3, h4⟩ := h
  obtain ⟨G1, n1, e1, d1, o1⟩ := pub_cells (K := K) x h2 h3
  have g1 : G1 p = none := by
    rw [o1 p h4]
    exact hg
  exact ⟨upd G1 p (.lst (qs.map V.ref)), n1.pub h0 g1 h1, e1.trans (Ex.new g1), Dp.lst (SqL.of upd_same) ((Ex.new g1).dps d1)⟩
section
variable {C : Ct} {A : AS} {E : AE} {S : Ab → Prop} {e elt tg iter b1 b2 : Expr} {scope : Scope} {pos p p2 apos : Pos} {x : Str}
/-- [[sign, ..] for ..] of our own -/
theorem xl_cells {its : List (List Ab)} (own : List (Str × Nat)) (P : List Nat → Prop) (hs : Xid C tg iter A its) (hl : its.length ≤ 100000)
    (hb : ∀ (i : Nat) it, its[i]? = some it → ∃ A2, Xg (C.blk scope) tg (own.map (·.2)) (wipes A (own.map (·.2))) it A2 ∧ Xo (C.blk scope) elt A2 (fun o => ∃ r : List Nat, o = .ol (r.map fun c => pS [c]) ∧ P r))
    (hblk : blkC C.N C.sc scope own = true := by (try dsimp only [Ct.blk]); decide +kernel) (hoff : offs A (own.map (·.2)) := by exact offs_none) (hf : ∀ env x, foldedSetIterable iter env x = pure x := by intro _ _; rfl) :
    Xlc C elt tg iter [] scope A (fun o => ∃ rows : List (List Nat), o = .oc rows ∧ rows.length = its.length ∧ ∀ r ∈ rows, P r) := by
  obtain ⟨wi, w1, w2⟩ := hs
  refine ⟨wi, own, w1, hblk, hf, fun H0 σ G H x m Q q => w2 H0 σ G H x m _ fun J G1 H1 its' n1 s1 src D hD => ?_⟩
  subst s1
  obtain ⟨Gd, Y, w, hg, hy⟩ := src.w
  refine lc_it w (fun i H' => ∃ G' qs rows, Nx G1 H1 G' H' ∧ G' D = none ∧ H' D = some (.lst (qs.map V.ref)) ∧ CellsAt H1 G' H' qs rows ∧ qs.Nodup ∧ D ∉ qs ∧ rows.length = i ∧ ∀ r ∈ rows, P r)
    ⟨G1, [], [], Nx.hid n1.s hD, n1.s.back hD, upd_same, trivial, List.nodup_nil, List.not_mem_nil, rfl, fun r hr => absurd hr List.not_mem_nil⟩
    (fun i H' _ ⟨G', qs, rows, n2, _⟩ => hg H' (n2.g.trans n2.s)) (fun i v H' H2 hlt ⟨G', qs, rows, n2, gD, hD', hc, nd, nin, hle, hP⟩ y => ?_) fun H' ⟨G', qs, rows, n2, gD, hD', hc, nd, nin, hle, hP⟩ => q D G' H' _ (n1.trans n2) (n1.e.dom D hD) gD ⟨rows, rfl, hle, hP⟩ ⟨qs, hD', cells_base n1.e hc, nd, nin⟩
  obtain ⟨G2, it, n3, hit, hi⟩ := hy i H' v H2 G' hlt n2.g n2.s y
  obtain ⟨A2, ⟨g, g1, g2⟩, he⟩ := hb i it hit
  obtain ⟨gD2, hD2⟩ := n3.n D _ (by exact trivial) gD hD'
  have m2 := ((m.up n1).up (n2.trans n3)).wipes hoff
  refine ⟨g, g1, g2 H0 _ G2 H2 v n3.s m2 hi _ fun σ2 m3 hw => ⟨by rw [hw, wipe_wipe], ?_⟩⟩
  obtain ⟨tt, t1, t2⟩ := xts_nil (C := C.blk scope) (A := A2)
  refine ⟨tt, t1, t2 H0 σ2 G2 H2 n3.s m3 _ fun b' G3 H3 n4 s4 => ?_⟩
  subst s4
  rw [if_pos rfl]
  obtain ⟨gD3, hD3⟩ := n4.n D _ (by exact trivial) gD2 hD2
  refine he.ev H0 σ2 G3 H3 n4.s (m3.up n4) _ fun p G4 H4 o n5 h0 hg4 s5 ho => ?_
  obtain ⟨r, rfl, hr⟩ := s5
  obtain ⟨vs, hv, hd⟩ := ho
  obtain ⟨gD4, hD4⟩ := n5.n D _ (by exact trivial) gD3 hD3
  have ev : vs = signs r := by
    have z := dps_strs (ls := r.map fun c => [c]) (by rw [List.map_map]; exact hd)
    rw [List.map_map, List.map_map] at z
    exact z
  subst ev
  have n25 := ((n2.trans n3).trans n4).trans n5
  have hc4 : CellsAt H1 G4 H4 qs rows := cells_up ((n3.trans n4).trans n5) hc
  have hc3 : CellsAt H1 G3 H3 qs rows := cells_up (n3.trans n4) hc
  have pD : D ≠ p := fun z => by
    rw [z, h0] at hD3
    cases hD3
  have pq : p ∉ qs := fun z => cells_some hc3 z h0
  have h1p : H1 p = none := ((n2.trans n3).trans n4).e.dom p h0
  refine ⟨qs.map V.ref, hD4, ?_, G4, qs ++ [p], rows ++ [r], n25.mut hD gD4, gD4, by rw [List.map_append]; exact upd_same, cells_off ?_ (cells_app ⟨h1p, hg4, hv⟩ hc4), ?_, ?_, by rw [List.length_append, hle]; rfl, fun z hz => ?_⟩
  · rw [List.length_map, cells_len hc]
    exact small_lt (by omega)
  · intro z
    rcases List.mem_append.mp z with z | z
    · exact nin z
    · exact pD (List.mem_singleton.mp z)
  · rw [List.nodup_append]
    exact ⟨nd, by simp, fun a ha b hb e => pq (by rw [← List.mem_singleton.mp hb, ← e]; exact ha)⟩
  · intro z
    rcases List.mem_append.mp z with z | z
    · exact nin z
    · exact pD (List.mem_singleton.mp z)
  · rcases List.mem_append.mp hz with z2 | z2
    · exact hP z z2
    · rw [List.mem_singleton.mp z2]
      exact hr
theorem atI_map {α β : Type} {f : α → β} {l : List α} {y : Int} {n : Nat} {a : α} (h : ixN l.length y = some n) (ha : l[n]? = some a) : atI (l.map f) y = some (f a) := by
  unfold atI
  rw [List.length_map, h]
  show (l.map f)[n]? = _
  rw [List.getElem?_map, ha]
  rfl
theorem signs_set (r : List Nat) (m c : Nat) : (signs r).set m (V.str (tx [c])) = signs (r.set m c) := by
  unfold signs
  rw [List.map_set]
/-- cells[y][x] = e -/
theorem xq_cellSet (i : Nat) {rows : List (List Nat)} {y z : Int} {n k : Nat} {r : List Nat} (how : A.ow = some (i, .oc rows)) (he : Xe C e A S) (hb1 : Xd C b1 A (.dat (.int y))) (hb2 : Xd C b2 A (.dat (.int z))) (hy : ixN rows.length y = some n) (hr : rows[n]? = some r) (hz : ixN r.length z = some k)
    (kk : ∀ a, S a → ∃ c, a = .dat (pS [c]) ∧ E.nx (A.ows (.oc (rows.set n (r.set k c))))) (hN : C.N[i]? = some x := by rfl) (hv : visB C.sc x = true := by (try dsimp only [Ct.blk]); decide +kernel)
    (hdb : (x == ("__debug__" : Str)) = false := by decide +kernel) (hcd : (x == ("__classdict__" : Str)) = false := by decide +kernel) (hs1 : PlainIx b1 := by exact fun _ _ => rfl)
    (hs : ∀ env : Env, swapsWithSole [.Subscript (.Subscript (.Name x p) b1 p2) b2 apos] e pos.line env = pure false := by intro _; rfl) (hw : ∀ env : Env, swappedStores [.Subscript (.Subscript (.Name x p) b1 p2) b2 apos] e env = pure none := by intro _; rfl) (h1 : ∀ env : Env, (assignEach [.Subscript (.Subscript (.Name x p) b1 p2) b2 apos] env).map (·.2) = [assign (.Subscript (.Subscript (.Name x p) b1 p2) b2 apos) env] := by intro _; rfl)
    (ha : ∀ (env : Env) (v : Value), assign (.Subscript (.Subscript (.Name x p) b1 p2) b2 apos) env v = (do
      let ov ← holding [v] (eval (.Subscript (.Name x p) b1 p2) env)
      let iv ← holding [v, ov] (eval b2 env)
      standAt apos
      holding [v, ov, iv] (setItem ov iv v)
      release [v, ov, iv] []) := by intro _ _; rfl) : Xq C (.Assign [.Subscript (.Subscript (.Name x p) b1 p2) b2 apos] e pos) A E := fun D G0 H0 ok σ G H n0 m => by
  obtain ⟨t1, c1, c2⟩ := hb1
  obtain ⟨t2, d1, d2⟩ := hb2
  refine ⟨tAsg (UE C e) (gSub (tOp (rIxL C.K) (tVar i) t1) t2 rSetL), fun X hX => ps_asg (pe_UE hX) (pg_sub (pe_ix (on_ixL X hX) (pe_var (by rw [hX.N]; exact hN) (hX.vis hv) hdb hcd) (c1 X hX) hs1) (d1 X hX) set_list (ha X.env)) (hs X.env) (hw X.env) (h1 X.env), he.ev H0 σ G H n0.s m _ fun v G1 H1 a n1 s1 i1 => ?_⟩
  obtain ⟨c, rfl, hk⟩ := kk a s1
  have mo := (m.up n1).own
  rw [how] at mo
  obtain ⟨pa, k1, k2, k3, k4⟩ := mo
  refine ⟨.ref pa, k1, c2 H0 σ G1 H1 n1.s (m.up n1) _ fun u G2 H2 w2 n2 s2 i2 => ?_⟩
  subst s2
  have k5 := k4.up k3 n2
  obtain ⟨qs, e1, e2, e3, e4⟩ := k5
  obtain ⟨q, hq, q0, qg, qh⟩ := cells_get e2 hr
  refine ⟨pa, qs.map V.ref, y, .ref q, rfl, is_int i2, SqL.of e1, atI_map (by rw [cells_len e2]; exact hy) hq, ?_⟩
  refine d2 H0 σ G2 H2 n2.s (m.up (n1.trans n2)) _ fun u3 G3 H3 w3 n3 s3 i3 => ?_
  subst s3
  have k6 := k4.up k3 (n2.trans n3)
  have g6 := k4.un k3 (n2.trans n3)
  obtain ⟨qs', f1, f2, f3, f4⟩ := k6
  have e1' := (n3.n pa _ (by exact trivial) (k4.un k3 n2) e1).2
  have eqs : qs' = qs := by
    rw [e1'] at f1
    injection f1 with f1
    injection f1 with f1
    have inj : ∀ {l m : List Addr}, l.map V.ref = m.map V.ref → l = m := by
      intro l
      induction l with
      | nil =>
        intro m h
        cases m with
        | nil => rfl
        | cons _ _ => cases h
      | cons a l ih =>
        intro m h
        cases m with
        | nil => cases h
        | cons b m =>
          rw [List.map_cons, List.map_cons, List.cons.injEq] at h
          rw [ih h.2, V.ref.inj h.1]
    exact (inj f1).symm
  subst eqs
  obtain ⟨q', hq', q0', qg', qh'⟩ := cells_get f2 hr
  rw [hq] at hq'
  cases hq'
  have neq : pa ≠ q := fun z => f4 (by rw [z]; exact List.mem_of_getElem? hq)
  refine ⟨q, signs r, z, k, rfl, is_int i3, qh', by unfold signs; rw [List.length_map]; exact hz, ?_⟩
  rw [is_str i1, signs_set]
  refine ok.nx _ σ G3 _ hk ((((n0.step n1).step n2).step n3).mut q0 qg') ((((m.up n1).up n2).up n3).reown how k1 k2 g6 ⟨qs', by rw [upd_ne neq]; exact f1, cells_set f3 f2 hq, f3, f4⟩)
end
end Oh
set_option maxHeartbeats 4000000
/-! OjJ: plain: rows that a turn keeps, each place by the least that it leads round. -/
namespace Oh
open PySem L2
/-- a turn and a size that fit -/
structure SzOk (t : T8) (h w : Nat) : Prop where
  h1 : 1 ≤ h
  h2 : h ≤ 6
  w1 : 1 ≤ w
  w2 : w ≤ 6
  e : oddT t = true → h = w
abbrev go (t : T8) (h w : Nat) (p : Pl) : Pl := pt t p h w
def gos (t : T8) (h w : Nat) : Nat → Pl → Pl
  | 0, p => p
  | k + 1, p => go t h w (gos t h w k p)
theorem go_in {t : T8} {h w : Nat} (S : SzOk t h w) {p : Pl} (hp : inR p h w = true) : inR (go t h w p) h w = true := by
  have z := pt_in (t := t) hp
  cases e : oddT t with
  | false =>
    rw [e] at z
    exact z
  | true =>
    rw [e] at z
    have q := S.e e
    subst q
    exact z
theorem gos_in {t : T8} {h w : Nat} (S : SzOk t h w) {p : Pl} (hp : inR p h w = true) : ∀ k, inR (gos t h w k p) h w = true
  | 0 => hp
  | k + 1 => go_in S (gos_in S hp k)
theorem gos_add {t : T8} {h w : Nat} {p : Pl} : ∀ k j, gos t h w (k + j) p = gos t h w k (gos t h w j p)
  | 0, j => by rw [Nat.zero_add]; rfl
  | k + 1, j => by
    rw [Nat.succ_add]
    show go t h w (gos t h w (k + j) p) = go t h w (gos t h w k (gos t h w j p))
    rw [gos_add k j]
theorem gos_four {t : T8} {h w : Nat} (S : SzOk t h w) (p : Pl) : gos t h w 4 p = p := by
  obtain ⟨y, x⟩ := p
  have e := S.e
  match t, e with
  | 0, _ => rfl
  | 1, e =>
    have q := e rfl
    subst q
    show ((h : Int) - 1 - ((h : Int) - 1 - y), (h : Int) - 1 - ((h : Int) - 1 - x)) = (y, x)
    congr 1 <;> omega
  | 2, _ =>
    show ((h : Int) - 1 - ((h : Int) - 1 - ((h : Int) - 1 - ((h : Int) - 1 - y))), (w : Int) - 1 - ((w : Int) - 1 - ((w : Int) - 1 - ((w : Int) - 1 - x)))) = (y, x)
    congr 1 <;> omega
  | 3, e =>
    have q := e rfl
    subst q
    show ((h : Int) - 1 - ((h : Int) - 1 - y), (h : Int) - 1 - ((h : Int) - 1 - x)) = (y, x)
    congr 1 <;> omega
  | 4, _ =>
    show (y, (w : Int) - 1 - ((w : Int) - 1 - ((w : Int) - 1 - ((w : Int) - 1 - x)))) = (y, x)
    congr 1; omega
  | 5, _ =>
    show ((h : Int) - 1 - ((h : Int) - 1 - ((h : Int) - 1 - ((h : Int) - 1 - y))), x) = (y, x)
    congr 1; omega
  | 6, _ => rfl
  | 7, e =>
    have q := e rfl
    subst q
    show ((h : Int) - 1 - ((h : Int) - 1 - ((h : Int) - 1 - ((h : Int) - 1 - y))), (h : Int) - 1 - ((h : Int) - 1 - ((h : Int) - 1 - ((h : Int) - 1 - x)))) = (y, x)
    congr 1 <;> omega
/-- the lesser -/
def mnP (a b : Pl) : Pl := if lt2 b a = true then b else a
theorem in_64' {t : T8} {h w : Nat} (S : SzOk t h w) {p : Pl} (hp : inR p h w = true) : P64 p := in_64 S.h2 S.w2 hp
theorem mnP_le {a b : Pl} (ha : P64 a) (hb : P64 b) : le2 (mnP a b) a ∧ le2 (mnP a b) b ∧ (mnP a b = a ∨ mnP a b = b) := by
  obtain ⟨a1, a2, a3, a4⟩ := ha
  obtain ⟨b1, b2, b3, b4⟩ := hb
  unfold mnP le2
  by_cases h : lt2 b a = true
  · rw [if_pos h]
    refine ⟨?_, Int.le_refl _, Or.inr rfl⟩
    unfold lt2 at h
    split at h
    · rename_i h1
      have h1 := eq_of_beq h1
      split at h
      · cases h
      · have := of_decide_eq_true h
        omega
    · have := of_decide_eq_true h
      omega
  · rw [if_neg h]
    refine ⟨Int.le_refl _, ?_, Or.inl rfl⟩
    unfold lt2 at h
    split at h
    · rename_i h1
      have h1 := eq_of_beq h1
      split at h
      · rename_i h2
        have h2 := eq_of_beq h2
        omega
      · have h3 : ¬ b.2 < a.2 := fun z => h (decide_eq_true z)
        omega
    · rename_i h1
      have h2 : ¬ b.1 < a.1 := fun z => h (decide_eq_true z)
      have h3 : b.1 ≠ a.1 := fun e => h1 (by rw [e]; exact beq_self_eq_true _)
      omega
/-- the least of the places that p leads round -/
structure IsLo (t : T8) (h w : Nat) (p z : Pl) : Prop where
  m : ∃ k, z = gos t h w k p
  l : ∀ k, le2 z (gos t h w k p)
/-- the least so far -/
structure LoTo (t : T8) (h w : Nat) (p : Pl) (j : Nat) (z : Pl) : Prop where
  m : ∃ k, k < j ∧ z = gos t h w k p
  l : ∀ k, k < j → le2 z (gos t h w k p)
theorem loTo_one (t : T8) (h w : Nat) (p : Pl) : LoTo t h w p 1 p := ⟨⟨0, by omega, rfl⟩, fun k hk => by
  have e : k = 0 := by omega
  rw [e]
  exact Int.le_refl _⟩
theorem loTo_next {t : T8} {h w : Nat} (S : SzOk t h w) {p z : Pl} (hp : inR p h w = true) {j : Nat} (L : LoTo t h w p j z) : LoTo t h w p (j + 1) (mnP z (gos t h w j p)) := by
  obtain ⟨k, hk, ez⟩ := L.m
  have z64 : P64 z := by
    rw [ez]
    exact in_64' S (gos_in S hp k)
  obtain ⟨m1, m2, m3⟩ := mnP_le z64 (in_64' S (gos_in S hp j))
  refine ⟨?_, fun i hi => ?_⟩
  · rcases m3 with e | e
    · exact ⟨k, by omega, by rw [e]; exact ez⟩
    · exact ⟨j, by omega, e⟩
  · by_cases h1 : i < j
    · exact Int.le_trans m1 (L.l i h1)
    · have e : i = j := by omega
      rw [e]
      exact m2
theorem gos_mod {t : T8} {h w : Nat} {p : Pl} {j : Nat} (hj : 1 ≤ j) (e : gos t h w j p = p) : ∀ k, ∃ i, i < j ∧ gos t h w k p = gos t h w i p
  | 0 => ⟨0, hj, rfl⟩
  | k + 1 => by
    obtain ⟨i, hi, ei⟩ := gos_mod hj e k
    have e1 : gos t h w (k + 1) p = gos t h w (i + 1) p := by
      show go t h w (gos t h w k p) = go t h w (gos t h w i p)
      rw [ei]
    by_cases h1 : i + 1 < j
    · exact ⟨i + 1, h1, e1⟩
    · have e2 : i + 1 = j := by omega
      exact ⟨0, hj, by rw [e1, e2, e]; rfl⟩
theorem loTo_end {t : T8} {h w : Nat} {p z : Pl} {j : Nat} (hj : 1 ≤ j) (e : gos t h w j p = p) (L : LoTo t h w p j z) : IsLo t h w p z := by
  obtain ⟨k, hk, ez⟩ := L.m
  refine ⟨⟨k, ez⟩, fun i => ?_⟩
  obtain ⟨i', hi, e2⟩ := gos_mod hj e i
  rw [e2]
  exact L.l i' hi
theorem isLo_eq {t : T8} {h w : Nat} (S : SzOk t h w) {p z y : Pl} (hp : inR p h w = true) (a : IsLo t h w p z) (b : IsLo t h w p y) : z = y := by
  obtain ⟨k, ez⟩ := a.m
  obtain ⟨j, ey⟩ := b.m
  refine le2_anti (by rw [ez]; exact in_64' S (gos_in S hp k)) (by rw [ey]; exact in_64' S (gos_in S hp j)) ?_ ?_
  · rw [ey]
    exact a.l j
  · rw [ez]
    exact b.l k
def lo (t : T8) (h w : Nat) (p : Pl) : Pl := mnP (mnP (mnP p (gos t h w 1 p)) (gos t h w 2 p)) (gos t h w 3 p)
theorem lo_is {t : T8} {h w : Nat} (S : SzOk t h w) {p : Pl} (hp : inR p h w = true) : IsLo t h w p (lo t h w p) :=
  loTo_end (j := 4) (by omega) (gos_four S p) (loTo_next S hp (loTo_next S hp (loTo_next S hp (loTo_one t h w p))))
theorem lo_in {t : T8} {h w : Nat} (S : SzOk t h w) {p : Pl} (hp : inR p h w = true) : inR (lo t h w p) h w = true := by
  obtain ⟨k, e⟩ := (lo_is S hp).m
  rw [e]
  exact gos_in S hp k
theorem lo_go {t : T8} {h w : Nat} (S : SzOk t h w) {p : Pl} (hp : inR p h w = true) : lo t h w (go t h w p) = lo t h w p := by
  have a := lo_is S (go_in S hp)
  refine isLo_eq S hp ⟨?_, fun k => ?_⟩ (lo_is S hp)
  · obtain ⟨k, e⟩ := a.m
    exact ⟨k + 1, by rw [e, gos_add]; rfl⟩
  · have e : gos t h w (k + 4) p = gos t h w (k + 3) (go t h w p) := by
      rw [show k + 4 = (k + 3) + 1 from rfl, gos_add (k + 3) 1]
      rfl
    have e2 : gos t h w (k + 4) p = gos t h w k p := by rw [gos_add, gos_four S]
    rw [← e2, e]
    exact a.l (k + 3)
/-- the rows made of cells -/
def krow (cells : List (List Nat)) (t : T8) (h w : Nat) (y n : Nat) : List Nat := (List.range n).map fun (x : Nat) => at2 cells (lo t h w ((y : Int), (x : Int)))
def krows (cells : List (List Nat)) (t : T8) (h w : Nat) (n : Nat) : List (List Nat) := (List.range n).map fun y => krow cells t h w y w
structure ClOk (cells : List (List Nat)) (h w : Nat) : Prop where
  h : cells.length = h
  w : ∀ r ∈ cells, r.length = w
  s : ∀ r ∈ cells, ∀ c ∈ r, c ∈ SIGNS
theorem ClOk.fl {cells : List (List Nat)} {t : T8} {h w : Nat} (c : ClOk cells h w) (S : SzOk t h w) : FlOk cells ∧ hgt cells = h ∧ wid cells = w := by
  have hw : wid cells = w := by
    unfold wid
    cases e : cells with
    | nil =>
      have z := c.h
      rw [e] at z
      have h1 := S.h1
      have z : 0 = h := z
      omega
    | cons r q => exact c.w r (by rw [e]; exact List.mem_cons_self)
  have hl := c.h
  exact ⟨⟨by rw [hl]; exact S.h1, by rw [hl]; exact S.h2, by rw [hw]; exact S.w1, by rw [hw]; exact S.w2, fun r hr => by rw [hw]; exact c.w r hr, c.s⟩, hl, hw⟩
theorem krows_cl {cells : List (List Nat)} {t : T8} {h w : Nat} (c : ClOk cells h w) (S : SzOk t h w) : ClOk (krows cells t h w h) h w := by
  obtain ⟨F, e1, e2⟩ := c.fl S
  refine ⟨by unfold krows; rw [List.length_map, List.length_range], fun r hr => ?_, fun r hr z hz => ?_⟩
  · obtain ⟨y, _, rfl⟩ := List.mem_map.mp hr
    unfold krow
    rw [List.length_map, List.length_range]
  · obtain ⟨y, hy, rfl⟩ := List.mem_map.mp hr
    obtain ⟨x, hx, rfl⟩ := List.mem_map.mp hz
    refine at2_sign F ?_
    unfold inF
    rw [e1, e2]
    exact lo_in S (in_nat (List.mem_range.mp hy) (List.mem_range.mp hx))
theorem at2_krows {cells : List (List Nat)} {t : T8} {h w : Nat} {q : Pl} (hq : inR q h w = true) : at2 (krows cells t h w h) q = at2 cells (lo t h w q) := by
  obtain ⟨⟨a, b⟩, c, d⟩ := inR_iff.mp hq
  have h1 : q.1.toNat < h := by omega
  have h2 : q.2.toNat < w := by omega
  show ((krows cells t h w h).getD q.1.toNat []).getD q.2.toNat 0 = _
  unfold krows
  rw [List.getD_eq_getElem?_getD, List.getD_eq_getElem?_getD, List.getElem?_map, List.getElem?_range h1]
  show ((krow cells t h w q.1.toNat w)[q.2.toNat]?).getD 0 = _
  unfold krow
  rw [List.getElem?_map, List.getElem?_range h2]
  show at2 cells (lo t h w (((q.1.toNat : Nat) : Int), ((q.2.toNat : Nat) : Int))) = _
  rw [Int.toNat_of_nonneg a, Int.toNat_of_nonneg c]
/-- what the law's floors are -/
structure KpOk (t : T8) (rows : List (List Nat)) : Prop where
  f : FlOk rows
  k : pic t rows = rows
  c : ∃ p, p ∈ spots rows OPEN ∧ pt t p (hgt rows) (wid rows) = p
theorem rows_ext {a b : List (List Nat)} {h w : Nat} (la : a.length = h) (lb : b.length = h) (wa : ∀ r ∈ a, r.length = w) (wb : ∀ r ∈ b, r.length = w) (e : ∀ q, inR q h w = true → at2 a q = at2 b q) : a = b := by
  refine List.ext_getElem (by omega) fun y h1 h2 => List.ext_getElem (by rw [wa _ (List.getElem_mem h1), wb _ (List.getElem_mem h2)]) fun x k1 k2 => ?_
  have hx : x < w := by rw [← wa _ (List.getElem_mem h1)]; exact k1
  have z := e ((y : Int), (x : Int)) (in_nat (by omega) hx)
  unfold at2 at z
  simp only [Int.toNat_natCast] at z
  rw [List.getD_eq_getElem?_getD, List.getD_eq_getElem?_getD, List.getD_eq_getElem?_getD, List.getD_eq_getElem?_getD, List.getElem?_eq_getElem h1, List.getElem?_eq_getElem h2] at z
  simp only [Option.getD_some] at z
  rw [List.getElem?_eq_getElem k1, List.getElem?_eq_getElem k2] at z
  exact z
theorem krows_kept {cells : List (List Nat)} {t : T8} {h w : Nat} (c : ClOk cells h w) (S : SzOk t h w) : pic t (krows cells t h w h) = krows cells t h w h := by
  have C := krows_cl c S
  obtain ⟨F, e1, e2⟩ := C.fl S
  obtain ⟨F2, p1, p2⟩ := pic_ok F t
  have et : tall t (krows cells t h w h) = h ∧ broad t (krows cells t h w h) = w := by
    unfold tall broad
    rw [e1, e2]
    cases o : oddT t with
    | false => exact ⟨rfl, rfl⟩
    | true =>
      have q := S.e o
      exact ⟨q.symm, q⟩
  rw [et.1] at p1
  rw [et.2] at p2
  refine rows_ext (h := h) (w := w) p1 C.h (fun r hr => by rw [F2.w r hr, p2]) C.w fun q hq => ?_
  have hq2 : inR q (tall t (krows cells t h w h)) (broad t (krows cells t h w h)) = true := by
    rw [et.1, et.2]
    exact hq
  rw [at2_pic hq2]
  unfold pAt
  obtain ⟨z, y⟩ := pt_hence hq2
  rw [e1, e2] at y z
  generalize ep : pt (inv t) q ↑(tall t (krows cells t h w h)) ↑(broad t (krows cells t h w h)) = p at y z
  rw [at2_krows z, at2_krows hq, ← lo_go S z]
  show at2 cells (lo t h w (pt t p h w)) = _
  rw [y]
theorem mid_fix : ∀ (t : T8) (a b : _root_.Fin 3), (oddT t = true → a = b) → pt t ((((a.val + a.val + 1) / 2 : Nat) : Int), (((b.val + b.val + 1) / 2 : Nat) : Int)) ((a.val + a.val + 1 : Nat) : Int) ((b.val + b.val + 1 : Nat) : Int) = ((((a.val + a.val + 1) / 2 : Nat) : Int), (((b.val + b.val + 1) / 2 : Nat) : Int)) := by decide +kernel
theorem lo_fix {t : T8} {h w : Nat} {p : Pl} (e : go t h w p = p) : lo t h w p = p := by
  have g : ∀ k, gos t h w k p = p := by
    intro k
    induction k with
    | zero => rfl
    | succ k ih =>
      show go t h w (gos t h w k p) = p
      rw [ih, e]
  have m : mnP p p = p := by
    unfold mnP
    split <;> rfl
  unfold lo
  rw [g, g, g, m, m, m]
theorem krows_ok {cells : List (List Nat)} {t : T8} {h w : Nat} {a b : _root_.Fin 3} (c : ClOk cells h w) (S : SzOk t h w) (ha : h = a.val + a.val + 1) (hb : w = b.val + b.val + 1) (hc : at2 cells (((h / 2 : Nat) : Int), ((w / 2 : Nat) : Int)) ∈ OPEN) : KpOk t (krows cells t h w h) := by
  have C := krows_cl c S
  obtain ⟨F, e1, e2⟩ := C.fl S
  have fx : go t h w (((h / 2 : Nat) : Int), ((w / 2 : Nat) : Int)) = (((h / 2 : Nat) : Int), ((w / 2 : Nat) : Int)) := by
    have z := mid_fix t a b fun o => by
      have q := S.e o
      exact Fin.ext (by omega)
    rw [← ha, ← hb] at z
    exact z
  have hi : inR (((h / 2 : Nat) : Int), ((w / 2 : Nat) : Int)) h w = true := in_nat (by omega) (by omega)
  refine ⟨F, krows_kept c S, (((h / 2 : Nat) : Int), ((w / 2 : Nat) : Int)), mem_spots.mpr ⟨?_, ?_⟩, ?_⟩
  · unfold inF
    rw [e1, e2]
    exact hi
  · rw [at2_krows hi, lo_fix fx]
    exact hc
  · rw [e1, e2]
    exact fx
end Oh
set_option maxHeartbeats 4000000
/-! OjK: x, y = a, b where a name is captured; walk: _law_kept_rows. -/
namespace Oh
open PySem L2
theorem sw_cell2 {env : Env} {x y : Str} {px py pt pt2 : Pos} {kt k2 : Nat} {c d : Expr} {sc : Scope} (hs : env.scope = sc) (hk : kindB sc = true) (hy : celO sc y = true) (h1 : isStar c = false) (h2 : isStar d = false) :
    swappedStores [.Tuple [.Name x px, .Name y py] kt pt] (.Tuple [c, d] k2 pt2) env = pure none := by
  have ky : (env.kindOf y == some .local) = false := by
    unfold Env.kindOf
    rw [hs]
    unfold celO at hy
    split at hy
    · rename_i h
      rw [h]
      rfl
    · cases hy
  have hb : env.blockKind = .function := by
    unfold Env.blockKind
    rw [hs, kindB_ok hk]
    rfl
  have hfun : ∀ f : Expr → Bool, (∀ e, f e = isStar e) → ([c, d].any f) = false := fun f hf => by simp [hf, h1, h2]
  unfold swappedStores
  simp only [pure_bind, hb, List.length_cons, List.length_nil, List.head?_cons, Option.map_some, Option.getD_some, List.filterMap_cons, List.filterMap_nil, ky, Expr.pos, beq_self_eq_true, Bool.and_true, Bool.false_and]
  rw [if_neg (by decide), if_neg (by rw [hfun _ (fun e => by cases e <;> rfl)]; decide)]
  cases (env.kindOf x == some .local) <;> rfl
section
variable {C : Ct} {A : AS} {E : AE} {x y : Str} {p1 p2 : Pos}
theorem xq_parC (i j : Nat) {c d : Expr} {St : List Ab → Prop} {kt k2 : Nat} {pt pt2 pos : Pos} (h : Xa C [c, d] A St) (k : ∀ as, St as → ∃ d1 d2, as = [.dat d1, .dat d2] ∧ E.nx ((A.set i (.dat d1)).set j (.dat d2)))
    (hc : celO C.sc y = true := by (try dsimp only [Ct.blk]); decide +kernel) (hk : kindB C.sc = true := by (try dsimp only [Ct.blk]); rfl) (hNi : C.N[i]? = some x := by rfl) (hNj : C.N[j]? = some y := by rfl) (hx : stoB C.sc C.fn x = true := by (try dsimp only [Ct.blk]); decide +kernel) (hy : stoB C.sc C.fn y = true := by (try dsimp only [Ct.blk]); decide +kernel)
    (hi : A.off i := by exact AS.off_none) (hj : A.off j := by exact AS.off_none) (w1 : isStar c = false := by rfl) (w2 : isStar d = false := by rfl) : Xq C (.Assign [.Tuple [.Name x p1, .Name y p2] kt pt] (.Tuple [c, d] k2 pt2) pos) A E := fun D G0 H0 ok σ G H n m => by
  have hu : Xe C (.Tuple [c, d] k2 pt2) A (fun a => ∃ d1 d2, a = .dat (.tuple [d1, d2]) ∧ E.nx ((A.set i (.dat d1)).set j (.dat d2))) := xe_tup h fun as ha => by
    obtain ⟨d1, d2, e, hn⟩ := k as ha
    exact ⟨[d1, d2], e, ⟨d1, d2, rfl, hn⟩, Nat.le_of_ble_eq_true rfl⟩
  refine ⟨tAsg (UE C _) (gTup C.K 2 (gCons (gName i) (gCons (gName j) gNil))), fun X hX => ps_asg (pe_UE hX) (by have q := pg_pair (p1 := p1) (p2 := p2) (p3 := pt) (kk := kt) hX hNi hNj hx hy; rw [hX.K] at q; exact q) rfl (sw_cell2 hX.sc hk hc w1 w2) rfl, hu.ev H0 σ G H n.s m _ fun v G' H' a n' s ia => ?_⟩
  obtain ⟨d1, d2, rfl, hn⟩ := s
  obtain ⟨T, ws, rfl, ht, hd⟩ := is_tup ia
  cases hd with
  | cons h1 h2 =>
    cases h2 with
    | cons h2 h3 =>
      cases h3
      exact gPair (vs := [i, j]) (a := .dat d1) (b := .dat d2) n'.s (m.up n') hi hj (by simp) (by simp) ht h1 h2 _ fun σ' m' _ => ok.nx _ σ' G' H' hn (n.step n') m'
end
/-! ### _law_kept_rows -/
def sizesD : List PyData := [.int 1, .int 3, .int 5, .int 3]
def patterns : List (List Nat) := [[46, 126, 35, 120, 97, 98], [46, 46, 126, 97, 35, 98], [97, 98, 99, 100, 46, 46], [46, 46, 126, 126, 46, 35], [46, 46, 46, 46, 46, 46, 97], [126, 126, 35, 46, 97, 98]]
theorem patterns_ok : ∀ l ∈ patterns, l ≠ [] ∧ l.length ≤ 1000 ∧ ∀ c ∈ l, c ∈ SIGNS := by decide
theorem mids_ok : ∀ c ∈ ([46, 97, 46, 98] : List Nat), c ∈ OPEN ∧ c ∈ SIGNS := by decide
theorem rl_odd : ∀ t : T8, decide (dc (tn t 0) ∈ [114, 108]) = oddT t := by decide +kernel
/-- a size drawn -/
def isSz (z : Ab) : Prop := ∃ a : _root_.Fin 3, z = .dat (.int ((a.val + a.val + 1 : Nat) : Int))
abbrev c_kept_rows : Con := ⟨T8, fun _ => True, fun t => [.src, .dat (pT t), .dat (.list sizesD)], fun t z => ∃ rows, z = .dat (.list (rows.map pS)) ∧ KpOk t rows⟩
theorem at_last {α : Type} (ds : List α) (d : α) : atI (ds ++ [d]) (-1) = some d ∧ ixN (ds ++ [d]).length (-1) = some ds.length := by
  have h1 : ixN (ds ++ [d]).length (-1) = some ds.length := by
    unfold ixN
    rw [if_neg (by decide), if_pos (by rw [List.length_append, List.length_singleton]; omega), List.length_append, List.length_singleton]
    congr 1
    omega
  refine ⟨?_, h1⟩
  unfold atI
  rw [h1]
  show (ds ++ [d])[ds.length]? = some d
  rw [List.getElem?_append_right (Nat.le_refl _), Nat.sub_self]
  rfl
theorem set_last {α : Type} (ds : List α) (d e : α) : (ds ++ [d]).set ds.length e = ds ++ [e] := by
  rw [List.set_append_right _ _ (Nat.le_refl _), Nat.sub_self]
  rfl
theorem krow_next (cells : List (List Nat)) (t : T8) (h w y x : Nat) : krow cells t h w y (x + 1) = krow cells t h w y x ++ [at2 cells (lo t h w ((y : Int), (x : Int)))] := by
  unfold krow
  rw [List.range_succ, List.map_append]
  rfl
theorem krows_next (cells : List (List Nat)) (t : T8) (h w y : Nat) : krows cells t h w (y + 1) = krows cells t h w y ++ [krow cells t h w y w] := by
  unfold krows
  rw [List.range_succ, List.map_append]
  rfl
/-- what is read of the cells -/
theorem cell_at {cells : List (List Nat)} {h w : Nat} (c : ClOk cells h w) {p : Pl} (hp : inR p h w = true) : ∃ r, atI (cells.map pR) p.1 = some (pR r) ∧ atI (r.map fun c => pS [c]) p.2 = some (pS [at2 cells p]) := by
  obtain ⟨⟨a, b⟩, d, e⟩ := inR_iff.mp hp
  have hh := c.h
  have h1 : p.1.toNat < cells.length := by omega
  have hw := c.w _ (List.getElem_mem h1)
  have h2 : p.2.toNat < cells[p.1.toNat].length := by omega
  refine ⟨cells[p.1.toNat], atI_pos a (by rw [List.getElem?_map, List.getElem?_eq_getElem h1]; rfl), atI_pos d ?_⟩
  rw [List.getElem?_map, List.getElem?_eq_getElem h2]
  unfold at2
  rw [List.getD_eq_getElem?_getD, List.getD_eq_getElem?_getD, List.getElem?_eq_getElem h1]
  simp only [Option.getD_some]
  rw [List.getElem?_eq_getElem h2]
  rfl
theorem ixN_nat {n k : Nat} (h : k < n) : ixN n (k : Int) = some k := by
  unfold ixN
  rw [if_pos (by omega), if_pos (by omega), Int.toNat_natCast]
/-- the middle set -/
theorem cl_set {cells : List (List Nat)} {h w : Nat} (c : ClOk cells h w) {a b z : Nat} (ha : a < h) (hb : b < w) (hz : z ∈ SIGNS) : ∃ r, cells[a]? = some r ∧ r.length = w ∧ ClOk (cells.set a (r.set b z)) h w ∧ at2 (cells.set a (r.set b z)) ((a : Int), (b : Int)) = z := by
  have hh := c.h
  have h1 : a < cells.length := by omega
  have hw := c.w _ (List.getElem_mem h1)
  refine ⟨cells[a], List.getElem?_eq_getElem h1, hw, ⟨by rw [List.length_set]; exact hh, fun r hr => ?_, fun r hr y hy => ?_⟩, ?_⟩
  · rcases List.mem_or_eq_of_mem_set hr with hr | e
    · exact c.w r hr
    · rw [e, List.length_set]
      exact hw
  · rcases List.mem_or_eq_of_mem_set hr with hr | e
    · exact c.s r hr y hy
    · rw [e] at hy
      rcases List.mem_or_eq_of_mem_set hy with hy | e2
      · exact c.s _ (List.getElem_mem h1) y hy
      · rw [e2]
        exact hz
  · unfold at2
    simp only [Int.toNat_natCast]
    rw [List.getD_eq_getElem?_getD, List.getD_eq_getElem?_getD, List.getElem?_set_self h1]
    simp only [Option.getD_some]
    rw [List.getElem?_set_self (by omega)]
    rfl
section
variable {Γ : Ga} [Gx Γ]
theorem sc_kept_rows : FnScope ["_law_source_here", "_law_sense_here", "_law_sizes", "_law_high", "_law_wide", "_law_signs", "_law_cells", "_law_x", "_law_y", "_law_found", "_law_least", "_law_there"] ["_law_source_here", "_law_sense_here", "_law_sizes"] (defScope (top 76)) := ⟨rfl, rfl, rfl, by decide +kernel, rfl, by decide +kernel, by decide +kernel⟩
abbrev krA (t : T8) (h w : Nat) (l : List Nat) (cells : List (List Nat)) (x y le th : Option Ab) (f : List PyData) : AS := ⟨[some .src, some (.dat (pT t)), some (.dat (.list sizesD)), some (.dat (.int (h : Int))), some (.dat (.int (w : Int))), some (.dat (pS l)), some (.dat (.list (cells.map pR))), x, y, none, le, th], some (9, .ol f)⟩
theorem ok_kept_rows (D : Def Γ "_law_kept_rows" (top 76) ["_law_source_here", "_law_sense_here", "_law_sizes"]) (h_oneL : HasF Γ 3 "_law_one" c_oneL) (h_oneS : HasF Γ 3 "_law_one" c_oneS) (h_spun : HasF Γ 2 "_law_spun" c_lspun) : HasF Γ 4 "_law_kept_rows" c_kept_rows := by
  refine hasF D sc_kept_rows (fun _ _ => rfl) fun t _ => ?_
  have drawn : ∀ z : Ab, c_oneL.res sizesD z → isSz z := by
    rintro z ⟨d, hd, e⟩
    have hd : d = .int 1 ∨ d = .int 3 ∨ d = .int 5 ∨ d = .int 3 := by simpa [sizesD] using hd
    rcases hd with r | r | r | r
    · exact ⟨0, by rw [e, r]; rfl⟩
    · exact ⟨1, by rw [e, r]; rfl⟩
    · exact ⟨2, by rw [e, r]; rfl⟩
    · exact ⟨1, by rw [e, r]; rfl⟩
  refine xp_cons (Mid := fun Z => ∃ a b : _root_.Fin 3, Z = ⟨[some .src, some (.dat (pT t)), some (.dat (.list sizesD)), some (.dat (.int ((a.val + a.val + 1 : Nat) : Int))), some (.dat (.int ((b.val + b.val + 1 : Nat) : Int))), none, none, none, none, none, none, none], none⟩)
    (xq_parC 3 4 (St := fun as => ∃ a b : _root_.Fin 3, as = [.dat (.int ((a.val + a.val + 1 : Nat) : Int)), .dat (.int ((b.val + b.val + 1 : Nat) : Int))]) (xa_cons (Sa := isSz) (St := fun as => ∃ b : _root_.Fin 3, as = [.dat (.int ((b.val + b.val + 1 : Nat) : Int))]) (xe_callK h_oneL lv sizesD ⟨nofun, Nat.le_of_ble_eq_true rfl⟩ (xs_cons (xd_var 0 rfl) (xs_cons (xd_var 2 rfl) xs_nil)) drawn)
      (xa_cons (Sa := isSz) (St := fun as => as = []) (xe_callK h_oneL lv sizesD ⟨nofun, Nat.le_of_ble_eq_true rfl⟩ (xs_cons (xd_var 0 rfl) (xs_cons (xd_var 2 rfl) xs_nil)) drawn) xa_nil ?_) ?_) ?_) ?_
  · rintro c cs ⟨b, e⟩ e2
    exact ⟨b, by rw [e, e2]⟩
  · rintro c cs ⟨a, e⟩ ⟨b, e2⟩
    exact ⟨a, b, by rw [e, e2]⟩
  · rintro as ⟨a, b, rfl⟩
    exact ⟨_, _, rfl, a, b, rfl⟩
  rintro Z ⟨a, b0, rfl⟩
  refine xp_cons (Mid := fun Z => ∃ b : _root_.Fin 3, (oddT t = true → a = b) ∧ Z = ⟨[some .src, some (.dat (pT t)), some (.dat (.list sizesD)), some (.dat (.int ((a.val + a.val + 1 : Nat) : Int))), some (.dat (.int ((b.val + b.val + 1 : Nat) : Int))), none, none, none, none, none, none, none], none⟩)
    (xq_ifB (i := oddT t) (xt_c (Xdc_as (xc_inS (c := dc (tn t 0)) (l := [114, 108]) (xd_ixS (xd_var 1 rfl) xd_int (atI_nat (j := 0) rfl) (by show 4 ≤ 100000; decide)) (xd_str [114, 108])) (rl_odd t))) (fun hT => xp_one (xq_setD 4 (xd_var 3 rfl) ⟨a, fun _ => rfl, rfl⟩)) (fun hF => xp_nil ⟨b0, (fun z => by rw [hF] at z; cases z), rfl⟩)) ?_
  rintro Z ⟨b, hodd, rfl⟩
  generalize eh : a.val + a.val + 1 = h
  generalize ew : b.val + b.val + 1 = w
  have S : SzOk t h w := ⟨by omega, by omega, by omega, by omega, fun o => by rw [← eh, ← ew, hodd o]⟩
  have hs2 := S.h2
  have hw2 := S.w2
  refine xp_cons (Mid := fun Z => ∃ l ∈ patterns, Z = ⟨[some .src, some (.dat (pT t)), some (.dat (.list sizesD)), some (.dat (.int (h : Int))), some (.dat (.int (w : Int))), some (.dat (pS l)), none, none, none, none, none, none], none⟩)
    (xq_set 5 (xe_callK h_oneL lv (patterns.map pS) ⟨nofun, Nat.le_of_ble_eq_true rfl⟩ (xs_cons (xd_var 0 rfl) (xs_cons (xd_lst (ds := patterns.map pS) (xs_cons (xd_str [46, 126, 35, 120, 97, 98]) (xs_cons (xd_str [46, 46, 126, 97, 35, 98]) (xs_cons (xd_str [97, 98, 99, 100, 46, 46]) (xs_cons (xd_str [46, 46, 126, 126, 46, 35]) (xs_cons (xd_str [46, 46, 46, 46, 46, 46, 97]) (xs_cons (xd_str [126, 126, 35, 46, 97, 98]) xs_nil))))))) xs_nil)) fun z hz => hz) ?_) ?_
  · rintro z ⟨d, hd, rfl⟩
    obtain ⟨l, hl, rfl⟩ := List.mem_map.mp hd
    exact ⟨l, hl, rfl⟩
  rintro Z ⟨l, hl, rfl⟩
  obtain ⟨l1, l2, l3⟩ := patterns_ok l hl
  refine xp_cons (Mid := fun Z => ∃ cells, ClOk cells h w ∧ Z = ⟨[some .src, some (.dat (pT t)), some (.dat (.list sizesD)), some (.dat (.int (h : Int))), some (.dat (.int (w : Int))), some (.dat (pS l)), none, none, none, none, none, none], some (6, .oc cells)⟩)
    (xq_lc 6 (xl_cells (its := itsR 0 1 h) [("_law_y", 8)] (fun r => r.length = w ∧ ∀ c ∈ r, c ∈ SIGNS) (xi_eq (xi_rng1 (xd_var 3 rfl) (midN (n := h) (by omega)) Gx.bRange) (by rw [Int.toNat_natCast])) (by unfold itsR; rw [List.length_map, List.length_range]; omega)
      (fun i it hit => ?_)) ?_) ?_
  · obtain ⟨j, hj, hm, rfl⟩ := map_get hit
    refine ⟨_, xg_name 8, (xo_lcS (Sx := fun its => its = itsR 0 1 w) [("_law_x", 7)] (fun its i ds => ∃ r : List Nat, r.length = i ∧ (∀ c ∈ r, c ∈ SIGNS) ∧ ds = r.map fun c => pS [c]) (xi_eq (xi_rng1 (xd_var 4 rfl) (midN (n := w) (by omega)) Gx.bRange) (by rw [Int.toNat_natCast])) ?_ ?_).imp ?_⟩
    · rintro its rfl
      refine ⟨⟨[], rfl, fun c hc => absurd hc List.not_mem_nil, rfl⟩, ?_⟩
      unfold itsR
      rw [List.length_map, List.length_range]
      omega
    · rintro its i it ds rfl hit ⟨r, hr, hs, rfl⟩
      obtain ⟨j2, hj2, hm2, rfl⟩ := map_get hit
      refine ⟨_, true, xg_name 7, xts_nil, fun _ => xe_callK h_oneS lv l ⟨l1, l2⟩ (xs_cons (xd_var 0 rfl) (xs_cons (xd_var 5 rfl) xs_nil)) ?_, nofun⟩
      rintro z ⟨c, hc, rfl⟩
      refine ⟨_, rfl, r ++ [c], by rw [List.length_append, hr]; rfl, fun y hy => ?_, by rw [List.map_append]; rfl⟩
      rcases List.mem_append.mp hy with z | z
      · exact hs y z
      · rw [List.mem_singleton.mp z]
        exact l3 c hc
    · rintro o ⟨its, ds, rfl, rfl, r, hr, hs, rfl⟩
      refine ⟨r, rfl, ?_, hs⟩
      rw [hr]
      unfold itsR
      rw [List.length_map, List.length_range]
  · rintro o ⟨rows, rfl, hr, hP⟩
    refine ⟨rows, ⟨?_, fun r hr => (hP r hr).1, fun r hr => (hP r hr).2⟩, rfl⟩
    rw [hr]
    unfold itsR
    rw [List.length_map, List.length_range]
  rintro Z ⟨cells0, C0, rfl⟩
  have hmid : h / 2 < h ∧ w / 2 < w := by omega
  refine xp_cons (Mid := fun Z => ∃ cells, (ClOk cells h w ∧ at2 cells (((h / 2 : Nat) : Int), ((w / 2 : Nat) : Int)) ∈ OPEN) ∧ Z = ⟨[some .src, some (.dat (pT t)), some (.dat (.list sizesD)), some (.dat (.int (h : Int))), some (.dat (.int (w : Int))), some (.dat (pS l)), none, none, none, none, none, none], some (6, .oc cells)⟩) ?_ ?_
  · obtain ⟨r, hr, hrw, _⟩ := cl_set C0 hmid.1 hmid.2 (z := 46) (by decide)
    refine xq_cellSet 6 (n := h / 2) (k := w / 2) (r := r) (y := ((h / 2 : Nat) : Int)) (z := ((w / 2 : Nat) : Int)) rfl (S := fun z => ∃ c ∈ ([46, 97, 46, 98] : List Nat), z = .dat (pS [c])) (xe_callK h_oneS lv [46, 97, 46, 98] ⟨nofun, by decide⟩ (xs_cons (xd_var 0 rfl) (xs_cons (xd_str [46, 97, 46, 98]) xs_nil)) fun z hz => hz)
      (Xe.as (xd_fdiv (xd_var 3 rfl) xd_int ⟨by decide, by decide⟩) (by norm_cast)) (Xe.as (xd_fdiv (xd_var 4 rfl) xd_int ⟨by decide, by decide⟩) (by norm_cast)) (by rw [C0.h]; exact ixN_nat hmid.1) hr (by rw [hrw]; exact ixN_nat hmid.2) ?_
    rintro z ⟨c, hc, rfl⟩
    obtain ⟨m1, m2⟩ := mids_ok c hc
    obtain ⟨r', hr', _, C1, at1⟩ := cl_set C0 hmid.1 hmid.2 m2
    rw [hr] at hr'
    cases hr'
    exact ⟨c, rfl, _, ⟨C1, by rw [at1]; exact m1⟩, rfl⟩
  rintro Z ⟨cells, ⟨CL, hmidO⟩, rfl⟩
  refine xp_pub (i := 6) rfl pub_oc ?_
  refine xp_then (A' := krA t h w l cells none none none none []) (xq_ownD 9 (xo_lstD xs_nil) rfl) ?_
  refine xp_cons (Mid := fun Z => ∃ x y le th, Z = krA t h w l cells x y le th ((krows cells t h w h).map pS))
    (xq_for [8] (fun i Z => i ≤ h ∧ ∃ x y le th, Z = krA t h w l cells x y le th ((krows cells t h w i).map pS)) (its := (List.range h).map fun (i : Nat) => [Ab.dat (.int (i : Int))]) (xi_eq (xi_rng1 (xd_var 3 rfl) (midN (n := h) (by omega)) Gx.bRange) range_its) ⟨Nat.zero_le _, none, none, none, none, rfl⟩ ?_ ?_) ?_
  · rintro i it Z hit ⟨_, x0, y0, le0, th0, rfl⟩
    obtain ⟨i', hi', hm, rfl⟩ := map_get hit
    have him := List.mem_range.mp hm
    have ei : i' = i := by
      have hlt : i < h := by
        have z := (List.getElem?_eq_some_iff.mp hi').1
        rw [List.length_range] at z
        exact z
      rw [List.getElem?_range hlt] at hi'
      exact (Option.some.inj hi').symm
    subst ei
    have lk : ((krows cells t h w i').map pS).length = i' := by
      unfold krows
      rw [List.length_map, List.length_map, List.length_range]
    refine ⟨krA t h w l cells x0 (some (.dat (.int (i' : Int)))) le0 th0 ((krows cells t h w i').map pS), xg_name 8 (hi := off_own rfl), ?_⟩
    refine xp_then (A' := krA t h w l cells x0 (some (.dat (.int (i' : Int)))) le0 th0 ((krows cells t h w i').map pS ++ [pS []])) (xq_appendD 9 rfl (xd_str []) rfl (by omega)) ?_
    refine xp_one (xq_for [7] (fun j Z => j ≤ w ∧ ∃ x le th, Z = krA t h w l cells x (some (.dat (.int (i' : Int)))) le th ((krows cells t h w i').map pS ++ [pS (krow cells t h w i' j)])) (its := (List.range w).map fun (i : Nat) => [Ab.dat (.int (i : Int))]) (xi_eq (xi_rng1 (xd_var 4 rfl) (midN (n := w) (by omega)) Gx.bRange) range_its) ⟨Nat.zero_le _, x0, le0, th0, rfl⟩ ?_ ?_)
    · rintro j it Z hit ⟨_, x1, le1, th1, rfl⟩
      obtain ⟨j', hj', hm2, rfl⟩ := map_get hit
      have hjm := List.mem_range.mp hm2
      have ej : j' = j := by
        have hlt : j < w := by
          have z := (List.getElem?_eq_some_iff.mp hj').1
          rw [List.length_range] at z
          exact z
        rw [List.getElem?_range hlt] at hj'
        exact (Option.some.inj hj').symm
      subst ej
      have hp : inR ((i' : Int), (j' : Int)) h w = true := in_nat him hjm
      have here : ∀ {le th : Option Ab} {f : List PyData} {k kt : Nat} {q1 q2 q3 : Pos}, Xd ⟨Γ, _, defScope (top 76), 3, fun _ => true⟩ (.Tuple [.Name "_law_y" q1, .Name "_law_x" q2] kt q3) (krA t h w l cells (some (.dat (.int (j' : Int)))) (some (.dat (.int (i' : Int)))) le th f) (.dat (pP ((i' : Int), (j' : Int)))) := fun {le th f k kt q1 q2 q3} => xd_tup (ds := [.int (i' : Int), .int (j' : Int)]) (xs_cons (xd_var (C := ⟨Γ, ["_law_source_here", "_law_sense_here", "_law_sizes", "_law_high", "_law_wide", "_law_signs", "_law_cells", "_law_x", "_law_y", "_law_found", "_law_least", "_law_there"], defScope (top 76), 3, fun _ => true⟩) 8 rfl) (xs_cons (xd_var 7 rfl) xs_nil))
      refine ⟨krA t h w l cells (some (.dat (.int (j' : Int)))) (some (.dat (.int (i' : Int)))) le1 th1 ((krows cells t h w i').map pS ++ [pS (krow cells t h w i' j')]), xg_name 7 (hi := off_own rfl), ?_⟩
      refine xp_then (A' := krA t h w l cells (some (.dat (.int (j' : Int)))) (some (.dat (.int (i' : Int)))) (some (.dat (pP ((i' : Int), (j' : Int))))) th1 ((krows cells t h w i').map pS ++ [pS (krow cells t h w i' j')])) (xq_setD 10 (here (k := 0)) rfl (hi := off_own rfl)) ?_
      refine xp_then (A' := krA t h w l cells (some (.dat (.int (j' : Int)))) (some (.dat (.int (i' : Int)))) (some (.dat (pP ((i' : Int), (j' : Int))))) (some (.dat (pP (gos t h w 1 ((i' : Int), (j' : Int)))))) ((krows cells t h w i').map pS ++ [pS (krow cells t h w i' j')])) (xq_setD 11 (xd_call h_spun lv (t, ((i' : Int), (j' : Int)), (h : Int), (w : Int)) ⟨by have := S.h1; show (1 : Int) ≤ (h : Int); omega, by have := S.w1; show (1 : Int) ≤ (w : Int); omega⟩ (xs_cons (xd_var 1 rfl) (xs_cons (here (k := 0)) (xs_cons (xd_var 3 rfl) (xs_cons (xd_var 4 rfl) xs_nil)))) rfl) rfl (hi := off_own rfl)) ?_
      refine xp_cons (Mid := fun Z => ∃ th, Z = krA t h w l cells (some (.dat (.int (j' : Int)))) (some (.dat (.int (i' : Int)))) (some (.dat (pP (lo t h w ((i' : Int), (j' : Int)))))) th ((krows cells t h w i').map pS ++ [pS (krow cells t h w i' j')]))
        (xq_while (fun k Z => ∃ m z, (m + k = 4 ∧ 1 ≤ m) ∧ LoTo t h w ((i' : Int), (j' : Int)) m z ∧ Z = krA t h w l cells (some (.dat (.int (j' : Int)))) (some (.dat (.int (i' : Int)))) (some (.dat (pP z))) (some (.dat (pP (gos t h w m ((i' : Int), (j' : Int)))))) ((krows cells t h w i').map pS ++ [pS (krow cells t h w i' j')])) (n0 := 3) ⟨1, _, ⟨rfl, Nat.le_refl _⟩, loTo_one t h w _, rfl⟩ ?_) ?_
      · rintro k Z ⟨m, z, ⟨hmk, hm1⟩, hL, rfl⟩
        refine ⟨!decide (gos t h w m ((i' : Int), (j' : Int)) = ((i' : Int), (j' : Int))), xt_c (Xdc_as (xc_neD (xd_var 11 rfl) (here (k := 0)) (sh_ok (sh_pP _)) (sh_ok (sh_pP _))) (by rw [eqv_pP])), fun hT => ?_, fun hF => ?_⟩
        · have hne : gos t h w m ((i' : Int), (j' : Int)) ≠ ((i' : Int), (j' : Int)) := by simpa using hT
          have hk : 1 ≤ k := by
            cases k with
            | zero =>
              have e4 : m = 4 := by omega
              rw [e4] at hne
              exact absurd (gos_four S _) hne
            | succ k => exact Nat.succ_le_succ (Nat.zero_le _)
          refine xp_then (A' := krA t h w l cells (some (.dat (.int (j' : Int)))) (some (.dat (.int (i' : Int)))) (some (.dat (pP (mnP z (gos t h w m ((i' : Int), (j' : Int))))))) (some (.dat (pP (gos t h w m ((i' : Int), (j' : Int)))))) ((krows cells t h w i').map pS ++ [pS (krow cells t h w i' j')])) (xq_setD 10 (xd_minP (xd_var 10 rfl) (xd_var 11 rfl)) rfl (hi := off_own rfl)) ?_
          exact xp_one (xq_setD 11 (xd_call h_spun lv (t, gos t h w m ((i' : Int), (j' : Int)), (h : Int), (w : Int)) ⟨by have := S.h1; show (1 : Int) ≤ (h : Int); omega, by have := S.w1; show (1 : Int) ≤ (w : Int); omega⟩ (xs_cons (xd_var 1 rfl) (xs_cons (xd_var 11 rfl) (xs_cons (xd_var 3 rfl) (xs_cons (xd_var 4 rfl) xs_nil)))) rfl) ⟨k - 1, by omega, m + 1, _, ⟨by omega, by omega⟩, loTo_next S hp hL, rfl⟩ (hi := off_own rfl))
        · have he : gos t h w m ((i' : Int), (j' : Int)) = ((i' : Int), (j' : Int)) := by simpa using hF
          refine ⟨some (.dat (pP (gos t h w m ((i' : Int), (j' : Int))))), ?_⟩
          rw [isLo_eq S hp (loTo_end hm1 he hL) (lo_is S hp)]
      · rintro Z ⟨th, rfl⟩
        obtain ⟨r, c1, c2⟩ := cell_at CL (lo_in S hp)
        have hlr : (krow cells t h w i' j').length = j' := by
          unfold krow
          rw [List.length_map, List.length_range]
        refine xp_one (xq_ownSet 9 (S := fun a => a = .dat (pS (krow cells t h w i' j' ++ [at2 cells (lo t h w ((i' : Int), (j' : Int)))]))) rfl (xd_cat (xd_ownIx 9 rfl xd_neg1 (at_last _ _).1) (xd_ixL (xd_ixL (xd_var 6 rfl) (xd_ixT (xd_var 10 rfl) xd_int (atI_nat (j := 0) rfl)) c1) (xd_ixT (xd_var 10 rfl) xd_int (atI_nat (j := 1) rfl)) c2) (by rw [hlr, List.length_singleton]; omega)) xd_neg1 (at_last _ _).2 ?_)
        rintro a rfl
        refine ⟨_, rfl, hjm, some (.dat (.int (j' : Int))), some (.dat (pP (lo t h w ((i' : Int), (j' : Int))))), th, ?_⟩
        rw [set_last, krow_next]
        rfl
    · rintro Z ⟨_, x1, le1, th1, rfl⟩
      refine ⟨him, x1, some (.dat (.int (i' : Int))), le1, th1, ?_⟩
      rw [krows_next, List.map_append, List.length_map, List.length_range]
      rfl
  · rintro Z ⟨_, x, y, le, th, rfl⟩
    refine ⟨x, y, le, th, ?_⟩
    rw [List.length_map, List.length_range]
  · rintro Z ⟨x, y, le, th, rfl⟩
    refine xp_pub (i := 9) rfl pub_lst (xp_one (xq_retD (xd_var 9 rfl) ⟨_, rfl, krows_ok (a := a) (b := b) CL S eh.symm ew.symm hmidO⟩))
end
end Oh
set_option maxHeartbeats 4000000
/-! OjL: walk: _law_kept_land. -/
namespace Oh
open PySem L2
section
variable {C : Ct} {A : AS} {E : AE} {elt tg iter a b : Expr} {ifs : List Expr} {scope : Scope} {pos : Pos}
/-- name = [..] on one line, made known at once -/
theorem xq_lcP {S : Ow → Prop} {y : Str} {py spos : Pos} (i : Nat) (h : Xlc C elt tg iter ifs scope A S) (k : ∀ o, S o → ∃ a, PubTo C.K o a ∧ E.nx (A.set i a)) (hN : C.N[i]? = some y := by rfl) (hx : locO C.sc y = true := by (try dsimp only [Ct.blk]); decide +kernel) (hk : kindB C.sc = true := by (try dsimp only [Ct.blk]); rfl) (hl : (py.line == pos.line) = true := by rfl)
    (ha : (scope.names.any fun (n, k) => n == y && (k == .local || k == .cell)) = false := by decide +kernel) (hi : A.off i := by exact AS.off_none) : Xq C (.Assign [.Name y py] (.ListComp elt [⟨tg, iter, ifs, 0⟩] scope pos) spos) A E := fun D G0 H0 ok σ G H n m => by
  obtain ⟨wi, own, w1, hblk, hf, h2⟩ := h
  refine ⟨tAsg _ (gName i), fun X hX => ps_setLc hX.calm hX.nd (by rw [hX.N]; exact hN) (by rw [hX.sc]; exact locO_ok hx) (sw_true (by rw [hX.sc]; exact kindB_ok hk) (by rw [hX.sc]; exact locO_ok hx) hl ha) (w1 X hX) (by rw [hX.N, hX.sc]; exact blkOk_by hblk) (fun s H Cc cl fp => pg_UG (hX.blk scope s H Cc cl fp)) (fun s H Cc cl fp => pts_U (hX.blk scope s H Cc cl fp)) (fun s H Cc cl fp => pe_UE (hX.blk scope s H Cc cl fp)) (hf X.env), ?_⟩
  refine h2 H0 σ G H n.s m _ fun p G' H' o n' h0 hg s ho => ?_
  obtain ⟨a, hp, hn⟩ := k o s
  obtain ⟨G2, n2, _, i2⟩ := hp G H G' H' p n' h0 hg ho
  exact ok.nx _ _ G2 H' hn (n.step n2) ((m.up n2).set hi i2)
theorem xc_eqA {k : Int} (ha : Xe C a A anyI) (hb : Xd C b A (.dat (.int k))) : Xc C (.Compare a [.Eq] [b] pos) A (fun z => ∃ r, z = .dat (.bool r)) := xe_cmp (fun _ _ => op_eq) ha hb fun c d hc hd => by
  obtain ⟨i, rfl⟩ := hc
  subst hd
  intro x y G H e i1 i2 Q q
  rw [is_int i1, is_int i2]
  exact ⟨rfl, q _ G H _ (Nx.refl e) ⟨_, rfl⟩ mk_bool⟩
end
theorem land_get {rows : List (List Nat)} {st : Sd} {bk : List (Nat × T8)} {ws : List Pl} : lkA (landA rows st bk ws) "rows" = some (.dat (.list (rows.map pS))) ∧ lkA (landA rows st bk ws) "start" = some (.dat (pSd st)) ∧ lkA (landA rows st bk ws) "book" = some (.book bk) ∧ lkA (landA rows st bk ws) "wished" = some (.dat (.list (ws.map pP))) := ⟨rfl, rfl, rfl, rfl⟩
theorem land_put {rows : List (List Nat)} {st st' : Sd} {bk bk' : List (Nat × T8)} {ws ws' : List Pl} : putA (landA rows st bk ws) "start" (.dat (pSd st')) = landA rows st' bk ws ∧ putA (landA rows st bk ws) "book" (.book bk') = landA rows st bk' ws ∧ putA (landA rows st bk ws) "wished" (.dat (.list (ws'.map pP))) = landA rows st bk ws' := ⟨rfl, rfl, rfl⟩
/-- the turns that are their own pictures -/
def ownT (t : T8) : List T8 := (List.finRange 8).filter fun u => decide (cm (cm (inv t) u) t = u)
theorem ownT_zero : ∀ t : T8, (0 : T8) ∈ ownT t := by decide +kernel
structure KlOk (t : T8) (rows : List (List Nat)) (p : Pl) (bk : List (Nat × T8)) (ws : List Pl) : Prop where
  k : KpOk t rows
  o : p ∈ spots rows OPEN
  e : pt t p (hgt rows) (wid rows) = p
  d : DrOk rows bk ws
abbrev c_kept_land : Con := ⟨T8, fun _ => True, fun t => [.src, .dat (pT t)], fun t z => ∃ rows p u bk ws, z = .land rows (some (p, u)) bk ws ∧ KlOk t rows p bk ws⟩
theorem drOk_filter {rows : List (List Nat)} {bk : List (Nat × T8)} {ws : List Pl} (F : FlOk rows) (d : DrOk rows bk ws) (f : Pl → Bool) : DrOk rows bk (ws.filter f) := by
  have pw : ws.Pairwise le2 := by
    rw [← d.s]
    exact sP_pw ws
  have W : WsOk rows (ws.filter f) := ⟨fun p hp => d.w.i p (List.mem_filter.mp hp).1, List.Pairwise.filter _ d.w.n, Nat.lt_of_le_of_lt (List.length_filter_le _ _) d.w.l⟩
  exact ⟨d.b, W, (sP_unique (fun p hp => in64 F (W.i p hp)) (List.Perm.refl _) (List.Pairwise.filter _ pw)).symm⟩
section
variable {Γ : Ga} [Gx Γ]
theorem sc_kept_land : FnScope ["_law_source_here", "_law_sense_here", "_law_found", "_law_high", "_law_wide", "_law_some", "_law_spot", "_law_own", "_law_one_here", "_law_letter"] ["_law_source_here", "_law_sense_here"] (defScope (top 77)) := ⟨rfl, rfl, rfl, by decide +kernel, rfl, by decide +kernel, by decide +kernel⟩
abbrev klA (t : T8) (h w so ow : Option Ab) (rows : List (List Nat)) (st : Sd) (bk : List (Nat × T8)) (ws : List Pl) : AS := ⟨[some .src, some (.dat (pT t)), none, h, w, so, none, ow, none, none], some (2, .od (landA rows st bk ws))⟩
theorem off_kl {t : T8} {h w so ow : Option Ab} {rows : List (List Nat)} {st : Sd} {bk : List (Nat × T8)} {ws : List Pl} {i : Nat} (hne : 2 ≠ i := by decide) : (klA t h w so ow rows st bk ws).off i := off_own rfl hne
theorem ok_kept_land (D : Def Γ "_law_kept_land" (top 77) ["_law_source_here", "_law_sense_here"]) (h_land : HasO Γ 5 "_law_land" co_land) (h_kept_rows : HasF Γ 4 "_law_kept_rows" c_kept_rows) (h_spots : HasF Γ 1 "_law_spots" c_spots) (h_spun : HasF Γ 2 "_law_spun" c_lspun) (h_one : HasF Γ 3 "_law_one" c_oneL) (h_turn : HasF Γ 4 "_law_turn" c_sense)
    (h_both : HasF Γ 2 "_law_both" c_then) (h_undone : HasF Γ 1 "_law_undone" c_back) (h_take : HasF Γ 2 "_law_take" c_take) : HasF Γ 6 "_law_kept_land" c_kept_land := by
  refine hasF D sc_kept_land (fun _ _ => rfl) fun t _ => ?_
  refine xp_cons (Mid := fun Z => ∃ rows st bk ws, (KpOk t rows ∧ DrOk rows bk ws) ∧ Z = klA t none none none none rows st bk ws)
    (xq_own 2 (S := fun o => ∃ rows st bk ws, (KpOk t rows ∧ DrOk rows bk ws) ∧ o = .od (landA rows st bk ws)) (xo_call h_land lv (St := fun as => ∃ rows, KpOk t rows ∧ as = [.src, .dat (.list (rows.map pS))]) (xa_cons (Sa := fun a => a = .src) (St := fun as => ∃ rows, KpOk t rows ∧ as = [.dat (.list (rows.map pS))]) (xd_var 0 rfl)
      (xa_cons (Sa := fun a => ∃ rows, KpOk t rows ∧ a = .dat (.list (rows.map pS))) (St := fun as => as = []) (xe_callK h_kept_rows lv t trivial (xs_cons (xd_var 0 rfl) (xs_cons (xd_var 1 rfl) (xs_cons (xd_lst (ds := sizesD) (xs_cons xd_int (xs_cons xd_int (xs_cons xd_int (xs_cons xd_int xs_nil))))) xs_nil))) ?_) xa_nil ?_) ?_) ?_) ?_) ?_
  · rintro z ⟨rows, e, K⟩
    exact ⟨rows, K, e⟩
  · rintro c cs ⟨rows, K, e⟩ e2
    exact ⟨rows, K, by rw [e, e2]⟩
  · rintro c cs e ⟨rows, K, e2⟩
    exact ⟨rows, K, by rw [e, e2]⟩
  · rintro as ⟨rows, K, rfl⟩
    refine ⟨rows, ⟨K.f, fun z => ?_⟩, rfl, ?_⟩
    · obtain ⟨p, hp, _⟩ := K.c
      rw [z] at hp
      cases hp
    · rintro o ⟨p, u, bk, ws, rfl, d⟩
      exact ⟨rows, _, bk, ws, ⟨K, d⟩, rfl⟩
  · rintro o ⟨rows, st, bk, ws, K, rfl⟩
    exact ⟨rows, st, bk, ws, K, rfl⟩
  rintro Z ⟨rows, st0, bk0, ws, ⟨K, d0⟩, rfl⟩
  have F := K.f
  have f3 := F.w2
  have sl := spots_len F
  refine xp_then (A' := klA t (some (.dat (.int (hgt rows)))) (some (.dat (.int (wid rows)))) none none rows st0 bk0 ws) (xq_parC 3 4 (St := fun as => as = [.dat (.int (hgt rows)), .dat (.int (wid rows))]) (xs_cons (Xe.as (xd_len (xd_ownGet 2 rfl xd_str0 land_get.1) rfl) (by rw [List.length_map]; rfl)) (xs_cons (xd_lenS (xd_ixL (xd_ownGet 2 rfl xd_str0 land_get.1) xd_int (headD_at F)) (by show wid rows ≤ _; omega)) xs_nil)) (fun as e => ⟨_, _, e, rfl⟩) (hi := off_kl) (hj := off_kl)) ?_
  refine xp_then (A' := klA t (some (.dat (.int (hgt rows)))) (some (.dat (.int (wid rows)))) (some (.dat (.list (((spots rows OPEN).filter fun p => decide (pt t p (hgt rows) (wid rows) = p)).map pP)))) none rows st0 bk0 ws)
    (xq_lcP 5 (xl_lc (spots rows OPEN) (fun p => [Ab.dat (pP p)]) (fun p => decide (pt t p (hgt rows) (wid rows) = p)) pP [("_law_spot", 6)] (xi_eq (xi_list (xd_call h_spots lv (rows, OPEN) F (xs_cons (xd_ownGet 2 rfl xd_str0 land_get.1) (xs_cons (xd_str [46, 97, 98, 99, 100]) xs_nil)) rfl)) ?_) ?_ (fun p hp => ⟨_, xg_name 6 (hi := off_kl), xts_one (xt_c (Xdc_as (xc_eqD (xd_call h_spun lv (t, p, (hgt rows : Int), (wid rows : Int)) ⟨?_, ?_⟩ (xs_cons (xd_var 1 rfl) (xs_cons (xd_var 6 rfl) (xs_cons (xd_var 3 rfl) (xs_cons (xd_var 4 rfl) xs_nil)))) rfl) (xd_var 6 rfl) (sh_ok (sh_pP _)) (sh_ok (sh_pP _))) (eqv_pP _ _))), fun _ => xd_var 6 rfl⟩) (hoff := ?_)) (fun o e => ⟨_, by rw [e]; exact pub_lst, rfl⟩) (hi := off_kl)) ?_
  · unfold its1
    rw [List.map_map]
    rfl
  · have := sl OPEN
    omega
  · have h1 : 1 ≤ hgt rows := F.h1
    show (1 : Int) ≤ (hgt rows : Int)
    omega
  · have w1 := F.w1
    show (1 : Int) ≤ (wid rows : Int)
    omega
  · exact fun i hi => by
      rw [List.mem_singleton.mp hi]
      exact off_kl
  have some_ne : ((spots rows OPEN).filter fun p => decide (pt t p (hgt rows) (wid rows) = p)) ≠ [] := by
    obtain ⟨p, hp, e⟩ := K.c
    intro z
    have hm : p ∈ (spots rows OPEN).filter fun p => decide (pt t p (hgt rows) (wid rows) = p) := List.mem_filter.mpr ⟨hp, decide_eq_true e⟩
    rw [z] at hm
    cases hm
  have some_len : (((spots rows OPEN).filter fun p => decide (pt t p (hgt rows) (wid rows) = p)).map pP).length ≤ 1000 := by
    rw [List.length_map]
    have := sl OPEN
    exact Nat.le_trans (List.length_filter_le _ _) (by omega)
  refine xp_cons (Mid := fun Z => ∃ p u, (p ∈ spots rows OPEN ∧ pt t p (hgt rows) (wid rows) = p) ∧ Z = klA t (some (.dat (.int (hgt rows)))) (some (.dat (.int (wid rows)))) (some (.dat (.list (((spots rows OPEN).filter fun p => decide (pt t p (hgt rows) (wid rows) = p)).map pP)))) none rows (some (p, u)) bk0 ws)
    (xq_ownPut 2 rfl (S := fun a => ∃ p u, (p ∈ spots rows OPEN ∧ pt t p (hgt rows) (wid rows) = p) ∧ a = .dat (pSd (some (p, u)))) (xe_tup (St := fun as => ∃ p u, (p ∈ spots rows OPEN ∧ pt t p (hgt rows) (wid rows) = p) ∧ as = [.dat (pP p), .dat (pT u)]) (xa_cons (Sa := fun a => ∃ p : Pl, (p ∈ spots rows OPEN ∧ pt t p (hgt rows) (wid rows) = p) ∧ a = .dat (pP p)) (St := fun as => ∃ u, as = [.dat (pT u)])
      (xe_callK h_one lv (((spots rows OPEN).filter fun p => decide (pt t p (hgt rows) (wid rows) = p)).map pP) ⟨fun z => some_ne (List.map_eq_nil_iff.mp z), some_len⟩ (xs_cons (xd_var 0 rfl) (xs_cons (xd_var 5 rfl) xs_nil)) ?_)
      (xa_cons (Sa := anyT) (St := fun as => as = []) (xe_callK h_turn lv () trivial (xs_cons (xd_var 0 rfl) xs_nil) fun z hz => hz) xa_nil fun a as ⟨u, e⟩ e2 => ⟨u, by rw [e, e2]⟩) fun a as ⟨p, hp, e⟩ ⟨u, e2⟩ => ⟨p, u, hp, by rw [e, e2]⟩) ?_) xd_str0 ?_ ?_) ?_
  · rintro z ⟨dd, hd, e⟩
    obtain ⟨p, hp, rfl⟩ := List.mem_map.mp hd
    obtain ⟨h1, h2⟩ := List.mem_filter.mp hp
    exact ⟨p, ⟨h1, of_decide_eq_true h2⟩, e⟩
  · rintro as ⟨p, u, hp, rfl⟩
    exact ⟨[pP p, pT u], rfl, ⟨p, u, hp, rfl⟩, Nat.le_of_ble_eq_true rfl⟩
  · exact Nat.le_of_ble_eq_true rfl
  · rintro a ⟨p, u, hp, rfl⟩
    exact ⟨p, u, hp, rfl⟩
  rintro Z ⟨p, u, ⟨hp1, hp2⟩, rfl⟩
  generalize eso : some (Ab.dat (.list (((spots rows OPEN).filter fun p => decide (pt t p (hgt rows) (wid rows) = p)).map pP))) = so
  refine xp_then (A' := klA t (some (.dat (.int (hgt rows)))) (some (.dat (.int (wid rows)))) so (some (.dat (.list ((ownT t).map pT)))) rows (some (p, u)) bk0 ws)
    (xq_setC 7 (Xo.lst (xo_lc (List.finRange 8) (fun v => [Ab.dat (pT v)]) (fun v => decide (cm (cm (inv t) v) t = v)) pT [("_law_one_here", 8)] (xi_eq (xi_list (xd_lst (ds := turns8) (xs_cons (xd_str [117, 114, 100, 108]) (xs_cons (xd_str [114, 100, 108, 117]) (xs_cons (xd_str [100, 108, 117, 114]) (xs_cons (xd_str [108, 117, 114, 100]) (xs_cons (xd_str [117, 108, 100, 114]) (xs_cons (xd_str [100, 114, 117, 108]) (xs_cons (xd_str [108, 100, 114, 117]) (xs_cons (xd_str [114, 117, 108, 100]) xs_nil)))))))) (Nat.le_of_ble_eq_true rfl))) ?_) (by decide)
      (fun v _ => ⟨_, xg_name 8 (hi := off_kl), xts_one (xt_c (Xdc_as (xc_eqS (xd_call h_both lv (cm (inv t) v, t) trivial (xs_cons (xd_call h_both lv (inv t, v) trivial (xs_cons (xd_call h_undone lv t trivial (xs_cons (xd_var 1 rfl) xs_nil) rfl) (xs_cons (xd_var 8 rfl) xs_nil)) rfl) (xs_cons (xd_var 1 rfl) xs_nil)) rfl) (xd_var 8 rfl)) ?_)), fun _ => xd_var 8 rfl⟩) (hoff := ?_))) rfl (hi := off_kl)) ?_
  · unfold its1
    rw [List.map_map, List.map_map]
    rfl
  · rw [Bool.eq_iff_iff, decide_eq_true_iff, decide_eq_true_iff]
    exact ⟨fun z => tt_inj _ _ z, fun z => by rw [z]⟩
  · exact fun i hi => by
      rw [List.mem_singleton.mp hi]
      exact off_kl
  refine xp_cons (Mid := fun Z => ∃ bk, DrOk rows bk ws ∧ Z = klA t (some (.dat (.int (hgt rows)))) (some (.dat (.int (wid rows)))) so (some (.dat (.list ((ownT t).map pT)))) rows (some (p, u)) bk ws)
    (xq_if (T := fun _ => True) (xt_cS (xc_eqA (xe_callK h_take lv 2 ⟨by omega, by omega⟩ (xs_cons (xd_var 0 rfl) (xs_cons xd_int xs_nil)) fun z ⟨i, e, _⟩ => ⟨i, e⟩) xd_int) fun z ⟨r, hr⟩ => ⟨r, hr, trivial⟩) (fun _ => ?_) (fun _ => xp_nil ⟨bk0, d0, rfl⟩)) ?_
  · refine xp_one (xq_ownPut 2 rfl (xe_dictP (P := fun bk => bk.map Prod.fst = letters rows) (Xo.lstS (T := fun _ => True) (xo_lcS (Sx := fun its => its = itsK bk0) [("_law_letter", 9)] (fun its i ds => ∃ bk : List (Nat × T8), bk.map Prod.fst = (bk0.map Prod.fst).take i ∧ ds = bk.map fun p => .tuple [pS [p.1], pT p.2]) (xi_keys (xd_ownGet 2 rfl xd_str0 land_get.2.2.1)) ?_ ?_ (hoff := ?_)) ?_) ?_) xd_str0 ?_ ?_)
    · rintro its rfl
      refine ⟨⟨[], by rw [List.take_zero]; rfl, rfl⟩, ?_⟩
      unfold itsK
      rw [List.length_map]
      have e1 := congrArg List.length d0.b
      rw [List.length_map] at e1
      have : (letters rows).length ≤ 4 := List.length_filter_le ..
      omega
    · rintro its i it ds rfl hit ⟨bk, hb, rfl⟩
      obtain ⟨⟨c, v⟩, hc, _, rfl⟩ := map_get hit
      refine ⟨_, true, xg_name 9 (hi := off_kl), xts_nil, fun _ => xe_tup (St := fun as => ∃ u : T8, as = [.dat (pS [c]), .dat (pT u)]) (xa_cons (Sa := fun a => a = .dat (pS [c])) (St := fun as => ∃ u : T8, as = [.dat (pT u)]) (xd_var 9 rfl) (xa_cons (Sa := anyT) (St := fun as => as = []) (xe_callK h_one lv ((ownT t).map pT) ⟨fun z => ?_, ?_⟩ (xs_cons (xd_var 0 rfl) (xs_cons (xd_var 7 rfl) xs_nil)) fun z ⟨dd, hd, e⟩ => ?_) xa_nil fun a as ⟨u, e⟩ e2 => ⟨u, by rw [e, e2]⟩) fun a as e ⟨u, e2⟩ => ⟨u, by rw [e, e2]⟩) ?_, nofun⟩
      · have z0 := ownT_zero t
        rw [List.map_eq_nil_iff.mp z] at z0
        cases z0
      · show ((ownT t).map pT).length ≤ 1000
        rw [List.length_map]
        exact Nat.le_trans (List.length_filter_le _ _) (by decide)
      · obtain ⟨v, _, rfl⟩ := List.mem_map.mp hd
        exact ⟨v, e⟩
      · rintro as ⟨v, rfl⟩
        refine ⟨[pS [c], pT v], rfl, ⟨_, rfl, bk ++ [(c, v)], ?_, by rw [List.map_append]; rfl⟩, Nat.le_of_ble_eq_true rfl⟩
        rw [List.map_append, hb, ← List.map_take, ← List.map_take, take_app hc, List.map_append]
        rfl
    · exact fun i hi => by
        rw [List.mem_singleton.mp hi]
        exact off_kl
    · rintro o ⟨its, ds, rfl, rfl, bk, hb, rfl⟩
      refine ⟨_, rfl, bk, ?_, rfl⟩
      rw [hb, d0.b]
      have e1 := congrArg List.length d0.b
      rw [List.length_map] at e1
      unfold itsK
      rw [List.length_map, e1, List.take_length]
    · intro bk hb
      rw [hb]
      exact letters_nodup _
    · exact Nat.le_of_ble_eq_true rfl
    · rintro a ⟨bk, hb, rfl⟩
      exact ⟨bk, ⟨hb, d0.w, d0.s⟩, rfl⟩
  rintro Z ⟨bk, d1, rfl⟩
  have l60 := d1.w.l
  refine xp_cons (Mid := fun Z => ∃ ws, DrOk rows bk ws ∧ Z = klA t (some (.dat (.int (hgt rows)))) (some (.dat (.int (wid rows)))) so (some (.dat (.list ((ownT t).map pT)))) rows (some (p, u)) bk ws)
    (xq_if (T := fun _ => True) (xt_cS (xc_eqA (xe_callK h_take lv 2 ⟨by omega, by omega⟩ (xs_cons (xd_var 0 rfl) (xs_cons xd_int xs_nil)) fun z ⟨i, e, _⟩ => ⟨i, e⟩) xd_int) fun z ⟨r, hr⟩ => ⟨r, hr, trivial⟩) (fun _ => ?_) (fun _ => xp_nil ⟨ws, d1, rfl⟩)) ?_
  · refine xp_one (xq_ownPut 2 rfl (S := fun a => a = .dat (.list ((ws.filter fun p => decide (pt t p (hgt rows) (wid rows) = p)).map pP))) (Xo.lst (xo_lc ws (fun p => [Ab.dat (pP p)]) (fun p => decide (pt t p (hgt rows) (wid rows) = p)) pP [("_law_spot", 6)] (xi_eq (xi_list (xd_ownGet 2 rfl xd_str0 land_get.2.2.2)) ?_) (by omega) (fun p hp => ⟨_, xg_name 6 (hi := off_kl), xts_one (xt_c (Xdc_as (xc_eqD (xd_call h_spun lv (t, p, (hgt rows : Int), (wid rows : Int)) ⟨?_, ?_⟩ (xs_cons (xd_var 1 rfl) (xs_cons (xd_var 6 rfl) (xs_cons (xd_var 3 rfl) (xs_cons (xd_var 4 rfl) xs_nil)))) rfl) (xd_var 6 rfl) (sh_ok (sh_pP _)) (sh_ok (sh_pP _))) (eqv_pP _ _))), fun _ => xd_var 6 rfl⟩) (hoff := ?_))) xd_str0 ?_ ?_)
    · unfold its1
      rw [List.map_map]
      rfl
    · have h1 : 1 ≤ hgt rows := F.h1
      show (1 : Int) ≤ (hgt rows : Int)
      omega
    · have w1 := F.w1
      show (1 : Int) ≤ (wid rows : Int)
      omega
    · exact fun i hi => by
        rw [List.mem_singleton.mp hi]
        exact off_kl
    · exact Nat.le_of_ble_eq_true rfl
    · rintro a rfl
      exact ⟨_, drOk_filter F d1 _, rfl⟩
  rintro Z ⟨ws2, d2, rfl⟩
  exact xp_pub (i := 2) rfl pub_land (xp_one (xq_retD (xd_var 2 rfl) ⟨rows, p, u, bk, ws2, rfl, K, hp1, hp2, d2⟩))
end
end Oh
set_option maxHeartbeats 4000000
/-! OjM: walk: the law. -/
namespace Oh
open PySem L2
section
variable {C : Ct} {A : AS} {a b e tg : Expr} {es : List Expr} {pos : Pos}
/-- [world, ..] -/
theorem isA_wls {K : PySem.W.Frag} {G : Hp} : ∀ {vs : List V} {ws : List Wd}, IsA K G vs (ws.map Ab.wor) → IsWs K G vs ws
  | [], [], _ => trivial
  | [], _ :: _, h => h.elim
  | _ :: _, [], h => h.elim
  | _ :: _, _ :: _, h => ⟨h.1, isA_wls h.2⟩
theorem xd_lstW {ws : List Wd} (h : Xs C es A (ws.map Ab.wor)) (hl : ws.length ≤ 100000 := by exact Nat.le_of_ble_eq_true rfl) : Xd C (.List es pos) A (.wls false ws) := by
  obtain ⟨t, h1, h2⟩ := h
  refine ⟨tLst t, fun X hX => pe_lst (h1 X hX), fun H0 σ G H x m Q q => h2 H0 σ G H x m _ fun vs G1 H1 as n1 s1 i1 => ?_⟩
  subst s1
  have hw := isA_wls i1
  exact ⟨small_le (by rw [isWs_len hw]; exact hl), fun p hp => q _ _ _ _ (n1.trans (Nx.new (o := .lst vs) n1.s hp)) rfl ⟨p, vs, rfl, SqL.of upd_same, isWs_up (Ex.new (n1.s.back hp)) hw⟩⟩
/-- a known list and one known in part -/
theorem xe_cat {ds : List PyData} {P : List PyData → Prop} (ha : Xd C a A (.nl ds)) (hb : Xe C b A (fun z => ∃ ds', z = .nl ds' ∧ P ds')) (hl : ∀ ds', P ds' → ds.length + ds'.length ≤ 100000) : Xe C (.BinOp a .Add b pos) A (fun z => ∃ ds', z = .nl (ds ++ ds') ∧ P ds') :=
  xe_bin (fun _ _ => op_cat) ha hb fun c d hc hd x y G H e i1 i2 Q q => by
    obtain ⟨ds', rfl, hP⟩ := hd
    subst hc
    obtain ⟨p, vs, rfl, h1, h2⟩ := i1
    obtain ⟨p', vs', rfl, h1', h2'⟩ := i2
    refine ⟨p, p', vs, vs', rfl, rfl, e.at_ _ _ trivial h1, e.at_ _ _ trivial h1', small_le (by rw [dps_len h2, dps_len h2']; exact hl ds' hP), fun r hr => ?_⟩
    exact q _ _ _ _ (Nx.new (o := .lst (vs ++ vs')) e hr) ⟨ds', rfl, hP⟩ ⟨r, _, rfl, upd_same, (Ex.new (e.back hr)).dps (dps_app h2 h2')⟩
theorem xi_listS {P : List PyData → Prop} (h : Xe C e A (fun z => ∃ ds, z = .nl ds ∧ P ds)) : Xi C tg e A (fun its => ∃ ds, P ds ∧ its = its1 ds) := by
  obtain ⟨te, h1, h2⟩ := h
  refine ⟨iList C.K te, fun X hX => by have q := pi_list (tg := tg) (h1 X hX); rw [hX.K] at q; exact q, fun H0 σ G H x m R q => h2 H0 σ G H x m _ fun v G1 H1 a n1 s1 i1 => ?_⟩
  obtain ⟨ds, rfl, hP⟩ := s1
  obtain ⟨l, vs, rfl, hs, hd⟩ := i1
  exact ⟨l, rfl, ⟨vs, SqL.of (n1.s.at_ _ _ trivial hs)⟩, q _ G1 H1 _ n1 ⟨ds, hP, rfl⟩ (src_dps walk_list (fun H e => SqL.of (e.at_ _ _ trivial hs)) hd)⟩
end
/-! ### plain -/
theorem strange_nil {t : T8} {bk : List (Nat × T8)} : decide ((strange t bk) = []) = decide (mrB t bk = bk) := by
  rw [Bool.eq_iff_iff, decide_eq_true_iff, decide_eq_true_iff]
  unfold strange mrB
  rw [List.map_eq_nil_iff, List.filter_eq_nil_iff]
  constructor
  · intro h
    have e : bk.map (fun z => (z.1, cm (cm (inv t) z.2) t)) = bk.map fun z => z := List.map_congr_left fun z hz => by
      have q := h z hz
      have q2 : spB t z.2 = z.2 := by simpa using q
      exact Prod.ext rfl q2
    rw [e, List.map_id']
  · intro h z hz
    have e : bk.map (fun z => (z.1, cm (cm (inv t) z.2) t)) = bk.map fun z => z := by rw [h, List.map_id']
    have q := List.map_inj_left.mp e z hz
    have q2 : spB t z.2 = z.2 := congrArg Prod.snd q
    simpa using q2
theorem cm_back (u t : T8) : cm (cm (cm u t) (inv u)) u = cm u t := by rw [cm_assoc, inv_cm, cm_zero]
theorem spots_can {rows : List (List Nat)} {p : Pl} (h : p ∈ spots rows OPEN) : canSt rows p = true ∧ p ∈ opens rows := by
  obtain ⟨h1, h2⟩ := mem_spots.mp h
  have hs : seen rows p = at2 rows p := by
    unfold seen
    rw [if_pos h1]
  refine ⟨?_, ?_⟩
  · unfold canSt
    rw [h1, hs, decide_eq_true (List.mem_append_left _ h2)]
    rfl
  · unfold opens
    exact List.mem_filter.mpr ⟨mem_places.mpr h1, by rw [hs]; exact decide_eq_true h2⟩
abbrev c_law : Con := conD (α := List Int) (fun l => l.length ≤ 63) (fun l => [.dat (.list (l.map PyData.int))]) (fun _ => .dat (.bool true))
section
variable {Γ : Ga} [Gx Γ]
theorem sc_law : FnScope ["_law_script", "_law_cell", "_law_source_here", "_law_sense_here", "_law_land_here", "_law_it", "_law_swing", "_law_about", "_law_far", "_law_near", "_law_letters", "_law_own", "_law_high", "_law_wide", "_law_wished", "_law_spot", "_law_hand", "_law_lines", "_law_line_here"] ["_law_script"] (defScope (top 82)) := ⟨rfl, rfl, rfl, by decide +kernel, rfl, by decide +kernel, by decide +kernel⟩
abbrev lwA (l : List Int) (f : Nat → Option Ab) : AS := ⟨[some (.dat (.list (l.map PyData.int))), f 1, f 2, f 3, f 4, f 5, f 6, f 7, f 8, f 9, f 10, f 11, f 12, f 13, f 14, f 15, f 16, f 17, f 18], none⟩
/-- the slots behind the first half of a turn; f: those that are not set yet -/
abbrev lwS (l : List Int) (cell : Int) (t u : T8) (rows : List (List Nat)) (p : Pl) (bk : List (Nat × T8)) (ws : List Pl) (it far near : Wd) (s12 s13 s14 s15 s16 s17 s18 : Option Ab) : AS :=
  ⟨[some (.dat (.list (l.map PyData.int))), some (.dat (.int cell)), some .src, some (.dat (pT t)), some (.land rows (some (p, u)) bk ws), some (.wor it), some (.dat (pT u)), some (.dat (pT (cm (cm u t) (inv u)))), some (.wor far), some (.wor near), some (.dat (.list ((strange t bk).map fun c => pS [c]))), some (.land rows (some (p, cm u t)) bk ws), s12, s13, s14, s15, s16, s17, s18], none⟩
theorem law_body (h_source : HasF Γ 1 "_law_source" c_source) (h_turn : HasF Γ 4 "_law_turn" c_sense) (h_kept_land : HasF Γ 6 "_law_kept_land" c_kept_land) (h_made : HasF Γ 11 "_law_made" c_made) (h_both : HasF Γ 2 "_law_both" c_then) (h_undone : HasF Γ 1 "_law_undone" c_back)
    (h_in_mirror : HasF Γ 12 "in_mirror" c_in_mirror) (h_hand_turned : HasF Γ 12 "hand_turned" c_hand_turned) (h_strange : HasF Γ 4 "_law_strange" c_strange) (h_kept_by : HasF Γ 8 "kept_by" c_kept_by) (h_floor : HasM Γ 1 (CW Γ.K) "floor" c_wfloor) (h_start : HasM Γ 1 (CW Γ.K) "start" c_wstart) (h_spun : HasF Γ 2 "_law_spun" c_lspun)
    (h_weq : HasM Γ 3 (CW Γ.K) "__eq__" c_weq) (h_Hand : HasI Γ 2 (CH Γ.K) ci_Hand) (h_line : HasF Γ 4 "_law_line" c_lline) (h_lineTo : HasF Γ 4 "_law_line_to" c_lineTo) (h_right : HasF Γ 12 "_law_right" c_right) (l : List Int) (hl : l.length ≤ 63) :
    Xp ⟨Γ, ["_law_script", "_law_cell", "_law_source_here", "_law_sense_here", "_law_land_here", "_law_it", "_law_swing", "_law_about", "_law_far", "_law_near", "_law_letters", "_law_own", "_law_high", "_law_wide", "_law_wished", "_law_spot", "_law_hand", "_law_lines", "_law_line_here"], defScope (top 82), 12, fun _ => true⟩ (defBody (top 82)) (AS.of ["_law_script", "_law_cell", "_law_source_here", "_law_sense_here", "_law_land_here", "_law_it", "_law_swing", "_law_about", "_law_far", "_law_near", "_law_letters", "_law_own", "_law_high", "_law_wide", "_law_wished", "_law_spot", "_law_hand", "_law_lines", "_law_line_here"] (c_law.args l)) ⟨fun _ => c_law.res l (.dat .none), c_law.res l, fun _ => False, fun _ => False⟩ := by
  refine xp_cons (Mid := fun Z => True) (xq_for [1] (fun i Z => ∃ f, Z = lwA l f) (its := its1 ((l.take 4 ++ [0]).map PyData.int)) (xi_eq (xi_list (xd_nl (xn_cat (xn_to (k := 4) (xd_var 0 rfl) xd_int) (xn_lst (ds := [.int 0]) (xs_cons xd_int xs_nil)) ?_))) ?_) ⟨fun _ => none, rfl⟩ ?_ (fun _ _ => trivial)) fun Z _ => xp_one (xq_retD xd_bl rfl)
  · rw [List.length_take, List.length_map]
    simp only [List.length_singleton]
    omega
  · rw [List.map_append, List.map_take]
    rfl
  rintro i it Z hit ⟨f, rfl⟩
  obtain ⟨dc, hd1, _, rfl⟩ := map_get hit
  obtain ⟨cell, _, _, rfl⟩ := map_get hd1
  refine ⟨_, xg_name 1, ?_⟩
  refine xp_then (xq_setD 2 (xd_call h_source lv cell trivial (xs_cons (xd_var 1 rfl) xs_nil) rfl) rfl) ?_
  refine xp_cons (Mid := fun Z => ∃ t : T8, Z = lwA l fun n => ([none, some (.dat (.int cell)), some .src, some (.dat (pT t))] : List (Option Ab)).getD n (f n)) (xq_set 3 (xe_callK h_turn lv () trivial (xs_cons (xd_var 2 rfl) xs_nil) fun z hz => hz) fun z ⟨t, e⟩ => ⟨t, by rw [e]; rfl⟩) ?_
  rintro Z ⟨t, rfl⟩
  refine xp_cons (Mid := fun Z => ∃ rows p u bk ws, KlOk t rows p bk ws ∧ Z = lwA l fun n => ([none, some (.dat (.int cell)), some .src, some (.dat (pT t)), some (.land rows (some (p, u)) bk ws)] : List (Option Ab)).getD n (f n)) (xq_set 4 (xe_callK h_kept_land lv t trivial (xs_cons (xd_var 2 rfl) (xs_cons (xd_var 3 rfl) xs_nil)) fun z hz => hz) fun z ⟨rows, p, u, bk, ws, e, K⟩ => ⟨rows, p, u, bk, ws, K, by rw [e]; rfl⟩) ?_
  rintro Z ⟨rows, p, u, bk, ws, O, rfl⟩
  have F := O.k.f
  have f3 := F.w2
  obtain ⟨hcan, hopen⟩ := spots_can O.o
  have FW : FwOk rows p bk ws := ⟨F, hopen, O.d.b, O.d.w⟩
  have hit : wdN rows p u bk ws = ⟨rows, bk, ws, p, some (p, u)⟩ := by
    unfold wdN
    rw [O.d.s]
  have BG : BgOk (wdN rows p u bk ws) := ⟨by rw [hit]; exact FW, by rw [hit]; exact O.d.s⟩
  refine xp_then (xq_setD 5 (xd_call h_made lv (rows, p, u, bk, ws) FW (xs_cons (xd_var 4 rfl) xs_nil) rfl) rfl) ?_
  refine xp_then (xq_setD 6 (xd_ixT (ds := [pP p, pT u]) (Xe.as (c := .dat (pSd (some (p, u)))) (xd_lStart (xd_var 4 rfl)) rfl) xd_int (atI_nat (j := 1) rfl)) rfl) ?_
  refine xp_then (xq_setD 7 (xd_call h_both lv (cm u t, inv u) trivial (xs_cons (xd_call h_both lv (u, t) trivial (xs_cons (xd_var 6 rfl) (xs_cons (xd_var 3 rfl) xs_nil)) rfl) (xs_cons (xd_call h_undone lv u trivial (xs_cons (xd_var 6 rfl) xs_nil) rfl) xs_nil)) rfl) rfl) ?_
  generalize eFar : mrW t (wdN rows p u bk ws) = far
  generalize eNear : ({ wdN rows p u bk ws with first := hdT (wdN rows p u bk ws).first (cm (cm u t) (inv u)) } : Wd) = near
  have far_is : far = ⟨rows, mrB t bk, sP (ws.map fun p => pt t p (hgt rows) (wid rows)), (opens rows).headD (0, 0), some (p, cm u t)⟩ := by
    rw [← eFar, hit]
    unfold mrW stP
    simp only [Option.map_some, O.e]
  have near_is : near = ⟨rows, bk, ws, p, some (p, cm u t)⟩ := by
    rw [← eNear, hit]
    unfold hdT
    simp only [Option.map_some, cm_back]
  refine xp_then (xq_parD 8 9 (a := .wor far) (b := .wor near) (xs_cons (xd_call h_in_mirror lv (wdN rows p u bk ws, t) ⟨BG, by rw [hit]; exact O.k.k, by rw [hit]; exact hcan⟩ (xs_cons (xd_var 5 rfl) (xs_cons (xd_var 3 rfl) xs_nil)) (by rw [eFar])) (xs_cons (xd_call h_hand_turned lv (wdN rows p u bk ws, cm (cm u t) (inv u)) ⟨BG, by rw [hit]; exact hcan⟩ (xs_cons (xd_var 5 rfl) (xs_cons (xd_var 7 rfl) xs_nil)) (by rw [← eNear])) xs_nil)) rfl) ?_
  have LO : LdOk ⟨rows, some (p, u), bk, ws⟩ := ⟨F, O.d.b⟩
  have LO2 : LdOk ⟨rows, some (p, cm u t), bk, ws⟩ := ⟨F, O.d.b⟩
  refine xp_then (xq_setD 10 (xd_call h_strange lv (⟨rows, some (p, u), bk, ws⟩, t) LO (xs_cons (xd_var 4 rfl) (xs_cons (xd_var 3 rfl) xs_nil)) rfl) rfl) ?_
  refine xp_then (xq_ownD 11 (xo_dictL (xd_var 4 rfl)) rfl) ?_
  refine xp_then (xq_ownPut 11 rfl (S := fun a => a = .dat (pSd (some (p, cm u t)))) (Xe.as (xd_tup (ds := [pP p, pT (cm (cm (cm u t) (inv u)) u)]) (xs_cons (xd_ixT (ds := [pP p, pT u]) (Xe.as (c := .dat (pSd (some (p, u)))) (xd_lStart (xd_var 4 rfl)) rfl) xd_int (atI_nat (j := 0) rfl)) (xs_cons (xd_call h_both lv (cm (cm u t) (inv u), u) trivial (xs_cons (xd_var 7 rfl) (xs_cons (xd_var 6 rfl) xs_nil)) rfl) xs_nil))) (by rw [cm_back]; rfl)) xd_str0 (Nat.le_of_ble_eq_true rfl) (fun a e => by rw [e])) ?_
  refine xp_pub (i := 11) (a := .land rows (some (p, cm u t)) bk ws) rfl pub_land ?_
  show Xp _ _ (lwS l cell t u rows p bk ws (wdN rows p u bk ws) far near (f 12) (f 13) (f 14) (f 15) (f 16) (f 17) (f 18)) _
  have kin : tt t ∈ (keeps rows).map tt := List.mem_map.mpr ⟨t, List.mem_filter.mpr ⟨List.mem_finRange t, decide_eq_true O.k.k⟩, rfl⟩
  have fF : far.first = some (p, cm u t) := by rw [far_is]
  have fN : near.first = some (p, cm u t) := by rw [near_is]
  have ss : ∀ s : Sd, SeqAt.shaped (pSd s) = true := fun s => sh_ok (sh_pSd s)
  refine xp_then (xq_ifB (xt_w (xw_or (xt_c (xc_ninT (ls := (keeps rows).map tt) (xd_var 3 rfl) (xd_call h_kept_by lv rows F (xs_cons (xd_meth0 h_floor lv Gx.clW (xd_var 5 rfl) ins_wor (wdN rows p u bk ws) trivial rfl rfl) xs_nil) rfl) (by show some _ = some _; rw [List.map_map]; rfl))) fun _ => (xw_or (xt_c (xc_neD (xd_meth0 h_start lv Gx.clW (xd_var 8 rfl) ins_wor far trivial rfl rfl) (xd_lStart (xd_var 11 rfl)) (ss _) (ss _))) fun _ => (xw_or1 (xt_c (xc_neD (xd_meth0 h_start lv Gx.clW (xd_var 9 rfl) ins_wor near trivial rfl rfl) (xd_lStart (xd_var 11 rfl)) (ss _) (ss _))))))) (fun hT => ?_) (fun _ => xp_nil rfl)) ?_
  · rw [eqv_pSd, eqv_pSd, fF, fN, decide_eq_true kin, decide_eq_true rfl] at hT
    cases hT
  refine xp_then (A' := lwS l cell t u rows p bk ws (wdN rows p u bk ws) far near (some (.dat (.int (hgt rows)))) (some (.dat (.int (wid rows)))) (f 14) (f 15) (f 16) (f 17) (f 18)) (xq_parC 12 13 (St := fun as => as = [.dat (.int (hgt rows)), .dat (.int (wid rows))]) (xs_cons (Xe.as (xd_len (xd_lRows (xd_var 4 rfl)) rfl) (by rw [List.length_map]; rfl)) (xs_cons (xd_lenS (xd_ixL (xd_lRows (xd_var 4 rfl)) xd_int (headD_at F)) (by show wid rows ≤ _; omega)) xs_nil)) (fun as e => ⟨_, _, e, rfl⟩)) ?_
  have W2 : WsOk rows (ws.map fun q => pt t q (hgt rows) (wid rows)) := wsOk_pt F O.k.k O.d.w
  have l60 := O.d.w.l
  refine xp_then (A' := lwS l cell t u rows p bk ws (wdN rows p u bk ws) far near (some (.dat (.int (hgt rows)))) (some (.dat (.int (wid rows)))) (some (.dat (.list ((sP (ws.map fun q => pt t q (hgt rows) (wid rows))).map pP)))) (f 15) (f 16) (f 17) (f 18)) (xq_setD 14 (xd_nl (xn_sorted (ps := ws.map fun q => pt t q (hgt rows) (wid rows)) (Xo.lst (xo_lc ws (fun q => [Ab.dat (pP q)]) (fun _ => true) (fun q => pP (pt t q (hgt rows) (wid rows))) [("_law_spot", 15)] (xi_eq (xi_list (xd_lWished (xd_var 4 rfl))) (by unfold its1; rw [List.map_map]; rfl)) (by omega) (fun q hq => ⟨_, xg_name 15, xts_nil, fun _ => xd_call h_spun lv (t, q, (hgt rows : Int), (wid rows : Int)) ⟨?_, ?_⟩ (xs_cons (xd_var 3 rfl) (xs_cons (xd_var 15 rfl) (xs_cons (xd_var 12 rfl) (xs_cons (xd_var 13 rfl) xs_nil)))) rfl⟩))) ?_ ?_ ?_)) rfl) ?_
  · have h1 : 1 ≤ hgt rows := F.h1
    show (1 : Int) ≤ (hgt rows : Int)
    omega
  · have w1 := F.w1
    show (1 : Int) ≤ (wid rows : Int)
    omega
  · show some _ = some _
    rw [filt, List.map_map]
    rfl
  · exact fun z hz => in64 F (W2.i z hz)
  · rw [List.length_map]
    omega
  have EQ : EqOk far near := by
    rw [far_is, near_is]
    exact ⟨F, F, rfl, by rw [mrB_fst]; exact O.d.b, O.d.b⟩
  have judged : (decide (far.book = near.book) && (decide (far.goals = near.goals) && decide (far.first = near.first))) = (decide (strange t bk = []) && decide (sP (ws.map fun q => pt t q (hgt rows) (wid rows)) = ws)) := by
    rw [strange_nil, fF, fN, far_is, near_is]
    simp only [decide_true, Bool.and_true]
  have sl : ∀ ls : List Nat, (∀ c ∈ ls, c < 1000) → SeqAt.shaped (.list (ls.map fun c => pS [c])) = true := fun ls h => sh_ok (sh_list (k := 0) (sh_map fun c hc => sh_txt fun d hd => by rw [List.mem_singleton.mp hd]; exact h c hc))
  have slt : ∀ c ∈ strange t bk, c < 1000 := fun c hc => by
    unfold strange at hc
    obtain ⟨z, hz, rfl⟩ := List.mem_map.mp hc
    have hz2 : z.1 ∈ letters rows := by
      rw [← O.d.b]
      exact List.mem_map.mpr ⟨z, (List.mem_filter.mp hz).1, rfl⟩
    have hz3 := (List.mem_filter.mp hz2).1
    have : ∀ c ∈ LETTERS, c < 1000 := by decide
    exact this _ hz3
  have sp : ∀ ps : List Pl, SeqAt.shaped (.list (ps.map pP)) = true := fun ps => sh_ok (sh_list (k := 1) (sh_map fun q _ => sh_pP q))
  have e1S : ∀ a b : Nat, PyData.eqv (pS [a]) (pS [b]) = decide (a = b) := fun a b => by
    rw [eqv_pS]
    simp
  refine xp_then (xq_ifB (xt_c (xc_neB (i := decide (far.book = near.book) && (decide (far.goals = near.goals) && decide (far.first = near.first))) (k := decide (strange t bk = []) && decide (sP (ws.map fun q => pt t q (hgt rows) (wid rows)) = ws))
    (Xc.e (xc_own h_weq boolD lv (xd_var 8 rfl) (xd_var 9 rfl) (far, near) EQ rfl ins_wor ins_wor (fun z e => ?_)))
    (xd_and (i := decide (strange t bk = [])) (k := decide (sP (ws.map fun q => pt t q (hgt rows) (wid rows)) = ws)) (Xc.e (Xdc_as (xc_eqD (xd_var 10 rfl) (xd_lst (ds := []) xs_nil) (sl _ slt) (sl [] (fun c hc => absurd hc List.not_mem_nil))) ?_)) fun _ => (xe_one (Xc.e (Xdc_as (xc_eqD (xd_var 14 rfl) (xd_lWished (xd_var 4 rfl)) (sp _) (sp _)) (eqv_list eqv_pP _ _))))))) (fun hT => ?_) (fun _ => xp_nil rfl)) ?_
  · have e' : Ab.dat (.bool z) = .dat (.bool (decide (far.book = near.book) && (decide (far.goals = near.goals) && decide (far.first = near.first)))) := e
    cases e'
    rfl
  · exact eqv_list (f := fun c => pS [c]) e1S (strange t bk) []
  · rw [judged, decide_eq_true rfl] at hT
    cases hT
  have hpre : ci_Hand.pre [far, near] := ⟨by show 1 ≤ 2; omega, by show 2 ≤ 4; omega⟩
  refine xp_then (A' := lwS l cell t u rows p bk ws (wdN rows p u bk ws) far near (some (.dat (.int (hgt rows)))) (some (.dat (.int (wid rows)))) (some (.dat (.list ((sP (ws.map fun q => pt t q (hgt rows) (wid rows))).map pP)))) (f 15) (some (.han [far, near])) (f 17) (f 18)) (xq_setD 16 ((xo_make h_Hand Gx.mgH lv [far, near] hpre (xs_cons (xd_lstW (ws := [far, near]) (xs_cons (xd_var 8 rfl) (xs_cons (xd_var 9 rfl) xs_nil))) xs_nil)).xe (T := fun z => z = .han [far, near]) fun o ⟨y, e⟩ => ⟨_, by rw [e]; exact pub_han, rfl⟩) rfl) ?_
  have sn : (strange t bk).length ≤ 4 := strange_len LO
  have ltd : ∀ n : Nat, n ≤ 100 → c_lineTo.pre (⟨rows, some (p, cm u t), bk, ws⟩, strange t bk, n) := fun n hn => ⟨LO2, hcan, by show (strange t bk).length ≤ 100; omega, hn⟩
  refine xp_cons (Mid := fun Z => ∃ rs : List (List D4), (rs.length = 3 ∧ ∀ r ∈ rs, r.length ≤ 100) ∧ Z = lwS l cell t u rows p bk ws (wdN rows p u bk ws) far near (some (.dat (.int (hgt rows)))) (some (.dat (.int (wid rows)))) (some (.dat (.list ((sP (ws.map fun q => pt t q (hgt rows) (wid rows))).map pP)))) (f 15) (some (.han [far, near])) (some (.nl (rs.map fun r => pS (rw4 r)))) (f 18)) (xq_set 17 (S := fun z => ∃ rs : List (List D4), (rs.length = 3 ∧ ∀ r ∈ rs, r.length ≤ 100) ∧ z = .nl (rs.map fun r => pS (rw4 r))) (xe_nl (St := fun as => ∃ r1 r2 r3 : List D4, (r1.length ≤ 100 ∧ r2.length ≤ 100 ∧ r3.length ≤ 100) ∧ as = [.dat (pS (rw4 r1)), .dat (pS (rw4 r2)), .dat (pS (rw4 r3))])
    (xa_cons (Sa := rowOf 40) (St := fun as => ∃ r2 r3 : List D4, (r2.length ≤ 100 ∧ r3.length ≤ 100) ∧ as = [.dat (pS (rw4 r2)), .dat (pS (rw4 r3))]) (xe_callK h_line lv 40 (by decide) (xs_cons (xd_var 2 rfl) (xs_cons xd_int xs_nil)) fun z hz => hz)
      (xa_cons (Sa := rowOf 24) (St := fun as => ∃ r3 : List D4, r3.length ≤ 100 ∧ as = [.dat (pS (rw4 r3))]) (xe_callK h_lineTo lv (⟨rows, some (p, cm u t), bk, ws⟩, strange t bk, 24) (ltd 24 (by omega)) (xs_cons (xd_var 2 rfl) (xs_cons (xd_var 11 rfl) (xs_cons (xd_var 10 rfl) (xs_cons xd_int xs_nil)))) fun z hz => hz)
        (xa_cons (Sa := rowOf 9) (St := fun as => as = []) (xe_callK h_line lv 9 (by decide) (xs_cons (xd_var 2 rfl) (xs_cons xd_int xs_nil)) fun z hz => hz) xa_nil ?_) ?_) ?_) ?_) ?_) ?_
  · rintro c cs ⟨r, hr, e⟩ e2
    exact ⟨r, by omega, by rw [e, e2]⟩
  · rintro c cs ⟨r, hr, e⟩ ⟨r3, h3, e2⟩
    exact ⟨r, r3, ⟨by omega, h3⟩, by rw [e, e2]⟩
  · rintro c cs ⟨r, hr, e⟩ ⟨r2, r3, h3, e2⟩
    exact ⟨r, r2, r3, ⟨by omega, h3⟩, by rw [e, e2]⟩
  · rintro as ⟨r1, r2, r3, ⟨q1, q2, q3⟩, rfl⟩
    refine ⟨[pS (rw4 r1), pS (rw4 r2), pS (rw4 r3)], rfl, ⟨[r1, r2, r3], ⟨rfl, fun r hr => ?_⟩, rfl⟩, Nat.le_of_ble_eq_true rfl⟩
    have hr : r = r1 ∨ r = r2 ∨ r = r3 := by simpa using hr
    rcases hr with e | e | e
    · rw [e]; exact q1
    · rw [e]; exact q2
    · rw [e]; exact q3
  · rintro z ⟨rs, hrs, rfl⟩
    exact ⟨rs, hrs, rfl⟩
  rintro Z ⟨rs, ⟨hr3, hrs⟩, rfl⟩
  refine xp_one (xq_forS (Sx := fun its => ∃ ds, (∃ rs2 : List (List D4), (rs2.length = 4 ∧ ∀ r ∈ rs2, r.length ≤ 100) ∧ ds = rs2.map fun r => pS (rw4 r)) ∧ its = its1 ds) [18] (fun its i Z => ∃ z, Z = lwS l cell t u rows p bk ws (wdN rows p u bk ws) far near (some (.dat (.int (hgt rows)))) (some (.dat (.int (wid rows)))) (some (.dat (.list ((sP (ws.map fun q => pt t q (hgt rows) (wid rows))).map pP)))) (f 15) (some (.han [far, near])) (some (.nl (rs.map fun r => pS (rw4 r)))) z)
    (xi_listS (P := fun ds => ∃ rs2 : List (List D4), (rs2.length = 4 ∧ ∀ r ∈ rs2, r.length ≤ 100) ∧ ds = rs2.map fun r => pS (rw4 r)) ((xe_cat (ds := rs.map fun r => pS (rw4 r)) (P := fun ds => ∃ r : List D4, r.length ≤ 12 ∧ ds = [pS (rw4 r)]) (xd_var 17 rfl) (xe_nl (St := fun as => ∃ r : List D4, r.length ≤ 12 ∧ as = [.dat (pS (rw4 r))]) (xa_cons (Sa := rowOf 12) (St := fun as => as = []) (xe_callK h_lineTo lv (⟨rows, some (p, cm u t), bk, ws⟩, strange t bk, 12) (ltd 12 (by omega)) (xs_cons (xd_var 2 rfl) (xs_cons (xd_var 11 rfl) (xs_cons (xd_var 10 rfl) (xs_cons xd_int xs_nil)))) fun z hz => hz) xa_nil ?_) ?_) ?_).imp ?_)) ?_ ?_ ?_)
  · rintro c cs ⟨r, hr, e⟩ e2
    exact ⟨r, hr, by rw [e, e2]⟩
  · rintro as ⟨r, hr, rfl⟩
    exact ⟨[pS (rw4 r)], rfl, ⟨_, rfl, r, hr, rfl⟩, Nat.le_of_ble_eq_true rfl⟩
  · rintro ds' ⟨r, hr, rfl⟩
    rw [List.length_map, hr3]
    exact Nat.le_of_ble_eq_true rfl
  · rintro z ⟨ds', rfl, r, hr, rfl⟩
    refine ⟨_, rfl, rs ++ [r], ⟨by rw [List.length_append, hr3]; rfl, fun y hy => ?_⟩, by rw [List.map_append]; rfl⟩
    rcases List.mem_append.mp hy with h | h
    · exact hrs y h
    · rw [List.mem_singleton.mp h]
      omega
  · rintro its _
    exact ⟨f 18, rfl⟩
  · rintro its i it Z ⟨ds, ⟨rs2, ⟨_, hrs2⟩, rfl⟩, rfl⟩ hit ⟨z18, rfl⟩
    obtain ⟨dd, hdd, _, rfl⟩ := map_get hit
    obtain ⟨r, hr1, hr2, rfl⟩ := map_get hdd
    have hr100 := hrs2 r hr2
    refine ⟨_, xg_name 18, xp_one (xq_ifB (xt_not (xt_v (xd_call h_right lv ⟨far, near, ⟨rows, some (p, cm u t), bk, ws⟩, t, r⟩ ⟨LO2, hcan, by rw [far_is], by rw [near_is], by rw [far_is]; rfl, by rw [near_is], by rw [far_is], by rw [near_is], hr100⟩ (xs_cons (xd_var 16 rfl) (xs_cons (xd_var 11 rfl) (xs_cons (xd_var 10 rfl) (xs_cons (xd_var 18 rfl) xs_nil)))) rfl))) (fun hT => by cases hT) (fun _ => xp_nil ?_))⟩
    exact ⟨some (.dat (pS (rw4 r))), rfl⟩
  · rintro its Z _ ⟨z18, rfl⟩
    exact ⟨fun n => (lwS l cell t u rows p bk ws (wdN rows p u bk ws) far near (some (.dat (.int (hgt rows)))) (some (.dat (.int (wid rows)))) (some (.dat (.list ((sP (ws.map fun q => pt t q (hgt rows) (wid rows))).map pP)))) (f 15) (some (.han [far, near])) (some (.nl (rs.map fun r => pS (rw4 r)))) z18).ts.getD n none, rfl⟩
end
end Oh
set_option maxHeartbeats 0
/-! OkA: the head: the top run, with what the proof asks of it. -/
namespace Oh
open PySem L2
def nams0 : List PySem.Str := ["_wall", "HandError", "NoTurn", "NoRow", "NoFloor", "NoPlace", "NoWorld", "NoStand", "NoHand", "is_whole", "is_from", "is_place", "DEEDS", "TURNS", "is_turn", "want_turn", "want_row", "want_deed", "way", "row_turned", "then", "back", "place_turned", "WALL", "ICE", "PIT", "LETTERS", "OPEN", "SIGNS", "MOST"]
def nams1 : List PySem.Str := ["STEPS", "is_text", "want_rows", "next_to", "Floor", "is_stand", "is_book", "are_wishes", "first_wrong", "World", "kept_by", "stand_pictured", "in_mirror", "hand_turned", "MOST_WORLDS", "are_worlds", "Hand", "_law_mixed", "_law_source", "_law_take", "_law_one", "_law_sense", "_law_spots", "_law_land", "_law_made", "_law_sign", "_law_goes", "_law_becomes", "_law_behind", "_law_gone"]
def nams2 : List PySem.Str := ["_law_line", "_law_both", "_law_undone", "_law_spun", "_law_rows_spun", "_law_post_spun", "_law_book_spun", "_law_turn", "_law_kept_rows", "_law_kept_land", "_law_strange", "_law_first_coming", "_law_line_to", "_law_right"]
def nams : List PySem.Str := nams0 ++ nams1 ++ nams2
def s_is_whole : Stmt := top 11
def d_is_whole : He.DefD := ⟨("is_whole", none), "is_whole", "is_whole", defArgs s_is_whole, defBody s_is_whole, defScope s_is_whole, [], []⟩
def s_is_from : Stmt := top 12
def d_is_from : He.DefD := ⟨("is_from", none), "is_from", "is_from", defArgs s_is_from, defBody s_is_from, defScope s_is_from, [], []⟩
def s_is_place : Stmt := top 13
def d_is_place : He.DefD := ⟨("is_place", none), "is_place", "is_place", defArgs s_is_place, defBody s_is_place, defScope s_is_place, [], []⟩
def s_is_turn : Stmt := top 17
def d_is_turn : He.DefD := ⟨("is_turn", none), "is_turn", "is_turn", defArgs s_is_turn, defBody s_is_turn, defScope s_is_turn, [], []⟩
def s_want_turn : Stmt := top 18
def d_want_turn : He.DefD := ⟨("want_turn", none), "want_turn", "want_turn", defArgs s_want_turn, defBody s_want_turn, defScope s_want_turn, [], []⟩
def s_want_row : Stmt := top 19
def d_want_row : He.DefD := ⟨("want_row", none), "want_row", "want_row", defArgs s_want_row, defBody s_want_row, defScope s_want_row, [], []⟩
def s_want_deed : Stmt := top 20
def d_want_deed : He.DefD := ⟨("want_deed", none), "want_deed", "want_deed", defArgs s_want_deed, defBody s_want_deed, defScope s_want_deed, [], []⟩
def s_way : Stmt := top 21
def d_way : He.DefD := ⟨("way", none), "way", "way", defArgs s_way, defBody s_way, defScope s_way, [], []⟩
def s_row_turned : Stmt := top 22
def d_row_turned : He.DefD := ⟨("row_turned", none), "row_turned", "row_turned", defArgs s_row_turned, defBody s_row_turned, defScope s_row_turned, [], []⟩
def s_then : Stmt := top 23
def d_then : He.DefD := ⟨("then", none), "then", "then", defArgs s_then, defBody s_then, defScope s_then, [], []⟩
def s_back : Stmt := top 24
def d_back : He.DefD := ⟨("back", none), "back", "back", defArgs s_back, defBody s_back, defScope s_back, [], []⟩
def s_place_turned : Stmt := top 25
def d_place_turned : He.DefD := ⟨("place_turned", none), "place_turned", "place_turned", defArgs s_place_turned, defBody s_place_turned, defScope s_place_turned, [], []⟩
def s_is_text : Stmt := top 35
def d_is_text : He.DefD := ⟨("is_text", none), "is_text", "is_text", defArgs s_is_text, defBody s_is_text, defScope s_is_text, [], []⟩
def s_want_rows : Stmt := top 36
def d_want_rows : He.DefD := ⟨("want_rows", none), "want_rows", "want_rows", defArgs s_want_rows, defBody s_want_rows, defScope s_want_rows, [], []⟩
def s_next_to : Stmt := top 37
def d_next_to : He.DefD := ⟨("next_to", none), "next_to", "next_to", defArgs s_next_to, defBody s_next_to, defScope s_next_to, [], []⟩
def s_Floor_init : Stmt := inClass (top 38) 0
def d_Floor_init : He.DefD := ⟨("Floor", some "__init__"), "__init__", "Floor.__init__", defArgs s_Floor_init, defBody s_Floor_init, defScope s_Floor_init, [], []⟩
def s_Floor_eq : Stmt := inClass (top 38) 1
def d_Floor_eq : He.DefD := ⟨("Floor", some "__eq__"), "__eq__", "Floor.__eq__", defArgs s_Floor_eq, defBody s_Floor_eq, defScope s_Floor_eq, [], []⟩
def s_Floor_rows : Stmt := inClass (top 38) 3
def d_Floor_rows : He.DefD := ⟨("Floor", some "rows"), "rows", "Floor.rows", defArgs s_Floor_rows, defBody s_Floor_rows, defScope s_Floor_rows, [], []⟩
def s_Floor_size : Stmt := inClass (top 38) 4
def d_Floor_size : He.DefD := ⟨("Floor", some "size"), "size", "Floor.size", defArgs s_Floor_size, defBody s_Floor_size, defScope s_Floor_size, [], []⟩
def s_Floor_has : Stmt := inClass (top 38) 5
def d_Floor_has : He.DefD := ⟨("Floor", some "has"), "has", "Floor.has", defArgs s_Floor_has, defBody s_Floor_has, defScope s_Floor_has, [], []⟩
def s_Floor_seen : Stmt := inClass (top 38) 6
def d_Floor_seen : He.DefD := ⟨("Floor", some "seen"), "seen", "Floor.seen", defArgs s_Floor_seen, defBody s_Floor_seen, defScope s_Floor_seen, [], []⟩
def s_Floor_letters : Stmt := inClass (top 38) 8
def d_Floor_letters : He.DefD := ⟨("Floor", some "letters"), "letters", "Floor.letters", defArgs s_Floor_letters, defBody s_Floor_letters, defScope s_Floor_letters, [], []⟩
def s_Floor_places : Stmt := inClass (top 38) 9
def d_Floor_places : He.DefD := ⟨("Floor", some "places"), "places", "Floor.places", defArgs s_Floor_places, defBody s_Floor_places, defScope s_Floor_places, [], []⟩
def s_Floor_open_places : Stmt := inClass (top 38) 10
def d_Floor_open_places : He.DefD := ⟨("Floor", some "open_places"), "open_places", "Floor.open_places", defArgs s_Floor_open_places, defBody s_Floor_open_places, defScope s_Floor_open_places, [], []⟩
def s_Floor_can_stand : Stmt := inClass (top 38) 11
def d_Floor_can_stand : He.DefD := ⟨("Floor", some "can_stand"), "can_stand", "Floor.can_stand", defArgs s_Floor_can_stand, defBody s_Floor_can_stand, defScope s_Floor_can_stand, [], []⟩
def s_Floor_goes : Stmt := inClass (top 38) 12
def d_Floor_goes : He.DefD := ⟨("Floor", some "goes"), "goes", "Floor.goes", defArgs s_Floor_goes, defBody s_Floor_goes, defScope s_Floor_goes, [], []⟩
def s_Floor_picture : Stmt := inClass (top 38) 13
def d_Floor_picture : He.DefD := ⟨("Floor", some "picture"), "picture", "Floor.picture", defArgs s_Floor_picture, defBody s_Floor_picture, defScope s_Floor_picture, [], []⟩
def s_is_stand : Stmt := top 40
def d_is_stand : He.DefD := ⟨("is_stand", none), "is_stand", "is_stand", defArgs s_is_stand, defBody s_is_stand, defScope s_is_stand, [], []⟩
def s_is_book : Stmt := top 41
def d_is_book : He.DefD := ⟨("is_book", none), "is_book", "is_book", defArgs s_is_book, defBody s_is_book, defScope s_is_book, [], []⟩
def s_are_wishes : Stmt := top 42
def d_are_wishes : He.DefD := ⟨("are_wishes", none), "are_wishes", "are_wishes", defArgs s_are_wishes, defBody s_are_wishes, defScope s_are_wishes, [], []⟩
def s_first_wrong : Stmt := top 43
def d_first_wrong : He.DefD := ⟨("first_wrong", none), "first_wrong", "first_wrong", defArgs s_first_wrong, defBody s_first_wrong, defScope s_first_wrong, [], []⟩
def s_World_init : Stmt := inClass (top 44) 0
def d_World_init : He.DefD := ⟨("World", some "__init__"), "__init__", "World.__init__", defArgs s_World_init, defBody s_World_init, defScope s_World_init, [], [("turn", .str "urdl")]⟩
def s_World_eq : Stmt := inClass (top 44) 1
def d_World_eq : He.DefD := ⟨("World", some "__eq__"), "__eq__", "World.__eq__", defArgs s_World_eq, defBody s_World_eq, defScope s_World_eq, [], []⟩
def s_World_floor : Stmt := inClass (top 44) 2
def d_World_floor : He.DefD := ⟨("World", some "floor"), "floor", "World.floor", defArgs s_World_floor, defBody s_World_floor, defScope s_World_floor, [], []⟩
def s_World_book : Stmt := inClass (top 44) 3
def d_World_book : He.DefD := ⟨("World", some "book"), "book", "World.book", defArgs s_World_book, defBody s_World_book, defScope s_World_book, [], []⟩
def s_World_wishes : Stmt := inClass (top 44) 4
def d_World_wishes : He.DefD := ⟨("World", some "wishes"), "wishes", "World.wishes", defArgs s_World_wishes, defBody s_World_wishes, defScope s_World_wishes, [], []⟩
def s_World_start : Stmt := inClass (top 44) 5
def d_World_start : He.DefD := ⟨("World", some "start"), "start", "World.start", defArgs s_World_start, defBody s_World_start, defScope s_World_start, [], []⟩
def s_World_want_stand : Stmt := inClass (top 44) 6
def d_World_want_stand : He.DefD := ⟨("World", some "want_stand"), "want_stand", "World.want_stand", defArgs s_World_want_stand, defBody s_World_want_stand, defScope s_World_want_stand, [], []⟩
def s_World_begun : Stmt := inClass (top 44) 7
def d_World_begun : He.DefD := ⟨("World", some "begun"), "begun", "World.begun", defArgs s_World_begun, defBody s_World_begun, defScope s_World_begun, [], []⟩
def s_World_behind : Stmt := inClass (top 44) 8
def d_World_behind : He.DefD := ⟨("World", some "behind"), "behind", "World.behind", defArgs s_World_behind, defBody s_World_behind, defScope s_World_behind, [], []⟩
def s_World_after : Stmt := inClass (top 44) 9
def d_World_after : He.DefD := ⟨("World", some "after"), "after", "World.after", defArgs s_World_after, defBody s_World_after, defScope s_World_after, [], []⟩
def s_kept_by : Stmt := top 46
def d_kept_by : He.DefD := ⟨("kept_by", none), "kept_by", "kept_by", defArgs s_kept_by, defBody s_kept_by, defScope s_kept_by, [], []⟩
def s_stand_pictured : Stmt := top 47
def d_stand_pictured : He.DefD := ⟨("stand_pictured", none), "stand_pictured", "stand_pictured", defArgs s_stand_pictured, defBody s_stand_pictured, defScope s_stand_pictured, [], []⟩
def s_in_mirror : Stmt := top 48
def d_in_mirror : He.DefD := ⟨("in_mirror", none), "in_mirror", "in_mirror", defArgs s_in_mirror, defBody s_in_mirror, defScope s_in_mirror, [], []⟩
def s_hand_turned : Stmt := top 49
def d_hand_turned : He.DefD := ⟨("hand_turned", none), "hand_turned", "hand_turned", defArgs s_hand_turned, defBody s_hand_turned, defScope s_hand_turned, [], []⟩
def s_are_worlds : Stmt := top 52
def d_are_worlds : He.DefD := ⟨("are_worlds", none), "are_worlds", "are_worlds", defArgs s_are_worlds, defBody s_are_worlds, defScope s_are_worlds, [], []⟩
def s_Hand_init : Stmt := inClass (top 53) 0
def d_Hand_init : He.DefD := ⟨("Hand", some "__init__"), "__init__", "Hand.__init__", defArgs s_Hand_init, defBody s_Hand_init, defScope s_Hand_init, [], []⟩
def s_Hand_start : Stmt := inClass (top 53) 3
def d_Hand_start : He.DefD := ⟨("Hand", some "start"), "start", "Hand.start", defArgs s_Hand_start, defBody s_Hand_start, defScope s_Hand_start, [], []⟩
def s_Hand_want_stands : Stmt := inClass (top 53) 4
def d_Hand_want_stands : He.DefD := ⟨("Hand", some "want_stands"), "want_stands", "Hand.want_stands", defArgs s_Hand_want_stands, defBody s_Hand_want_stands, defScope s_Hand_want_stands, [], []⟩
def s_Hand_after : Stmt := inClass (top 53) 5
def d_Hand_after : He.DefD := ⟨("Hand", some "after"), "after", "Hand.after", defArgs s_Hand_after, defBody s_Hand_after, defScope s_Hand_after, [], []⟩
def s_Hand_walk : Stmt := inClass (top 53) 6
def d_Hand_walk : He.DefD := ⟨("Hand", some "walk"), "walk", "Hand.walk", defArgs s_Hand_walk, defBody s_Hand_walk, defScope s_Hand_walk, [], []⟩
def s_law_mixed : Stmt := top 55
def d_law_mixed : He.DefD := ⟨("_law_mixed", none), "_law_mixed", "_law_mixed", defArgs s_law_mixed, defBody s_law_mixed, defScope s_law_mixed, [], []⟩
def s_law_source : Stmt := top 56
def d_law_source : He.DefD := ⟨("_law_source", none), "_law_source", "_law_source", defArgs s_law_source, defBody s_law_source, defScope s_law_source, [], []⟩
def s_law_take : Stmt := top 57
def d_law_take : He.DefD := ⟨("_law_take", none), "_law_take", "_law_take", defArgs s_law_take, defBody s_law_take, defScope s_law_take, [], []⟩
def s_law_one : Stmt := top 58
def d_law_one : He.DefD := ⟨("_law_one", none), "_law_one", "_law_one", defArgs s_law_one, defBody s_law_one, defScope s_law_one, [], []⟩
def s_law_sense : Stmt := top 59
def d_law_sense : He.DefD := ⟨("_law_sense", none), "_law_sense", "_law_sense", defArgs s_law_sense, defBody s_law_sense, defScope s_law_sense, [], []⟩
def s_law_spots : Stmt := top 60
def d_law_spots : He.DefD := ⟨("_law_spots", none), "_law_spots", "_law_spots", defArgs s_law_spots, defBody s_law_spots, defScope s_law_spots, [], []⟩
def s_law_land : Stmt := top 61
def d_law_land : He.DefD := ⟨("_law_land", none), "_law_land", "_law_land", defArgs s_law_land, defBody s_law_land, defScope s_law_land, [], []⟩
def s_law_made : Stmt := top 62
def d_law_made : He.DefD := ⟨("_law_made", none), "_law_made", "_law_made", defArgs s_law_made, defBody s_law_made, defScope s_law_made, [], []⟩
def s_law_sign : Stmt := top 63
def d_law_sign : He.DefD := ⟨("_law_sign", none), "_law_sign", "_law_sign", defArgs s_law_sign, defBody s_law_sign, defScope s_law_sign, [], []⟩
def s_law_goes : Stmt := top 64
def d_law_goes : He.DefD := ⟨("_law_goes", none), "_law_goes", "_law_goes", defArgs s_law_goes, defBody s_law_goes, defScope s_law_goes, [], []⟩
def s_law_becomes : Stmt := top 65
def d_law_becomes : He.DefD := ⟨("_law_becomes", none), "_law_becomes", "_law_becomes", defArgs s_law_becomes, defBody s_law_becomes, defScope s_law_becomes, [], []⟩
def s_law_behind : Stmt := top 66
def d_law_behind : He.DefD := ⟨("_law_behind", none), "_law_behind", "_law_behind", defArgs s_law_behind, defBody s_law_behind, defScope s_law_behind, [], []⟩
def s_law_gone : Stmt := top 67
def d_law_gone : He.DefD := ⟨("_law_gone", none), "_law_gone", "_law_gone", defArgs s_law_gone, defBody s_law_gone, defScope s_law_gone, [], []⟩
def s_law_line : Stmt := top 68
def d_law_line : He.DefD := ⟨("_law_line", none), "_law_line", "_law_line", defArgs s_law_line, defBody s_law_line, defScope s_law_line, [], []⟩
def s_law_both : Stmt := top 69
def d_law_both : He.DefD := ⟨("_law_both", none), "_law_both", "_law_both", defArgs s_law_both, defBody s_law_both, defScope s_law_both, [], []⟩
def s_law_undone : Stmt := top 70
def d_law_undone : He.DefD := ⟨("_law_undone", none), "_law_undone", "_law_undone", defArgs s_law_undone, defBody s_law_undone, defScope s_law_undone, [], []⟩
def s_law_spun : Stmt := top 71
def d_law_spun : He.DefD := ⟨("_law_spun", none), "_law_spun", "_law_spun", defArgs s_law_spun, defBody s_law_spun, defScope s_law_spun, [], []⟩
def s_law_book_spun : Stmt := top 74
def d_law_book_spun : He.DefD := ⟨("_law_book_spun", none), "_law_book_spun", "_law_book_spun", defArgs s_law_book_spun, defBody s_law_book_spun, defScope s_law_book_spun, [], []⟩
def s_law_turn : Stmt := top 75
def d_law_turn : He.DefD := ⟨("_law_turn", none), "_law_turn", "_law_turn", defArgs s_law_turn, defBody s_law_turn, defScope s_law_turn, [], []⟩
def s_law_kept_rows : Stmt := top 76
def d_law_kept_rows : He.DefD := ⟨("_law_kept_rows", none), "_law_kept_rows", "_law_kept_rows", defArgs s_law_kept_rows, defBody s_law_kept_rows, defScope s_law_kept_rows, [], []⟩
def s_law_kept_land : Stmt := top 77
def d_law_kept_land : He.DefD := ⟨("_law_kept_land", none), "_law_kept_land", "_law_kept_land", defArgs s_law_kept_land, defBody s_law_kept_land, defScope s_law_kept_land, [], []⟩
def s_law_strange : Stmt := top 78
def d_law_strange : He.DefD := ⟨("_law_strange", none), "_law_strange", "_law_strange", defArgs s_law_strange, defBody s_law_strange, defScope s_law_strange, [], []⟩
def s_law_first_coming : Stmt := top 79
def d_law_first_coming : He.DefD := ⟨("_law_first_coming", none), "_law_first_coming", "_law_first_coming", defArgs s_law_first_coming, defBody s_law_first_coming, defScope s_law_first_coming, [], []⟩
def s_law_line_to : Stmt := top 80
def d_law_line_to : He.DefD := ⟨("_law_line_to", none), "_law_line_to", "_law_line_to", defArgs s_law_line_to, defBody s_law_line_to, defScope s_law_line_to, [], []⟩
def s_law_right : Stmt := top 81
def d_law_right : He.DefD := ⟨("_law_right", none), "_law_right", "_law_right", defArgs s_law_right, defBody s_law_right, defScope s_law_right, [], []⟩
def s_law : Stmt := top 82
def d_law : He.DefD := ⟨("law", none), "law", "law", defArgs s_law, defBody s_law, defScope s_law, [], []⟩
def fns0 : List He.DefD := [d_is_whole, d_is_from, d_is_place, d_is_turn, d_want_turn, d_want_row, d_want_deed, d_way, d_row_turned, d_then, d_back, d_place_turned, d_is_text, d_want_rows, d_next_to, d_Floor_init, d_Floor_eq, d_Floor_rows, d_Floor_size, d_Floor_has, d_Floor_seen, d_Floor_letters, d_Floor_places, d_Floor_open_places, d_Floor_can_stand]
def fns1 : List He.DefD := [d_Floor_goes, d_Floor_picture, d_is_stand, d_is_book, d_are_wishes, d_first_wrong, d_World_init, d_World_eq, d_World_floor, d_World_book, d_World_wishes, d_World_start, d_World_want_stand, d_World_begun, d_World_behind, d_World_after, d_kept_by, d_stand_pictured, d_in_mirror, d_hand_turned, d_are_worlds, d_Hand_init, d_Hand_start, d_Hand_want_stands, d_Hand_after]
def fns2 : List He.DefD := [d_Hand_walk, d_law_mixed, d_law_source, d_law_take, d_law_one, d_law_sense, d_law_spots, d_law_land, d_law_made, d_law_sign, d_law_goes, d_law_becomes, d_law_behind, d_law_gone, d_law_line, d_law_both, d_law_undone, d_law_spun, d_law_book_spun, d_law_turn, d_law_kept_rows, d_law_kept_land, d_law_strange, d_law_first_coming, d_law_line_to]
def fns3 : List He.DefD := [d_law_right, d_law]
def fns : List He.DefD := fns0 ++ fns1 ++ fns2 ++ fns3
def fas0 : List He.Fa := [.glo "is_whole", .glo "is_from", .glo "is_place", .glo "is_turn", .glo "want_turn", .glo "want_row", .glo "want_deed", .glo "way", .glo "row_turned", .glo "then", .glo "back", .glo "place_turned", .glo "is_text", .glo "want_rows", .glo "next_to", .glo "is_stand", .glo "is_book", .glo "are_wishes", .glo "first_wrong", .glo "kept_by", .glo "stand_pictured", .glo "in_mirror", .glo "hand_turned", .glo "are_worlds", .glo "_law_mixed"]
def fas1 : List He.Fa := [.glo "_law_source", .glo "_law_take", .glo "_law_one", .glo "_law_sense", .glo "_law_spots", .glo "_law_land", .glo "_law_made", .glo "_law_sign", .glo "_law_goes", .glo "_law_becomes", .glo "_law_behind", .glo "_law_gone", .glo "_law_line", .glo "_law_both", .glo "_law_undone", .glo "_law_spun", .glo "_law_book_spun", .glo "_law_turn", .glo "_law_kept_rows", .glo "_law_kept_land", .glo "_law_strange", .glo "_law_first_coming", .glo "_law_line_to", .glo "_law_right", .glo "law"]
def fas2 : List He.Fa := [.glo "Floor", .glo "World", .glo "Hand", .free "len", .free "isinstance", .free "all", .free "any", .free "range", .free "enumerate", .free "zip", .free "sorted", .free "set", .free "dict", .free "list", .free "tuple", .free "max", .free "min", .free "int", .free "bool", .free "str", .cls "Floor", .cls "World", .cls "Hand", .mkr "Floor", .mkr "World"]
def fas3 : List He.Fa := [.mkr "Hand", .meth "Floor" "__eq__", .meth "Floor" "rows", .meth "Floor" "size", .meth "Floor" "has", .meth "Floor" "seen", .meth "Floor" "letters", .meth "Floor" "places", .meth "Floor" "open_places", .meth "Floor" "can_stand", .meth "Floor" "goes", .meth "Floor" "picture", .meth "World" "__eq__", .meth "World" "floor", .meth "World" "book", .meth "World" "wishes", .meth "World" "start", .meth "World" "want_stand", .meth "World" "begun", .meth "World" "behind", .meth "World" "after", .meth "Hand" "start", .meth "Hand" "want_stands", .meth "Hand" "after", .meth "Hand" "walk"]
def fas4 : List He.Fa := [.noat "Floor" "texts", .noat "World" "ground", .noat "World" "pages", .noat "World" "goals", .noat "World" "opening", .noat "World" "first", .noat "Hand" "ones", .str "DEEDS" "urdl", .str "WALL" "#", .str "ICE" "~", .str "PIT" "x", .str "LETTERS" "abcd", .str "OPEN" ".abcd", .str "SIGNS" "#~x.abcd", .int "MOST" 6, .int "MOST_WORLDS" 4, .glo "TURNS", .glo "STEPS"]
def fas : List He.Fa := fas0 ++ fas1 ++ fas2 ++ fas3 ++ fas4
/-! ### the part of the heap that is looked at -/
def refsAt (g : Addr → Option Obj) (a : Addr) : List Addr := match g a with
  | some o => He.refsD o
  | none => []
/-- what a name of the module leads to: a class's dict, its bases, its methods and what these hold; what else holds -/
def deepAt (g : Addr → Option Obj) (a : Addr) : List Addr := match g a with
  | some ⟨_, _, .cls cd, _⟩ => cd.ns :: (cd.mro.flatMap He.refV ++ (refsAt g cd.ns).flatMap fun f => f :: refsAt g f)
  | some o => He.refsD o
  | none => []
def asX (g : Addr → Option Obj) : List Addr := mainGlobals :: (refsAt g mainGlobals).flatMap fun a => a :: deepAt g a
def frA {α : Type} : List Addr → (List Addr → α) → α
  | [], k => k []
  | a :: r, k => HandSHeadRun.frNat a fun a => frA r fun r => k (a :: r)
theorem frA_eq {α : Type} : ∀ (l : List Addr) (k : List Addr → α), frA l k = k l
  | [], _ => rfl
  | a :: r, k => by
    show HandSHeadRun.frNat a (fun a => frA r fun r => k (a :: r)) = _
    rw [HandSHeadRun.frNat_eq, frA_eq r]
def frK {α : Type} (g : Addr → Option Obj) : List Addr → (PySem.W.Frag → α) → α
  | [], k => k []
  | a :: r, k => match g a with
    | some o => frK g r fun K => k ((a, o) :: K)
    | none => frK g r k
theorem frK_eq {α : Type} (g : Addr → Option Obj) : ∀ (l : List Addr) (k : PySem.W.Frag → α), frK g l k = k (He.frG g l)
  | [], _ => rfl
  | a :: r, k => by
    unfold frK He.frG
    rw [List.filterMap_cons]
    cases e : g a with
    | none => exact frK_eq g r k
    | some o =>
      show frK g r (fun K => k ((a, o) :: K)) = _
      rw [frK_eq g r]
      rfl
/-! ### what else is asked -/
def insB (K : PySem.W.Frag) (x : Str) : Bool := He.eqO (PySem.W.findIn K (.ref (He.ga K x)) "__class__") (some (some (.builtin "object.__class__"))) && decide (PySem.W.mroIn K (He.ga K x) (.type "object") = some true)
def intsB (K : PySem.W.Frag) (v : Value) (i j : Int) : Bool := match v with
  | .ref a => (match K.lookup a with
    | some ⟨.type c, _, .seq its _, _⟩ => decide (c = "tuple") && (decide (its.size ≤ sizeLine) && He.relAll [.int i, .int j] its.toList)
    | _ => false)
  | _ => false
def stepsB (K : PySem.W.Frag) : Bool := match K.lookup (He.ga K "STEPS") with
  | some ⟨.type c, _, .seq its _, _⟩ => decide (c = "tuple") && (match its.toList with
    | [a, b, d, e] => intsB K a (-1) 0 && (intsB K b 0 1 && (intsB K d 1 0 && intsB K e 0 (-1)))
    | _ => false)
  | _ => false
def turnsDv : List He.Dv := [.str "urdl", .str "rdlu", .str "dlur", .str "lurd", .str "uldr", .str "drul", .str "ldru", .str "ruld"]
def moreB (K : PySem.W.Frag) : Bool := insB K "Floor" && (insB K "World" && (insB K "Hand" && (He.eqO (PySem.W.findIn K (.ref (He.ga K "Floor")) "__ne__") (some (some (.builtin "object.__ne__"))) &&
  (He.eqO (PySem.W.specialIn K (.builtin "object.__class__") "__get__") (some (some (.builtin "getset_descriptor.__get__"))) && (decide (PySem.W.takesIn K (.builtin "object.__class__") = some true) && (He.tupB K "TURNS" turnsDv && stepsB K))))))
/-! ### the Hook -/
def obsX (K : PySem.W.Frag) : Bool × He.AlD := (moreB K, He.obsD fas fns K)
def obsXG (g : Addr → Option Obj) : Bool × He.AlD := frA (asX g) fun as => frK g as fun K => obsX K
def SaysX (K : PySem.W.Frag) : Prop := moreB K = true ∧ He.SaysD fas fns K
theorem obsXG_eq (g : Addr → Option Obj) : obsXG g = obsX (He.frG g (asX g)) := by
  unfold obsXG
  rw [frA_eq, frK_eq]
def hkX : PySem.W.Hook where
  α := Bool × He.AlD
  obs := fun s => obsXG s.heap.get?
  val := fun _ => (true, He.valD fns)
  says := fun _ h => ∃ K : PySem.W.Frag, K.In h ∧ SaysX K
  of := fun _ s e => by
    have e' : obsX (He.frG s.heap.get? (asX s.heap.get?)) = (true, He.valD fns) := (obsXG_eq _).symm.trans e
    exact ⟨_, He.frG_in, congrArg Prod.fst e', congrArg Prod.snd e'⟩
  keeps := fun _ _ _ ⟨K, hK, c⟩ k => ⟨K, PySem.W.Frag.In.keeps hK k, c⟩
abbrev Rw : PySem.W.OpenRow := PySem.W.OpenLaw.row PySem.Challenge.rw_onehand_k81_whole_symmetry_broken_by_one
def obX (s : PySem.W.SharedT) : Bool × He.AlD := obsXG (HandSHeadRun.getT s)
theorem obX_eq (s : PySem.W.SharedT) : obX s = hkX.obs s.abs := by
  show obsXG (HandSHeadRun.getT s) = obsXG s.abs.heap.get?
  rw [show HandSHeadRun.getT s = s.abs.heap.get? from funext (HandSHeadRun.getT_eq s)]
theorem runX (w : World) : HandSHeadRun.RunEq Rw (PySem.W.view Rw.prog [82]) hkX obX 20000 nams w := by
  intro os
  kernel_rfl
end Oh
set_option maxHeartbeats 0
/-! OkB: what the head gives; the defs one behind another; the law. -/
namespace Oh
open PySem L2
theorem HasF.mono {Γ : Ga} {j k : Nat} {x : Str} {c : Con} (h : HasF Γ j x c) (hk : j ≤ k) : HasF Γ k x c := let ⟨f, fd, ps, F, r⟩ := h; ⟨f, fd, ps, F.mono hk, r⟩
theorem ints_dps {K : PySem.W.Frag} {G : Hp} : ∀ ns : List Int, DpAll K G (ns.map V.int) (ns.map PyData.int)
  | [] => .nil
  | i :: ns => .cons (.int i) (ints_dps ns)
theorem HasM.mono {Γ : Ga} {j k : Nat} {Cl : Addr} {m : Str} {c : Con} (h : HasM Γ j Cl m c) (hk : j ≤ k) : HasM Γ k Cl m c := let ⟨f, fd, ps, F, r⟩ := h; ⟨f, fd, ps, F.mono hk, r⟩
section
variable {P : Program} {w : World} {K : PySem.W.Frag} {h : Heap} {mg : Str → Option Value} {base : Heap}
abbrev BindN (x qual : Str) (st : Stmt) (ps : List Str) : Prop := ∀ (kV doc pm : Value) (an : Option Addr) (cdv ct : Value) (us : List Value), us.length = ps.length → bindArgs (PySem.W.fnOf x qual (defArgs st) (defBody st) (defScope st) .none kV doc pm an cdv ct) ⟨us, []⟩ = pure (ps.zip us)
theorem mkDef {x : Str} {st : Stmt} {ps : List Str} (X : K.In h) (G : h.Ns mainGlobals mg) (F : ∃ fd, FunD K x x (defArgs st) (defBody st) (defScope st) [] [] (He.ga K x) fd) (g : (He.Fa.glo x).ok K = true) (b : BindN x x st ps) : Def ⟨P, w, K, mg, base⟩ x st ps :=
  let ⟨fd, F⟩ := F
  ⟨He.ga K x, fd, F, He.glo_ok X G g, F.bindsN b⟩
theorem mkMDef {C m qual : Str} {st : Stmt} {ps : List Str} (F : ∃ fd, FunD K m qual (defArgs st) (defBody st) (defScope st) [] [] (He.ma K (He.ga K C) m) fd) (g : (He.Fa.meth C m).ok K = true) (b : BindN m qual st ps) : MDef ⟨P, w, K, mg, base⟩ (He.ga K C) m qual st ps :=
  let ⟨fd, F⟩ := F
  ⟨He.ma K (He.ga K C) m, fd, F, He.meth_ok g, F.bindsN b⟩
/-! ### facts of the top -/
theorem sq_ints {v : Value} {i j : Int} (c : intsB K v i j = true) : ∃ a, v = .ref a ∧ ∀ H, SqT K H a [.int i, .int j] := by
  unfold intsB at c
  cases v with
  | ref a =>
    refine ⟨a, rfl, fun H => ?_⟩
    dsimp only at c
    cases q : K.lookup a with
    | none =>
      rw [q] at c
      cases c
    | some o =>
      obtain ⟨oc, od, dt, osl⟩ := o
      rw [q] at c
      cases oc with
      | type n =>
        cases dt with
        | seq its k =>
          obtain ⟨c1, c2⟩ := He.ba (show (decide (n = "tuple") && (decide (its.size ≤ sizeLine) && He.relAll [.int i, .int j] its.toList)) = true from c)
          obtain ⟨c3, c4⟩ := He.ba c2
          exact Or.inr ⟨_, its, k, q, congrArg Value.type (of_decide_eq_true c1), rfl, of_decide_eq_true c3, He.relAll_ok c4⟩
        | _ => cases c
      | _ => cases dt <;> cases c
  | _ => cases c
theorem steps_ok (c : stepsB K = true) : ∃ a0 a1 a2 a3, (∀ H, SqT K H (He.ga K "STEPS") [.ref a0, .ref a1, .ref a2, .ref a3]) ∧ (∀ H, SqT K H a0 [.int (-1), .int 0]) ∧ (∀ H, SqT K H a1 [.int 0, .int 1]) ∧ (∀ H, SqT K H a2 [.int 1, .int 0]) ∧ (∀ H, SqT K H a3 [.int 0, .int (-1)]) := by
  unfold stepsB at c
  cases q : K.lookup (He.ga K "STEPS") with
  | none =>
    rw [q] at c
    cases c
  | some o =>
    obtain ⟨oc, od, dt, osl⟩ := o
    rw [q] at c
    cases oc with
    | type n =>
      cases dt with
      | seq its k =>
        obtain ⟨c1, c2⟩ := He.ba (show (decide (n = "tuple") && (match its.toList with
          | [a, b, d, e] => intsB K a (-1) 0 && (intsB K b 0 1 && (intsB K d 1 0 && intsB K e 0 (-1)))
          | _ => false)) = true from c)
        match e : its.toList, c2 with
        | [a, b, d, f], c2 =>
          obtain ⟨e1, c3⟩ := He.ba c2
          obtain ⟨e2, c4⟩ := He.ba c3
          obtain ⟨e3, e4⟩ := He.ba c4
          obtain ⟨a0, rfl, k0⟩ := sq_ints e1
          obtain ⟨a1, rfl, k1⟩ := sq_ints e2
          obtain ⟨a2, rfl, k2⟩ := sq_ints e3
          obtain ⟨a3, rfl, k3⟩ := sq_ints e4
          have sz : its.size = 4 := by rw [← Array.length_toList, e]; rfl
          refine ⟨a0, a1, a2, a3, fun H => Or.inr ⟨_, its, k, q, congrArg Value.type (of_decide_eq_true c1), rfl, by rw [sz]; exact Nat.le_of_ble_eq_true rfl, ?_⟩, k0, k1, k2, k3⟩
          rw [e]
          exact .cons rfl (.cons rfl (.cons rfl (.cons rfl .nil)))
      | _ => cases c
    | _ => cases dt <;> cases c
theorem insF_of {x : Str} (c : insB K x = true) (c1 : He.eqO (PySem.W.specialIn K (.builtin "object.__class__") "__get__") (some (some (.builtin "getset_descriptor.__get__"))) = true) (c2 : PySem.W.takesIn K (.builtin "object.__class__") = some true) : InsF K (He.ga K x) := by
  obtain ⟨k1, k2⟩ := He.ba c
  exact ⟨He.eqO_ok k1, He.eqO_ok c1, c2, of_decide_eq_true k2⟩
theorem gx_of (X : K.In h) (G : h.Ns mainGlobals mg) (c : SaysX K) : Gx ⟨P, w, K, mg, base⟩ := by
  obtain ⟨m1, r⟩ := He.ba c.1
  obtain ⟨m2, r⟩ := He.ba r
  obtain ⟨m3, r⟩ := He.ba r
  obtain ⟨m4, r⟩ := He.ba r
  obtain ⟨m5, r⟩ := He.ba r
  obtain ⟨m6, r⟩ := He.ba r
  obtain ⟨m7, m8⟩ := He.ba r
  have m6 := of_decide_eq_true m6
  obtain ⟨a0, a1, a2, a3, s1, s2, s3, s4, s5⟩ := steps_ok m8
  exact {
    iF := insF_of m1 m5 m6
    clF := He.cls_ok (c.2.fact 70 (f := .cls "Floor") rfl)
    mgF := He.glo_ok X G (c.2.fact 50 (f := .glo "Floor") rfl)
    iW := insF_of m2 m5 m6
    clW := He.cls_ok (c.2.fact 71 (f := .cls "World") rfl)
    mgW := He.glo_ok X G (c.2.fact 51 (f := .glo "World") rfl)
    iH := insF_of m3 m5 m6
    clH := He.cls_ok (c.2.fact 72 (f := .cls "Hand") rfl)
    mgH := He.glo_ok X G (c.2.fact 52 (f := .glo "Hand") rfl)
    aTexts := He.noat_ok (c.2.fact 100 (f := .noat "Floor" "texts") rfl)
    aGround := He.noat_ok (c.2.fact 101 (f := .noat "World" "ground") rfl)
    aPages := He.noat_ok (c.2.fact 102 (f := .noat "World" "pages") rfl)
    aGoals := He.noat_ok (c.2.fact 103 (f := .noat "World" "goals") rfl)
    aOpening := He.noat_ok (c.2.fact 104 (f := .noat "World" "opening") rfl)
    aFirst := He.noat_ok (c.2.fact 105 (f := .noat "World" "first") rfl)
    aOnes := He.noat_ok (c.2.fact 106 (f := .noat "Hand" "ones") rfl)
    bLen := He.free_ok X G (c.2.fact 53 (f := .free "len") rfl)
    bIsi := He.free_ok X G (c.2.fact 54 (f := .free "isinstance") rfl)
    bAll := He.free_ok X G (c.2.fact 55 (f := .free "all") rfl)
    bAny := He.free_ok X G (c.2.fact 56 (f := .free "any") rfl)
    bRange := He.free_ok X G (c.2.fact 57 (f := .free "range") rfl)
    bEnum := He.free_ok X G (c.2.fact 58 (f := .free "enumerate") rfl)
    bZip := He.free_ok X G (c.2.fact 59 (f := .free "zip") rfl)
    bSorted := He.free_ok X G (c.2.fact 60 (f := .free "sorted") rfl)
    bSet := He.free_ok X G (c.2.fact 61 (f := .free "set") rfl)
    bDict := He.free_ok X G (c.2.fact 62 (f := .free "dict") rfl)
    bList := He.free_ok X G (c.2.fact 63 (f := .free "list") rfl)
    bTuple := He.free_ok X G (c.2.fact 64 (f := .free "tuple") rfl)
    bMax := He.free_ok X G (c.2.fact 65 (f := .free "max") rfl)
    bMin := He.free_ok X G (c.2.fact 66 (f := .free "min") rfl)
    bInt := He.free_ok X G (c.2.fact 67 (f := .free "int") rfl)
    bBool := He.free_ok X G (c.2.fact 68 (f := .free "bool") rfl)
    bStr := He.free_ok X G (c.2.fact 69 (f := .free "str") rfl)
    cDeeds := He.str_ok X G (c.2.fact 107 (f := .str "DEEDS" "urdl") rfl)
    cWall := He.str_ok X G (c.2.fact 108 (f := .str "WALL" "#") rfl)
    cIce := He.str_ok X G (c.2.fact 109 (f := .str "ICE" "~") rfl)
    cPit := He.str_ok X G (c.2.fact 110 (f := .str "PIT" "x") rfl)
    cLetters := He.str_ok X G (c.2.fact 111 (f := .str "LETTERS" "abcd") rfl)
    cOpen := He.str_ok X G (c.2.fact 112 (f := .str "OPEN" ".abcd") rfl)
    cSigns := He.str_ok X G (c.2.fact 113 (f := .str "SIGNS" "#~x.abcd") rfl)
    cMost := He.int_ok X G (c.2.fact 114 (f := .int "MOST" 6) rfl)
    cMostW := He.int_ok X G (c.2.fact 115 (f := .int "MOST_WORLDS" 4) rfl)
    cTurns := ⟨_, He.glo_ok X G (c.2.fact 116 (f := .glo "TURNS") rfl), fun H => He.tupB_ok m7 H⟩
    cSteps := ⟨_, a0, a1, a2, a3, He.glo_ok X G (c.2.fact 117 (f := .glo "STEPS") rfl), s1, s2, s3, s4, s5⟩
  }
theorem world_ok (c : SaysX K) [Gx ⟨P, w, K, mg, base⟩] (h1 : HasF ⟨P, w, K, mg, base⟩ 8 "first_wrong" c_first_wrong) (h2 : HasM ⟨P, w, K, mg, base⟩ 6 (CF K) "letters" c_letters) : HasW ⟨P, w, K, mg, base⟩ 9 := by
  obtain ⟨fd, F⟩ := c.2.def_ 31 (d := d_World_init) rfl
  refine ⟨_, fd, fn_winit F h1 h2, He.mkr_ok (c.2.fact 74 (f := .mkr "World") rfl), ?_, ?_⟩
  · obtain ⟨mv, z⟩ := FunD.kbinds0 (ps := wPs) F 3 ["turn", "book", "wishes"] [] (fun us _ ws => us ++ ws) nofun nofun (fun r1 _ r3 => r1.append r3) (fun D doc pm an cdv ct us mv ws l1 l2 l3 => match us, l1, mv, l2, ws, l3 with | [_, _, _], _, [], _, [_, _, _], _ => rfl)
    exact ⟨_, z⟩
  · obtain ⟨mv, z⟩ := FunD.kbinds0 (ps := wPs) F 3 ["book", "wishes"] [("turn", V.str "urdl")] (fun us mv ws => us ++ mv ++ ws) nofun (fun q hq => hq) (fun r1 r2 r3 => (r1.append r2).append r3) (fun D doc pm an cdv ct us mv ws l1 l2 l3 => match us, l1, mv, l2, ws, l3 with | [_, _, _], _, [_], _, [_, _], _ => ⟨_, _, _, _, _, _, rfl, rfl, rfl⟩)
    refine ⟨_, z.to, fun r1 r2 => ?_⟩
    have q := z.rel r1 r2
    rw [show ∀ vs zs : List V, vs ++ ([(("turn" : Str), V.str "urdl")].map (·.2)) ++ zs = vs ++ V.str (tx (tt 0)) :: zs from fun vs zs => by rw [List.append_assoc]; rfl] at q
    exact q
theorem law_fn (X : K.In h) (G : h.Ns mainGlobals mg) (c : SaysX K) {fd : FuncData} (F : FunD K "law" "law" (defArgs (top 82)) (defBody (top 82)) (defScope (top 82)) [] [] (He.ga K "law") fd) : FnOk P w K mg base CX0 13 (He.ga K "law") fd ["_law_script"] (spC K c_law) := by
  have gx : Gx ⟨P, w, K, mg, base⟩ := gx_of X G c
  have eqF : EqF K (CF K) := by
    obtain ⟨_, r⟩ := He.ba c.1
    obtain ⟨_, r⟩ := He.ba r
    obtain ⟨_, r⟩ := He.ba r
    obtain ⟨m4, _⟩ := He.ba r
    exact ⟨He.eqO_ok m4, gx.iF.hm⟩
  have k_is_whole := ok_is_whole (Γ := ⟨P, w, K, mg, base⟩) (mkDef X G (c.2.def_ 0 (d := d_is_whole) rfl) (c.2.fact 0 (f := .glo "is_whole") rfl) (fun _ _ _ _ _ _ us hl => match us, hl with | [_], _ => rfl))
  have k_is_from := ok_is_from (Γ := ⟨P, w, K, mg, base⟩) (mkDef X G (c.2.def_ 1 (d := d_is_from) rfl) (c.2.fact 1 (f := .glo "is_from") rfl) (fun _ _ _ _ _ _ us hl => match us, hl with | [_, _, _], _ => rfl)) k_is_whole
  have k_is_place := ok_is_place (Γ := ⟨P, w, K, mg, base⟩) (mkDef X G (c.2.def_ 2 (d := d_is_place) rfl) (c.2.fact 2 (f := .glo "is_place") rfl) (fun _ _ _ _ _ _ us hl => match us, hl with | [_, _, _], _ => rfl)) k_is_from
  have k_is_turn := ok_is_turn (Γ := ⟨P, w, K, mg, base⟩) (mkDef X G (c.2.def_ 3 (d := d_is_turn) rfl) (c.2.fact 3 (f := .glo "is_turn") rfl) (fun _ _ _ _ _ _ us hl => match us, hl with | [_], _ => rfl))
  have k_want_turn := ok_want_turn (Γ := ⟨P, w, K, mg, base⟩) (mkDef X G (c.2.def_ 4 (d := d_want_turn) rfl) (c.2.fact 4 (f := .glo "want_turn") rfl) (fun _ _ _ _ _ _ us hl => match us, hl with | [_], _ => rfl)) k_is_turn
  have k_want_row := ok_want_row (Γ := ⟨P, w, K, mg, base⟩) (mkDef X G (c.2.def_ 5 (d := d_want_row) rfl) (c.2.fact 5 (f := .glo "want_row") rfl) (fun _ _ _ _ _ _ us hl => match us, hl with | [_], _ => rfl))
  have k_want_deed := ok_want_deed (Γ := ⟨P, w, K, mg, base⟩) (mkDef X G (c.2.def_ 6 (d := d_want_deed) rfl) (c.2.fact 6 (f := .glo "want_deed") rfl) (fun _ _ _ _ _ _ us hl => match us, hl with | [_], _ => rfl))
  have k_way := ok_way (Γ := ⟨P, w, K, mg, base⟩) (mkDef X G (c.2.def_ 7 (d := d_way) rfl) (c.2.fact 7 (f := .glo "way") rfl) (fun _ _ _ _ _ _ us hl => match us, hl with | [_, _], _ => rfl)) k_want_turn k_want_deed
  have k_row_turned := ok_row_turned (Γ := ⟨P, w, K, mg, base⟩) (mkDef X G (c.2.def_ 8 (d := d_row_turned) rfl) (c.2.fact 8 (f := .glo "row_turned") rfl) (fun _ _ _ _ _ _ us hl => match us, hl with | [_, _], _ => rfl)) k_want_turn k_want_row k_way
  have k_then := ok_then (Γ := ⟨P, w, K, mg, base⟩) (mkDef X G (c.2.def_ 9 (d := d_then) rfl) (c.2.fact 9 (f := .glo "then") rfl) (fun _ _ _ _ _ _ us hl => match us, hl with | [_, _], _ => rfl)) k_want_turn k_row_turned
  have k_back := ok_back (Γ := ⟨P, w, K, mg, base⟩) (mkDef X G (c.2.def_ 10 (d := d_back) rfl) (c.2.fact 10 (f := .glo "back") rfl) (fun _ _ _ _ _ _ us hl => match us, hl with | [_], _ => rfl)) k_want_turn
  have k_place_turned := ok_place_turned (Γ := ⟨P, w, K, mg, base⟩) (mkDef X G (c.2.def_ 11 (d := d_place_turned) rfl) (c.2.fact 11 (f := .glo "place_turned") rfl) (fun _ _ _ _ _ _ us hl => match us, hl with | [_, _, _, _], _ => rfl)) k_want_turn k_is_place
  have k_is_text := ok_is_text (Γ := ⟨P, w, K, mg, base⟩) (mkDef X G (c.2.def_ 12 (d := d_is_text) rfl) (c.2.fact 12 (f := .glo "is_text") rfl) (fun _ _ _ _ _ _ us hl => match us, hl with | [_], _ => rfl))
  have k_want_rows := ok_want_rows (Γ := ⟨P, w, K, mg, base⟩) (mkDef X G (c.2.def_ 13 (d := d_want_rows) rfl) (c.2.fact 13 (f := .glo "want_rows") rfl) (fun _ _ _ _ _ _ us hl => match us, hl with | [_], _ => rfl)) k_is_text
  have k_next_to := ok_next_to (Γ := ⟨P, w, K, mg, base⟩) (mkDef X G (c.2.def_ 14 (d := d_next_to) rfl) (c.2.fact 14 (f := .glo "next_to") rfl) (fun _ _ _ _ _ _ us hl => match us, hl with | [_, _], _ => rfl))
  obtain ⟨fd_Floor, F_Floor⟩ := c.2.def_ 15 (d := d_Floor_init) rfl
  have k_finit := ok_finit (Γ := ⟨P, w, K, mg, base⟩) F_Floor (He.mkr_ok (c.2.fact 73 (f := .mkr "Floor") rfl)) (F_Floor.bindsN (fun _ _ _ _ _ _ us hl => match us, hl with | [_, _], _ => rfl)) k_want_rows
  have k_feq := ok_feq (Γ := ⟨P, w, K, mg, base⟩) (mkMDef (C := "Floor") (c.2.def_ 16 (d := d_Floor_eq) rfl) (c.2.fact 76 (f := .meth "Floor" "__eq__") rfl) (fun _ _ _ _ _ _ us hl => match us, hl with | [_, _], _ => rfl))
  have k_size := ok_size (Γ := ⟨P, w, K, mg, base⟩) (mkMDef (C := "Floor") (c.2.def_ 18 (d := d_Floor_size) rfl) (c.2.fact 78 (f := .meth "Floor" "size") rfl) (fun _ _ _ _ _ _ us hl => match us, hl with | [_], _ => rfl))
  have k_has := ok_has (Γ := ⟨P, w, K, mg, base⟩) (mkMDef (C := "Floor") (c.2.def_ 19 (d := d_Floor_has) rfl) (c.2.fact 79 (f := .meth "Floor" "has") rfl) (fun _ _ _ _ _ _ us hl => match us, hl with | [_, _], _ => rfl)) k_size k_is_place
  have k_seen := ok_seen (Γ := ⟨P, w, K, mg, base⟩) (mkMDef (C := "Floor") (c.2.def_ 20 (d := d_Floor_seen) rfl) (c.2.fact 80 (f := .meth "Floor" "seen") rfl) (fun _ _ _ _ _ _ us hl => match us, hl with | [_, _], _ => rfl)) k_has
  have k_letters := ok_letters (Γ := ⟨P, w, K, mg, base⟩) (mkMDef (C := "Floor") (c.2.def_ 21 (d := d_Floor_letters) rfl) (c.2.fact 81 (f := .meth "Floor" "letters") rfl) (fun _ _ _ _ _ _ us hl => match us, hl with | [_], _ => rfl))
  have k_places := ok_places (Γ := ⟨P, w, K, mg, base⟩) (mkMDef (C := "Floor") (c.2.def_ 22 (d := d_Floor_places) rfl) (c.2.fact 82 (f := .meth "Floor" "places") rfl) (fun _ _ _ _ _ _ us hl => match us, hl with | [_], _ => rfl)) k_size
  have k_opens := ok_opens (Γ := ⟨P, w, K, mg, base⟩) (mkMDef (C := "Floor") (c.2.def_ 23 (d := d_Floor_open_places) rfl) (c.2.fact 83 (f := .meth "Floor" "open_places") rfl) (fun _ _ _ _ _ _ us hl => match us, hl with | [_], _ => rfl)) k_places k_seen
  have k_can_stand := ok_can_stand (Γ := ⟨P, w, K, mg, base⟩) (mkMDef (C := "Floor") (c.2.def_ 24 (d := d_Floor_can_stand) rfl) (c.2.fact 84 (f := .meth "Floor" "can_stand") rfl) (fun _ _ _ _ _ _ us hl => match us, hl with | [_, _], _ => rfl)) k_has k_seen
  have k_goes := ok_goes (Γ := ⟨P, w, K, mg, base⟩) (mkMDef (C := "Floor") (c.2.def_ 25 (d := d_Floor_goes) rfl) (c.2.fact 85 (f := .meth "Floor" "goes") rfl) (fun _ _ _ _ _ _ us hl => match us, hl with | [_, _, _], _ => rfl)) k_can_stand k_seen k_next_to k_want_deed
  have k_mixed := ok_mixed (Γ := ⟨P, w, K, mg, base⟩) (mkDef X G (c.2.def_ 51 (d := d_law_mixed) rfl) (c.2.fact 24 (f := .glo "_law_mixed") rfl) (fun _ _ _ _ _ _ us hl => match us, hl with | [_, _], _ => rfl))
  have k_source := ok_source (Γ := ⟨P, w, K, mg, base⟩) (mkDef X G (c.2.def_ 52 (d := d_law_source) rfl) (c.2.fact 25 (f := .glo "_law_source") rfl) (fun _ _ _ _ _ _ us hl => match us, hl with | [_], _ => rfl))
  have k_take := ok_take (Γ := ⟨P, w, K, mg, base⟩) (mkDef X G (c.2.def_ 53 (d := d_law_take) rfl) (c.2.fact 26 (f := .glo "_law_take") rfl) (fun _ _ _ _ _ _ us hl => match us, hl with | [_, _], _ => rfl)) k_mixed
  have k_oneL := ok_oneL (Γ := ⟨P, w, K, mg, base⟩) (mkDef X G (c.2.def_ 54 (d := d_law_one) rfl) (c.2.fact 27 (f := .glo "_law_one") rfl) (fun _ _ _ _ _ _ us hl => match us, hl with | [_, _], _ => rfl)) k_take
  have k_oneS := ok_oneS (Γ := ⟨P, w, K, mg, base⟩) (mkDef X G (c.2.def_ 54 (d := d_law_one) rfl) (c.2.fact 27 (f := .glo "_law_one") rfl) (fun _ _ _ _ _ _ us hl => match us, hl with | [_, _], _ => rfl)) k_take
  have k_sense := ok_sense (Γ := ⟨P, w, K, mg, base⟩) (mkDef X G (c.2.def_ 55 (d := d_law_sense) rfl) (c.2.fact 28 (f := .glo "_law_sense") rfl) (fun _ _ _ _ _ _ us hl => match us, hl with | [_], _ => rfl)) k_oneL
  have k_turn := ok_turn (Γ := ⟨P, w, K, mg, base⟩) (mkDef X G (c.2.def_ 69 (d := d_law_turn) rfl) (c.2.fact 42 (f := .glo "_law_turn") rfl) (fun _ _ _ _ _ _ us hl => match us, hl with | [_], _ => rfl)) k_oneL
  have k_becomes := ok_becomes (Γ := ⟨P, w, K, mg, base⟩) (mkDef X G (c.2.def_ 61 (d := d_law_becomes) rfl) (c.2.fact 34 (f := .glo "_law_becomes") rfl) (fun _ _ _ _ _ _ us hl => match us, hl with | [_, _], _ => rfl))
  have k_both := ok_both (Γ := ⟨P, w, K, mg, base⟩) (mkDef X G (c.2.def_ 65 (d := d_law_both) rfl) (c.2.fact 38 (f := .glo "_law_both") rfl) (fun _ _ _ _ _ _ us hl => match us, hl with | [_, _], _ => rfl)) k_becomes
  have k_undone := ok_undone (Γ := ⟨P, w, K, mg, base⟩) (mkDef X G (c.2.def_ 66 (d := d_law_undone) rfl) (c.2.fact 39 (f := .glo "_law_undone") rfl) (fun _ _ _ _ _ _ us hl => match us, hl with | [_], _ => rfl))
  have k_lsign := ok_lsign (Γ := ⟨P, w, K, mg, base⟩) (mkDef X G (c.2.def_ 59 (d := d_law_sign) rfl) (c.2.fact 32 (f := .glo "_law_sign") rfl) (fun _ _ _ _ _ _ us hl => match us, hl with | [_, _], _ => rfl))
  have k_lgoes := ok_lgoes (Γ := ⟨P, w, K, mg, base⟩) (mkDef X G (c.2.def_ 60 (d := d_law_goes) rfl) (c.2.fact 33 (f := .glo "_law_goes") rfl) (fun _ _ _ _ _ _ us hl => match us, hl with | [_, _, _], _ => rfl)) k_lsign
  have k_lbehind := ok_lbehind (Γ := ⟨P, w, K, mg, base⟩) (mkDef X G (c.2.def_ 62 (d := d_law_behind) rfl) (c.2.fact 35 (f := .glo "_law_behind") rfl) (fun _ _ _ _ _ _ us hl => match us, hl with | [_, _, _], _ => rfl)) k_lsign k_lgoes k_becomes
  have k_lgone := ok_lgone (Γ := ⟨P, w, K, mg, base⟩) (mkDef X G (c.2.def_ 63 (d := d_law_gone) rfl) (c.2.fact 36 (f := .glo "_law_gone") rfl) (fun _ _ _ _ _ _ us hl => match us, hl with | [_, _], _ => rfl)) k_lbehind
  have k_lline := ok_lline (Γ := ⟨P, w, K, mg, base⟩) (mkDef X G (c.2.def_ 64 (d := d_law_line) rfl) (c.2.fact 37 (f := .glo "_law_line") rfl) (fun _ _ _ _ _ _ us hl => match us, hl with | [_, _], _ => rfl)) k_take k_oneS
  have k_lspun := ok_lspun (Γ := ⟨P, w, K, mg, base⟩) (mkDef X G (c.2.def_ 67 (d := d_law_spun) rfl) (c.2.fact 40 (f := .glo "_law_spun") rfl) (fun _ _ _ _ _ _ us hl => match us, hl with | [_, _, _, _], _ => rfl)) k_becomes
  have k_spots := ok_spots (Γ := ⟨P, w, K, mg, base⟩) (mkDef X G (c.2.def_ 56 (d := d_law_spots) rfl) (c.2.fact 29 (f := .glo "_law_spots") rfl) (fun _ _ _ _ _ _ us hl => match us, hl with | [_, _], _ => rfl))
  have k_bspun := ok_bspun (Γ := ⟨P, w, K, mg, base⟩) (mkDef X G (c.2.def_ 68 (d := d_law_book_spun) rfl) (c.2.fact 41 (f := .glo "_law_book_spun") rfl) (fun _ _ _ _ _ _ us hl => match us, hl with | [_, _], _ => rfl)) k_undone k_both
  have k_strange := ok_strange (Γ := ⟨P, w, K, mg, base⟩) (mkDef X G (c.2.def_ 72 (d := d_law_strange) rfl) (c.2.fact 45 (f := .glo "_law_strange") rfl) (fun _ _ _ _ _ _ us hl => match us, hl with | [_, _], _ => rfl)) k_bspun
  have k_lfirst := ok_lfirst (Γ := ⟨P, w, K, mg, base⟩) (mkDef X G (c.2.def_ 73 (d := d_law_first_coming) rfl) (c.2.fact 46 (f := .glo "_law_first_coming") rfl) (fun _ _ _ _ _ _ us hl => match us, hl with | [_, _, _], _ => rfl)) k_lgone k_lsign
  have k_lineTo := ok_lineTo (Γ := ⟨P, w, K, mg, base⟩) (mkDef X G (c.2.def_ 74 (d := d_law_line_to) rfl) (c.2.fact 47 (f := .glo "_law_line_to") rfl) (fun _ _ _ _ _ _ us hl => match us, hl with | [_, _, _, _], _ => rfl)) k_lbehind k_lsign k_take k_oneS k_oneL
  have k_is_stand := ok_is_stand (Γ := ⟨P, w, K, mg, base⟩) (mkDef X G (c.2.def_ 27 (d := d_is_stand) rfl) (c.2.fact 15 (f := .glo "is_stand") rfl) (fun _ _ _ _ _ _ us hl => match us, hl with | [_, _], _ => rfl)) k_can_stand k_is_turn
  have k_wfloor := ok_wfloor (Γ := ⟨P, w, K, mg, base⟩) (mkMDef (C := "World") (c.2.def_ 33 (d := d_World_floor) rfl) (c.2.fact 88 (f := .meth "World" "floor") rfl) (fun _ _ _ _ _ _ us hl => match us, hl with | [_], _ => rfl))
  have k_wbook := ok_wbook (Γ := ⟨P, w, K, mg, base⟩) (mkMDef (C := "World") (c.2.def_ 34 (d := d_World_book) rfl) (c.2.fact 89 (f := .meth "World" "book") rfl) (fun _ _ _ _ _ _ us hl => match us, hl with | [_], _ => rfl))
  have k_wwishes := ok_wwishes (Γ := ⟨P, w, K, mg, base⟩) (mkMDef (C := "World") (c.2.def_ 35 (d := d_World_wishes) rfl) (c.2.fact 90 (f := .meth "World" "wishes") rfl) (fun _ _ _ _ _ _ us hl => match us, hl with | [_], _ => rfl))
  have k_wstart := ok_wstart (Γ := ⟨P, w, K, mg, base⟩) (mkMDef (C := "World") (c.2.def_ 36 (d := d_World_start) rfl) (c.2.fact 91 (f := .meth "World" "start") rfl) (fun _ _ _ _ _ _ us hl => match us, hl with | [_], _ => rfl))
  have k_wwant := ok_wwant (Γ := ⟨P, w, K, mg, base⟩) (mkMDef (C := "World") (c.2.def_ 37 (d := d_World_want_stand) rfl) (c.2.fact 92 (f := .meth "World" "want_stand") rfl) (fun _ _ _ _ _ _ us hl => match us, hl with | [_, _], _ => rfl)) k_is_stand
  have k_wbehind := ok_wbehind (Γ := ⟨P, w, K, mg, base⟩) (mkMDef (C := "World") (c.2.def_ 39 (d := d_World_behind) rfl) (c.2.fact 94 (f := .meth "World" "behind") rfl) (fun _ _ _ _ _ _ us hl => match us, hl with | [_, _, _], _ => rfl)) k_goes k_seen k_way k_then
  have k_wafter := ok_wafter (Γ := ⟨P, w, K, mg, base⟩) (mkMDef (C := "World") (c.2.def_ 40 (d := d_World_after) rfl) (c.2.fact 95 (f := .meth "World" "after") rfl) (fun _ _ _ _ _ _ us hl => match us, hl with | [_, _, _], _ => rfl)) k_wwant k_wbehind k_want_deed
  have k_hstart := ok_hstart (Γ := ⟨P, w, K, mg, base⟩) (mkMDef (C := "Hand") (c.2.def_ 47 (d := d_Hand_start) rfl) (c.2.fact 96 (f := .meth "Hand" "start") rfl) (fun _ _ _ _ _ _ us hl => match us, hl with | [_], _ => rfl)) k_wstart
  have k_hwant := ok_hwant (Γ := ⟨P, w, K, mg, base⟩) (mkMDef (C := "Hand") (c.2.def_ 48 (d := d_Hand_want_stands) rfl) (c.2.fact 97 (f := .meth "Hand" "want_stands") rfl) (fun _ _ _ _ _ _ us hl => match us, hl with | [_, _], _ => rfl)) k_is_stand k_wfloor
  have k_hafter := ok_hafter (Γ := ⟨P, w, K, mg, base⟩) (mkMDef (C := "Hand") (c.2.def_ 49 (d := d_Hand_after) rfl) (c.2.fact 98 (f := .meth "Hand" "after") rfl) (fun _ _ _ _ _ _ us hl => match us, hl with | [_, _, _], _ => rfl)) k_hwant k_want_deed k_wafter
  have k_hwalk := ok_hwalk (Γ := ⟨P, w, K, mg, base⟩) (mkMDef (C := "Hand") (c.2.def_ 50 (d := d_Hand_walk) rfl) (c.2.fact 99 (f := .meth "Hand" "walk") rfl) (fun _ _ _ _ _ _ us hl => match us, hl with | [_, _], _ => rfl)) k_want_row k_hstart k_hafter
  have k_right := ok_right (Γ := ⟨P, w, K, mg, base⟩) (mkDef X G (c.2.def_ 75 (d := d_law_right) rfl) (c.2.fact 48 (f := .glo "_law_right") rfl) (fun _ _ _ _ _ _ us hl => match us, hl with | [_, _, _, _], _ => rfl)) k_hwalk k_lfirst k_lgone
  have k_is_book := ok_is_book (Γ := ⟨P, w, K, mg, base⟩) (mkDef X G (c.2.def_ 28 (d := d_is_book) rfl) (c.2.fact 16 (f := .glo "is_book") rfl) (fun _ _ _ _ _ _ us hl => match us, hl with | [_, _], _ => rfl)) (k_letters.mono (by decide)) k_is_turn
  have k_are_wishes := ok_are_wishes (Γ := ⟨P, w, K, mg, base⟩) (mkDef X G (c.2.def_ 29 (d := d_are_wishes) rfl) (c.2.fact 17 (f := .glo "are_wishes") rfl) (fun _ _ _ _ _ _ us hl => match us, hl with | [_, _], _ => rfl)) k_has
  have k_first_wrong := ok_first_wrong (Γ := ⟨P, w, K, mg, base⟩) (mkDef X G (c.2.def_ 30 (d := d_first_wrong) rfl) (c.2.fact 18 (f := .glo "first_wrong") rfl) (fun _ _ _ _ _ _ us hl => match us, hl with | [_, _, _, _, _], _ => rfl)) k_has k_opens k_is_turn k_is_book k_are_wishes
  have k_World := world_ok (P := P) (w := w) (mg := mg) (base := base) c k_first_wrong (k_letters.mono (by decide))
  have k_begun := ok_begun (Γ := ⟨P, w, K, mg, base⟩) (mkMDef (C := "World") (c.2.def_ 38 (d := d_World_begun) rfl) (c.2.fact 93 (f := .meth "World" "begun") rfl) (fun _ _ _ _ _ _ us hl => match us, hl with | [_, _], _ => rfl)) k_wwant k_World
  have k_stand_pictured := ok_stand_pictured (Γ := ⟨P, w, K, mg, base⟩) (mkDef X G (c.2.def_ 42 (d := d_stand_pictured) rfl) (c.2.fact 20 (f := .glo "stand_pictured") rfl) (fun _ _ _ _ _ _ us hl => match us, hl with | [_, _, _], _ => rfl)) k_place_turned k_then
  have k_hand_turned := ok_hand_turned (Γ := ⟨P, w, K, mg, base⟩) (mkDef X G (c.2.def_ 44 (d := d_hand_turned) rfl) (c.2.fact 22 (f := .glo "hand_turned") rfl) (fun _ _ _ _ _ _ us hl => match us, hl with | [_, _], _ => rfl)) k_want_turn k_wstart k_begun k_then
  have k_weq := ok_weq (Γ := ⟨P, w, K, mg, base⟩) (mkMDef (C := "World") (c.2.def_ 32 (d := d_World_eq) rfl) (c.2.fact 87 (f := .meth "World" "__eq__") rfl) (fun _ _ _ _ _ _ us hl => match us, hl with | [_, _], _ => rfl)) k_feq eqF
  have k_are_worlds := ok_are_worlds (Γ := ⟨P, w, K, mg, base⟩) (mkDef X G (c.2.def_ 45 (d := d_are_worlds) rfl) (c.2.fact 23 (f := .glo "are_worlds") rfl) (fun _ _ _ _ _ _ us hl => match us, hl with | [_], _ => rfl))
  obtain ⟨fd_Hand, F_Hand⟩ := c.2.def_ 46 (d := d_Hand_init) rfl
  have k_hinit := ok_hinit (Γ := ⟨P, w, K, mg, base⟩) F_Hand (He.mkr_ok (c.2.fact 75 (f := .mkr "Hand") rfl)) (F_Hand.bindsN (fun _ _ _ _ _ _ us hl => match us, hl with | [_, _], _ => rfl)) k_are_worlds
  have k_made := ok_made (Γ := ⟨P, w, K, mg, base⟩) (mkDef X G (c.2.def_ 58 (d := d_law_made) rfl) (c.2.fact 31 (f := .glo "_law_made") rfl) (fun _ _ _ _ _ _ us hl => match us, hl with | [_], _ => rfl)) k_finit k_World
  have k_place_turnedP := ok_place_turnedP (Γ := ⟨P, w, K, mg, base⟩) (mkDef X G (c.2.def_ 11 (d := d_place_turned) rfl) (c.2.fact 11 (f := .glo "place_turned") rfl) (fun _ _ _ _ _ _ us hl => match us, hl with | [_, _, _, _], _ => rfl)) k_want_turn k_is_place
  have k_picture := ok_picture (Γ := ⟨P, w, K, mg, base⟩) (mkMDef (C := "Floor") (c.2.def_ 26 (d := d_Floor_picture) rfl) (c.2.fact 86 (f := .meth "Floor" "picture") rfl) (fun _ _ _ _ _ _ us hl => match us, hl with | [_, _], _ => rfl)) k_want_turn k_size k_place_turnedP k_seen k_places k_finit
  have k_kept_by := ok_kept_by (Γ := ⟨P, w, K, mg, base⟩) (mkDef X G (c.2.def_ 41 (d := d_kept_by) rfl) (c.2.fact 19 (f := .glo "kept_by") rfl) (fun _ _ _ _ _ _ us hl => match us, hl with | [_], _ => rfl)) k_picture k_feq
  have k_in_mirror := ok_in_mirror (Γ := ⟨P, w, K, mg, base⟩) (mkDef X G (c.2.def_ 43 (d := d_in_mirror) rfl) (c.2.fact 21 (f := .glo "in_mirror") rfl) (fun _ _ _ _ _ _ us hl => match us, hl with | [_, _], _ => rfl)) k_want_turn k_wfloor k_size k_wbook k_then k_back k_place_turned k_wwishes k_picture k_opens k_World k_begun k_stand_pictured k_wstart
  have k_land := ok_land (Γ := ⟨P, w, K, mg, base⟩) (mkDef X G (c.2.def_ 57 (d := d_law_land) rfl) (c.2.fact 30 (f := .glo "_law_land") rfl) (fun _ _ _ _ _ _ us hl => match us, hl with | [_, _], _ => rfl)) k_take k_oneL k_sense k_spots
  have k_kept_rows := ok_kept_rows (Γ := ⟨P, w, K, mg, base⟩) (mkDef X G (c.2.def_ 70 (d := d_law_kept_rows) rfl) (c.2.fact 43 (f := .glo "_law_kept_rows") rfl) (fun _ _ _ _ _ _ us hl => match us, hl with | [_, _, _], _ => rfl)) k_oneL k_oneS k_lspun
  have k_kept_land := ok_kept_land (Γ := ⟨P, w, K, mg, base⟩) (mkDef X G (c.2.def_ 71 (d := d_law_kept_land) rfl) (c.2.fact 44 (f := .glo "_law_kept_land") rfl) (fun _ _ _ _ _ _ us hl => match us, hl with | [_, _], _ => rfl)) k_land k_kept_rows k_spots k_lspun k_oneL k_turn k_both k_undone k_take
  exact fn_ok (Γ := ⟨P, w, K, mg, base⟩) F sc_law (fun _ _ => rfl) fun l hl => law_body (Γ := ⟨P, w, K, mg, base⟩) k_source k_turn k_kept_land k_made k_both k_undone k_in_mirror k_hand_turned k_strange k_kept_by k_wfloor k_wstart k_lspun k_weq k_hinit k_lline k_lineTo k_right l hl
end
end Oh
open PySem PySem.W PySem.Calls PyProof.Rows
theorem PySem.Challenge.cw_onehand_k81_whole_symmetry_broken_by_one_holds : PySem.Challenge.rw_onehand_k81_whole_symmetry_broken_by_one.Holds := by
  w_on; o_law
  refine HandSHeadRun.head_any (r := Oh.Rw) (q := view Oh.Rw.prog [82]) (H := Oh.hkX) (ob := Oh.obX) (M := 20000) (loose := Oh.nams) (d := HandSHeadRun.topDef Oh.Rw.prog 82) (kwd := []) Oh.obX_eq (by kernel_rfl) (fun s => by kernel_rfl) Oh.runX (by kernel_rfl) (by kernel_rfl) (by kernel_rfl) (by rfl)
    (by first | assumption | decide +kernel) (by decide +kernel) ⟨rfl, rfl, rfl, rfl, rfl, by decide +kernel⟩ ?hw ?hc
  case hw => w_witness2
  case hc =>
    refine L2.walk_ofE (l := PySem.Challenge.rw_onehand_k81_whole_symmetry_broken_by_one) (n := 63) (k := 13) (x := "_law_script") (CX := L2.CX0) rfl (by decide) (by kernel_rfl) ⟨rfl, by decide, by decide⟩ ?F (fun _ _ _ _ z => z)
    intro w mg fa h Y G hmg0
    obtain ⟨K, KX, c⟩ := Y
    have hmg : mg ("law" : PySem.Str) = some (.ref fa) := by
      have e : (HandSHeadRun.topDef Oh.Rw.prog 82).name = ("law" : PySem.Str) := by kernel_rfl
      rw [← e]
      exact hmg0
    have hfa := hmg.symm.trans (He.glo_ok KX G (c.2.fact 49 (f := .glo "law") rfl))
    cases hfa
    obtain ⟨fd, F⟩ := c.2.def_ 76 (d := Oh.d_law) rfl
    have b := L2.FunD.bindsA (ps := ["_law_script"]) F fun _ _ _ _ _ _ us hl => match us, hl with | [_], _ => rfl
    refine ⟨K, fd, Oh.spC K Oh.c_law, KX, fun s v => b s [v] rfl, fun H a ns hl _ hS => ?_, fun base _ _ => Oh.law_fn KX G c F⟩
    refine ⟨ns, H, hl, Oh.Ex.refl H, ⟨?_, trivial⟩, fun v G' H' z _ e i => ?_⟩
    · exact L2.Dp.lst hS (Oh.ints_dps ns)
    · cases e
      exact Oh.is_bool i
