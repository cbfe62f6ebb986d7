import PyProof.Rows.All
import Wide.All
import OpenK.AllK
import Wide.FinOn
import HandS.ForMost
import HandS.Exc
import HandS.ExcOwn
import HandS.WordsExc
import HandS.Walk
import HandS.Lambda
import HandS.TupAny
import HandS.WideBits
import HandS.IsInst
import HandS.TupLe
import HandS.Flow
import PyProof.ReprRoads
import HandS.Zip
import KE.GoesEnum
import HandS.Style
import HandS.StrMore
import HandS.ExcValue
import HandS.ExcIs
import HandS.EndTab
import KE.KNest
import HandS.Conv
import HandS.Comp
import PyProof.ListStr
import HandS.More
import KE.BitLaws
import PySem.Challenge.RW_leftminus_k01_words_that_go_past
import PyProof.Rows.StrJoinLen
import KE.KExcLine
set_option Elab.async false
set_option linter.all false
set_option maxRecDepth 100000
set_option maxHeartbeats 2000000
/-! D: data without heap over the hand layer, cells for what changes, a small monad of results, and the expressions' readings by it. -/
namespace DX
/-- the tables of code objects that are looked at -/
class TabT where
  T : List (PySem.Addr × PySem.Str)
variable [TabT]
open PySem L2
abbrev Frag := PySem.W.Frag

inductive Dt where
  | non | bl (b : Bool) | int (i : Int) | str (s : Str)
  | tup (l : List Dt) | lst (l : List Dt) | dic (l : List (Key × Dt)) | obj (C : Addr) (l : List (Str × Dt))
  | op (v : V) | scr (l : List Int) | exn (C : Addr)

inductive Wv where
  | dat (d : Dt) | cel (k : Nat)
inductive Cell where
  | lst (l : List Wv) | dic (l : List (Key × Wv)) | ins (C : Addr) (l : List (Str × Wv)) | dead

/-- an own class whose instances are looked at -/
structure OwnC (K : Frag) (C : Addr) : Prop where
  cl : Cls K C
  ha : PySem.W.findIn K (.ref C) "__class__" = some (some (.builtin "object.__class__"))
  hn : PySem.W.specialIn K (.builtin "object.__class__") "__get__" = some (some (.builtin "getset_descriptor.__get__"))
  ht : PySem.W.takesIn K (.builtin "object.__class__") = some true
  hm : PySem.W.mroIn K C (.type "object") = some true
  kt : ∀ m ∈ (["NoneType", "bool", "int", "str", "tuple", "list", "dict"] : List String), PySem.W.kitOne K (.ref C) (.type m) = some false
/-- a tuple, tracked or of the module -/
def TupAt (K : Frag) (H : Hp) (a : Addr) (xs : List V) : Prop :=
  H a = some (.tup xs) ∨ ∃ (o : Obj) (its : Array Value) (n : Nat), K.lookup a = some o ∧ o.cls = .type "tuple" ∧ o.data = .seq its n ∧ its.size ≤ sizeLine ∧ Vals xs its.toList
theorem TupAt.sq {K : Frag} {H : Hp} {a : Addr} {xs : List V} (h : TupAt K H a xs) : SqT K H a xs := by
  rcases h with h | h
  · exact .inl (.inl h)
  · exact .inr h
/-- an exception of an own class that was caught, at a -/
def ExT (C a : Addr) : HO := .ext fun h => ∃ (oe : Obj) (vs : Array Value), h.get? a = some oe ∧ Zc (.ref C) none oe ∧ oe.data = .fields vs
mutual
inductive RepD (K : Frag) (H : Hp) : V → Dt → Prop
  | non : RepD K H .non .non
  | bl (b : Bool) : RepD K H (.bl b) (.bl b)
  | int (i : Int) : RepD K H (.int i) (.int i)
  | str (s : Str) : RepD K H (.str s) (.str s)
  | tup {a : Addr} {xs : List V} {ds : List Dt} : TupAt K H a xs → RepL K H xs ds → RepD K H (.ref a) (.tup ds)
  | lst {a : Addr} {xs : List V} {ds : List Dt} : H a = some (.lst xs) → RepL K H xs ds → RepD K H (.ref a) (.lst ds)
  | dic {a : Addr} {xs : List (Key × V)} {ds : List (Key × Dt)} : H a = some (.dK xs) → RepK K H xs ds → RepD K H (.ref a) (.dic ds)
  | obj {a C dx : Addr} {xs : List (Str × V)} {ds : List (Str × Dt)} : H a = some (.ins C dx xs) → OwnC K C → RepF K H xs ds → RepD K H (.ref a) (.obj C ds)
  | op (v : V) : RepD K H v (.op v)
  | scr {a : Addr} {ns : List Int} : SqL K H a (ns.map V.int) → RepD K H (.ref a) (.scr ns)
  | exn {a C : Addr} : H a = some (ExT C a) → RepD K H (.ref a) (.exn C)
inductive RepL (K : Frag) (H : Hp) : List V → List Dt → Prop
  | nil : RepL K H [] []
  | cons {v : V} {vs : List V} {d : Dt} {ds : List Dt} : RepD K H v d → RepL K H vs ds → RepL K H (v :: vs) (d :: ds)
inductive RepK (K : Frag) (H : Hp) : List (Key × V) → List (Key × Dt) → Prop
  | nil : RepK K H [] []
  | cons {k : Key} {v : V} {vs : List (Key × V)} {d : Dt} {ds : List (Key × Dt)} : RepD K H v d → RepK K H vs ds → RepK K H ((k, v) :: vs) ((k, d) :: ds)
inductive RepF (K : Frag) (H : Hp) : List (Str × V) → List (Str × Dt) → Prop
  | nil : RepF K H [] []
  | cons {k : Str} {v : V} {vs : List (Str × V)} {d : Dt} {ds : List (Str × Dt)} : RepD K H v d → RepF K H vs ds → RepF K H ((k, v) :: vs) ((k, d) :: ds)
end

/-- all that H tells H' tells -/
def Ex (H H' : Hp) : Prop := ∀ a o, H a = some o → H' a = some o
theorem Ex.refl (H : Hp) : Ex H H := fun _ _ h => h
theorem Ex.trans {H H1 H2 : Hp} (a : Ex H H1) (b : Ex H1 H2) : Ex H H2 := fun x o h => b x o (a x o h)
theorem Ex.new {H : Hp} {p : Addr} {o : HO} (h : H p = none) : Ex H (upd H p o) := fun a u e => by
  rw [upd_ne (ne_of_none e h)]
  exact e
theorem Ex.out {H H' : Hp} {p : Addr} {o : HO} (e : Ex H H') (h : H p = none) : Ex H (upd H' p o) := fun a u ha => by
  rw [upd_ne (ne_of_none ha h)]
  exact e a u ha
theorem Ex.both {H H' : Hp} {p : Addr} {o : HO} (e : Ex H H') : Ex (upd H p o) (upd H' p o) := fun a u ha => by
  by_cases h : a = p
  · subst h
    rw [upd_same] at ha ⊢
    exact ha
  · rw [upd_ne h] at ha ⊢
    exact e a u ha
theorem Ex.back {H H' : Hp} {p : Addr} (e : Ex H H') (h : H' p = none) : H p = none := by
  cases h1 : H p with
  | none => rfl
  | some o =>
    rw [e p o h1] at h
    cases h
theorem ex_rd {H H' : Hp} {a : Addr} {u : HO} (e : Ex H H') (h : Rd H a u) : Rd H' a u := by
  rcases h with h | ⟨o, h⟩
  · exact Or.inl (e a _ h)
  · exact Or.inr ⟨o, e a _ h⟩
theorem ex_l {K : Frag} {H H' : Hp} {a : Addr} {xs : List V} (e : Ex H H') (h : SqL K H a xs) : SqL K H' a xs := by
  rcases h with h | h
  · exact Or.inl (ex_rd e h)
  · exact Or.inr h
theorem ex_t {K : Frag} {H H' : Hp} {a : Addr} {xs : List V} (e : Ex H H') (h : TupAt K H a xs) : TupAt K H' a xs := by
  rcases h with h | h
  · exact Or.inl (e a _ h)
  · exact Or.inr h
mutual
theorem RepD.mono {K : Frag} {H H' : Hp} (e : Ex H H') : ∀ (d : Dt) (v : V), RepD K H v d → RepD K H' v d
  | .non, _, h => by cases h; exact .non
  | .bl b, _, h => by cases h; exact .bl b
  | .int i, _, h => by cases h; exact .int i
  | .str s, _, h => by cases h; exact .str s
  | .tup ds, _, h => by
    cases h with
    | tup hs hl => exact .tup (ex_t e hs) (RepL.mono e ds _ hl)
  | .lst ds, _, h => by
    cases h with
    | lst hs hl => exact .lst (e _ _ hs) (RepL.mono e ds _ hl)
  | .dic ds, _, h => by
    cases h with
    | dic hs hl => exact .dic (e _ _ hs) (RepK.mono e ds _ hl)
  | .obj C ds, _, h => by
    cases h with
    | obj hs hc hl => exact .obj (e _ _ hs) hc (RepF.mono e ds _ hl)
  | .op v, _, h => by cases h; exact .op v
  | .exn C, _, h => by
    cases h with
    | exn hs => exact .exn (e _ _ hs)
  | .scr l, _, h => by
    cases h with
    | scr hs => exact .scr (ex_l e hs)
theorem RepL.mono {K : Frag} {H H' : Hp} (e : Ex H H') : ∀ (ds : List Dt) (vs : List V), RepL K H vs ds → RepL K H' vs ds
  | [], _, h => by cases h; exact .nil
  | d :: ds, _, h => by
    cases h with
    | cons h1 h2 => exact .cons (RepD.mono e d _ h1) (RepL.mono e ds _ h2)
theorem RepK.mono {K : Frag} {H H' : Hp} (e : Ex H H') : ∀ (ds : List (Key × Dt)) (vs : List (Key × V)), RepK K H vs ds → RepK K H' vs ds
  | [], _, h => by cases h; exact .nil
  | (k, d) :: ds, _, h => by
    cases h with
    | cons h1 h2 => exact .cons (RepD.mono e d _ h1) (RepK.mono e ds _ h2)
theorem RepF.mono {K : Frag} {H H' : Hp} (e : Ex H H') : ∀ (ds : List (Str × Dt)) (vs : List (Str × V)), RepF K H vs ds → RepF K H' vs ds
  | [], _, h => by cases h; exact .nil
  | (k, d) :: ds, _, h => by
    cases h with
    | cons h1 h2 => exact .cons (RepD.mono e d _ h1) (RepF.mono e ds _ h2)
end
theorem RepL.len {K : Frag} {H : Hp} : ∀ {vs : List V} {ds : List Dt}, RepL K H vs ds → vs.length = ds.length
  | [], _, h => by cases h; rfl
  | v :: vs, _, h => by
    cases h with
    | cons h1 h2 => simp [RepL.len h2]
theorem RepL.get {K : Frag} {H : Hp} : ∀ {vs : List V} {ds : List Dt} {i : Nat} {d : Dt}, RepL K H vs ds → ds[i]? = some d → ∃ v, vs[i]? = some v ∧ RepD K H v d
  | [], _, i, d, h, e => by cases h; simp at e
  | v :: vs, _, i, d, h, e => by
    cases h with
    | cons h1 h2 =>
      cases i with
      | zero =>
        simp at e
        subst e
        exact ⟨v, rfl, h1⟩
      | succ i =>
        simp at e
        obtain ⟨u, q1, q2⟩ := RepL.get h2 e
        exact ⟨u, by simpa using q1, q2⟩
theorem RepL.app {K : Frag} {H : Hp} : ∀ {vs us : List V} {ds es : List Dt}, RepL K H vs ds → RepL K H us es → RepL K H (vs ++ us) (ds ++ es)
  | [], _, _, _, h, g => by cases h; exact g
  | v :: vs, _, _, _, h, g => by
    cases h with
    | cons h1 h2 => exact .cons h1 (RepL.app h2 g)
theorem RepL.take {K : Frag} {H : Hp} : ∀ {vs : List V} {ds : List Dt} (n : Nat), RepL K H vs ds → RepL K H (vs.take n) (ds.take n)
  | [], _, n, h => by cases h; simp; exact .nil
  | v :: vs, _, n, h => by
    cases h with
    | cons h1 h2 =>
      cases n with
      | zero => exact .nil
      | succ n => exact .cons h1 (RepL.take n h2)
theorem RepL.drop {K : Frag} {H : Hp} : ∀ {vs : List V} {ds : List Dt} (n : Nat), RepL K H vs ds → RepL K H (vs.drop n) (ds.drop n)
  | [], _, n, h => by cases h; simp; exact .nil
  | v :: vs, _, n, h => by
    cases h with
    | cons h1 h2 =>
      cases n with
      | zero => exact .cons h1 h2
      | succ n => exact RepL.drop n h2

/-! ### the world: what is frozen, where the cells stand -/
structure Wo where
  Hs : Hp
  ad : List Addr
  T : List (Addr × Str)
  fr : Hp
def RepW (K : Frag) (ω : Wo) (v : V) : Wv → Prop
  | .dat d => RepD K ω.Hs v d
  | .cel k => ∃ a, ω.ad[k]? = some a ∧ v = .ref a
structure Le (ω ω' : Wo) : Prop where
  ex : Ex ω.Hs ω'.Hs
  ad : ω.ad <+: ω'.ad
  tb : ω'.T = ω.T
  fr : ω'.fr = ω.fr
theorem Le.refl (ω : Wo) : Le ω ω := ⟨Ex.refl _, List.prefix_refl _, rfl, rfl⟩
theorem Le.trans {a b c : Wo} (h : Le a b) (g : Le b c) : Le a c := ⟨h.ex.trans g.ex, h.ad.trans g.ad, g.tb.trans h.tb, g.fr.trans h.fr⟩
theorem Le.at {ω ω' : Wo} (h : Le ω ω') {k : Nat} {a : Addr} (e : ω.ad[k]? = some a) : ω'.ad[k]? = some a := by
  obtain ⟨t, ht⟩ := h.ad
  have hk : k < ω.ad.length := by
    cases q : (decide (k < ω.ad.length)) with
    | true => exact of_decide_eq_true q
    | false =>
      rw [List.getElem?_eq_none (by have := of_decide_eq_false q; omega)] at e
      cases e
  rw [← ht, List.getElem?_append_left hk]
  exact e
theorem RepW.mono {K : Frag} {ω ω' : Wo} {v : V} {w : Wv} (l : Le ω ω') (h : RepW K ω v w) : RepW K ω' v w := by
  cases w with
  | dat d => exact RepD.mono l.ex d v h
  | cel k =>
    obtain ⟨a, e1, e2⟩ := h
    exact ⟨a, l.at e1, e2⟩
inductive RepWs (K : Frag) (ω : Wo) : List V → List Wv → Prop
  | nil : RepWs K ω [] []
  | cons {v : V} {vs : List V} {w : Wv} {ws : List Wv} : RepW K ω v w → RepWs K ω vs ws → RepWs K ω (v :: vs) (w :: ws)
inductive RepWk (K : Frag) (ω : Wo) : List (Key × V) → List (Key × Wv) → Prop
  | nil : RepWk K ω [] []
  | cons {k : Key} {v : V} {vs : List (Key × V)} {w : Wv} {ws : List (Key × Wv)} : RepW K ω v w → RepWk K ω vs ws → RepWk K ω ((k, v) :: vs) ((k, w) :: ws)
inductive RepWf (K : Frag) (ω : Wo) : List (Str × V) → List (Str × Wv) → Prop
  | nil : RepWf K ω [] []
  | cons {k : Str} {v : V} {vs : List (Str × V)} {w : Wv} {ws : List (Str × Wv)} : RepW K ω v w → RepWf K ω vs ws → RepWf K ω ((k, v) :: vs) ((k, w) :: ws)
theorem RepWf.mono {K : Frag} {ω ω' : Wo} (l : Le ω ω') {vs : List (Str × V)} {ws : List (Str × Wv)} (h : RepWf K ω vs ws) : RepWf K ω' vs ws := by
  induction h with
  | nil => exact .nil
  | cons h1 _ ih => exact .cons (h1.mono l) ih
theorem RepWs.mono {K : Frag} {ω ω' : Wo} (l : Le ω ω') {vs : List V} {ws : List Wv} (h : RepWs K ω vs ws) : RepWs K ω' vs ws := by
  induction h with
  | nil => exact .nil
  | cons h1 _ ih => exact .cons (h1.mono l) ih
theorem RepWk.mono {K : Frag} {ω ω' : Wo} (l : Le ω ω') {vs : List (Key × V)} {ws : List (Key × Wv)} (h : RepWk K ω vs ws) : RepWk K ω' vs ws := by
  induction h with
  | nil => exact .nil
  | cons h1 _ ih => exact .cons (h1.mono l) ih
theorem RepWs.len {K : Frag} {ω : Wo} {vs : List V} {ws : List Wv} (h : RepWs K ω vs ws) : vs.length = ws.length := by
  induction h with
  | nil => rfl
  | cons _ _ ih => simp [ih]
theorem RepWs.app {K : Frag} {ω : Wo} {vs us : List V} {ws zs : List Wv} (h : RepWs K ω vs ws) (g : RepWs K ω us zs) : RepWs K ω (vs ++ us) (ws ++ zs) := by
  induction h with
  | nil => exact g
  | cons h1 _ ih => exact .cons h1 ih
/-- all are data -/
def dats : List Wv → Option (List Dt)
  | [] => some []
  | .dat d :: ws => (dats ws).map (d :: ·)
  | .cel _ :: _ => none
theorem RepWs.dats {K : Frag} {ω : Wo} : ∀ {vs : List V} {ws : List Wv} {ds : List Dt}, RepWs K ω vs ws → dats ws = some ds → RepL K ω.Hs vs ds
  | _, [], _, h, e => by
    cases h
    simp [DX.dats] at e
    subst e
    exact .nil
  | _, .dat d :: ws, _, h, e => by
    cases h with
    | cons h1 h2 =>
      simp [DX.dats] at e
      obtain ⟨es, e1, rfl⟩ := e
      exact .cons h1 (RepWs.dats h2 e1)
  | _, .cel k :: ws, _, h, e => by simp [DX.dats] at e
theorem RepWs.of {K : Frag} {ω : Wo} : ∀ {vs : List V} {ds : List Dt}, RepL K ω.Hs vs ds → RepWs K ω vs (ds.map .dat)
  | _, [], h => by cases h; exact .nil
  | _, d :: ds, h => by
    cases h with
    | cons h1 h2 => exact .cons h1 (RepWs.of h2)

def NoTbl : HO → Prop
  | .tbl _ => False
  | _ => True
def CellAt (K : Frag) (ω : Wo) (H : Hp) (a : Addr) : Cell → Prop
  | .lst ws => (ω.Hs a = none ∧ ω.fr a = none) ∧ ∃ vs, H a = some (.lst vs) ∧ RepWs K ω vs ws
  | .dic ws => (ω.Hs a = none ∧ ω.fr a = none) ∧ ∃ vs, H a = some (.dK vs) ∧ RepWk K ω vs ws
  | .ins C ws => ((ω.Hs a = none ∧ ω.fr a = none) ∧ OwnC K C) ∧ ∃ dx vs, H a = some (.ins C dx vs) ∧ RepWf K ω vs ws
  | .dead => ∃ o, ω.Hs a = some o
structure Ok (K : Frag) (ω : Wo) (H : Hp) (cs : List Cell) : Prop where
  ex : Ex ω.Hs H
  len : cs.length = ω.ad.length
  nd : ω.ad.Nodup
  cel : ∀ (k : Nat) (a : Addr) (c : Cell), ω.ad[k]? = some a → cs[k]? = some c → CellAt K ω H a c
  tab : LamX.Tabs TabT.T H
  frx : Ex ω.fr H
  dj : ∀ a o, ω.fr a = some o → ω.Hs a = none
  nt : ∀ a o, ω.Hs a = some o → NoTbl o
  nf : ∀ a o, ω.fr a = some o → NoTbl o
theorem Ok.there {K : Frag} {ω : Wo} {H : Hp} {cs : List Cell} (k : Ok K ω H cs) {a : Addr} (h : a ∈ ω.ad) : ∃ o, H a = some o := by
  obtain ⟨i, hi, e⟩ := List.getElem_of_mem h
  have e1 : ω.ad[i]? = some a := by rw [List.getElem?_eq_getElem hi, e]
  have e2 : cs[i]? = some (cs[i]'(by rw [k.len]; exact hi)) := List.getElem?_eq_getElem _
  have q := k.cel i a _ e1 e2
  cases hc : cs[i]'(by rw [k.len]; exact hi) with
  | lst ws => rw [hc] at q; obtain ⟨_, vs, h1, _⟩ := q; exact ⟨_, h1⟩
  | dic ws => rw [hc] at q; obtain ⟨_, vs, h1, _⟩ := q; exact ⟨_, h1⟩
  | ins C ws => rw [hc] at q; obtain ⟨_, dx, vs, h1, _⟩ := q; exact ⟨_, h1⟩
  | dead => rw [hc] at q; obtain ⟨o, h1⟩ := q; exact ⟨o, k.ex _ _ h1⟩
/-- a new object, frozen at once -/
def Wo.froze (ω : Wo) (p : Addr) (o : HO) : Wo := ⟨upd ω.Hs p o, ω.ad, ω.T, ω.fr⟩
/-- a new object that is a cell -/
def Wo.more (ω : Wo) (p : Addr) : Wo := ⟨ω.Hs, ω.ad ++ [p], ω.T, ω.fr⟩
section
variable {K : Frag} {ω : Wo} {H : Hp} {cs : List Cell} {p : Addr} {o : HO}
theorem Le.froze (k : Ok K ω H cs) (hp : H p = none) : Le ω (ω.froze p o) := ⟨Ex.new (k.ex.back hp), List.prefix_refl _, rfl, rfl⟩
theorem Le.more : Le ω (ω.more p) := ⟨Ex.refl _, List.prefix_append _ _, rfl, rfl⟩
theorem CellAt.mono {ω' : Wo} {H' : Hp} {a : Addr} {c : Cell} (l : Le ω ω') (hs : ω.Hs a = none → ω'.Hs a = none) (hh : ∀ o, H a = some o → H' a = some o) (h : CellAt K ω H a c) : CellAt K ω' H' a c := by
  cases c with
  | lst ws => obtain ⟨⟨h0, h3⟩, vs, h1, h2⟩ := h; exact ⟨⟨hs h0, by rw [l.fr]; exact h3⟩, vs, hh _ h1, h2.mono l⟩
  | dic ws => obtain ⟨⟨h0, h3⟩, vs, h1, h2⟩ := h; exact ⟨⟨hs h0, by rw [l.fr]; exact h3⟩, vs, hh _ h1, h2.mono l⟩
  | ins C ws => obtain ⟨⟨⟨h0, h3⟩, hc⟩, dx, vs, h1, h2⟩ := h; exact ⟨⟨⟨hs h0, by rw [l.fr]; exact h3⟩, hc⟩, dx, vs, hh _ h1, h2.mono l⟩
  | dead => obtain ⟨o, h1⟩ := h; exact ⟨o, l.ex _ _ h1⟩
theorem Ok.froze (k : Ok K ω H cs) (hp : H p = none) (hpl : NoTbl o := by exact True.intro) : Ok K (ω.froze p o) (upd H p o) cs := by
  refine ⟨k.ex.both, k.len, k.nd, fun i a c e1 e2 => ?_, k.tab.ext (Ex.new hp), k.frx.trans (Ex.new hp), fun a u e => ?_, fun a u e => ?_, k.nf⟩
  case refine_3 =>
    have e : upd ω.Hs p o a = some u := e
    by_cases h : a = p
    · rw [h, upd_same] at e
      cases e
      exact hpl
    · rw [upd_ne h] at e
      exact k.nt a u e
  case refine_2 =>
    show upd _ _ _ a = none
    rw [upd_ne (ne_of_none e (k.frx.back hp))]
    exact k.dj a u e
  have q := k.cel i a c e1 e2
  obtain ⟨u, hu⟩ := k.there (List.mem_of_getElem? e1)
  have ne : a ≠ p := ne_of_none hu hp
  exact q.mono (Le.froze k hp) (fun z => by show upd _ _ _ a = none; rw [upd_ne ne]; exact z) (fun o z => by rw [upd_ne ne]; exact z)
theorem Ok.more {c : Cell} (k : Ok K ω H cs) (hp : H p = none) (hc : CellAt K (ω.more p) (upd H p o) p c) : Ok K (ω.more p) (upd H p o) (cs ++ [c]) := by
  refine ⟨k.ex.out (k.ex.back hp), by show _ = (ω.ad ++ [p]).length; simp [k.len], ?_, fun i a c' e1 e2 => ?_, k.tab.ext (Ex.new hp), k.frx.trans (Ex.new hp), k.dj, k.nt, k.nf⟩
  · show (ω.ad ++ [p]).Nodup
    refine List.nodup_append.mpr ⟨k.nd, List.nodup_cons.mpr ⟨by simp, List.nodup_nil⟩, fun a ha b hb => ?_⟩
    obtain ⟨u, hu⟩ := k.there ha
    have e : b = p := by simpa using hb
    subst e
    exact ne_of_none hu hp
  · have e1 : (ω.ad ++ [p])[i]? = some a := e1
    by_cases hi : i < ω.ad.length
    · rw [List.getElem?_append_left hi] at e1
      rw [List.getElem?_append_left (by rw [k.len]; exact hi)] at e2
      have q := k.cel i a c' e1 e2
      obtain ⟨u, hu⟩ := k.there (List.mem_of_getElem? e1)
      have ne : a ≠ p := ne_of_none hu hp
      exact q.mono Le.more (fun z => z) (fun o z => by rw [upd_ne ne]; exact z)
    · have hi2 : i = ω.ad.length := by
        cases q : decide (i = ω.ad.length) with
        | true => exact of_decide_eq_true q
        | false =>
          have := of_decide_eq_false q
          rw [List.getElem?_eq_none (by simp; omega)] at e1
          cases e1
      subst hi2
      rw [List.getElem?_append_right (Nat.le_refl _)] at e1
      rw [← k.len, List.getElem?_append_right (Nat.le_refl _)] at e2
      simp at e1 e2
      subst e1
      subst e2
      exact hc
end

/-! ### results -/
inductive R (α : Type) where
  | ok (a : α) (cs : List Cell) | exc (x : Str) (cs : List Cell) | bad
abbrev M (α : Type) := List Cell → R α
@[inline] def M.bind {α β : Type} (m : M α) (f : α → M β) : M β := fun cs => match m cs with
  | .ok a cs' => f a cs'
  | .exc x cs' => .exc x cs'
  | .bad => .bad
def M.ret {α : Type} (a : α) : M α := fun cs => .ok a cs
def M.bad {α : Type} : M α := fun _ => .bad
instance : Monad M where
  pure := M.ret
  bind := M.bind
def M.opt {α : Type} : Option α → M α
  | some a => M.ret a
  | none => M.bad
abbrev En := List (Option Wv)
abbrev Ev := En → M Wv
structure StRep (K : Frag) (ω : Wo) (σ : St) (env : En) : Prop where
  len : σ.length = env.length
  get : ∀ (i : Nat) (w : Wv), env[i]? = some (some w) → ∃ v, σ[i]? = some (some v) ∧ RepW K ω v w
theorem StRep.mono {K : Frag} {ω ω' : Wo} {σ : St} {env : En} (l : Le ω ω') (h : StRep K ω σ env) : StRep K ω' σ env :=
  ⟨h.len, fun i w e => let ⟨v, e1, r⟩ := h.get i w e; ⟨v, e1, r.mono l⟩⟩
theorem StRep.set {K : Frag} {ω : Wo} {σ : St} {env : En} {v : V} {w : Wv} (h : StRep K ω σ env) (i : Nat) (r : RepW K ω v w) : StRep K ω (σ.set i (some v)) (env.set i (some w)) := by
  refine ⟨by simpa using h.len, fun j u e => ?_⟩
  by_cases hj : i = j
  · subst hj
    by_cases hi : i < env.length
    · rw [List.getElem?_set_self hi] at e
      cases e
      exact ⟨v, List.getElem?_set_self (by rw [h.len]; exact hi), r⟩
    · rw [List.getElem?_eq_none (by simpa using hi)] at e
      cases e
  · rw [List.getElem?_set_ne hj] at e ⊢
    exact h.get j u e

abbrev MG := Str → Option Value
/-- how a result is used: E is what is wanted of an exception (the class by its name) -/
def Out (K : Frag) (mg : MG) (E : XK) {α : Type} (ω : Wo) (r : R α) (F : α → Wo → List Cell → Hp → Prop) : Prop :=
  match r with
  | .ok a cs' => ∀ ω' H', Le ω ω' → Ok K ω' H' cs' → F a ω' cs' H'
  | .exc x cs' => ∀ C ω' H', mg x = some (.ref C) → Le ω ω' → Ok K ω' H' cs' → E (.ref C) none H'
  | .bad => False
section
variable {K : Frag} {mg : MG} {E : XK} {α β : Type} {ω ω' : Wo} {F F' : α → Wo → List Cell → Hp → Prop}
theorem Out.le {r : R α} (l : Le ω ω') (h : Out K mg E ω r F) : Out K mg E ω' r F := by
  cases r with
  | ok a cs => exact fun ω2 H2 l2 k2 => h ω2 H2 (l.trans l2) k2
  | exc x cs => exact fun C ω2 H2 m l2 k2 => h C ω2 H2 m (l.trans l2) k2
  | bad => exact h
theorem Out.imp {r : R α} (h : Out K mg E ω r F) (f : ∀ a ω' cs' H', Le ω ω' → Ok K ω' H' cs' → F a ω' cs' H' → F' a ω' cs' H') : Out K mg E ω r F' := by
  cases r with
  | ok a cs => exact fun ω2 H2 l2 k2 => f a ω2 cs H2 l2 k2 (h ω2 H2 l2 k2)
  | exc x cs => exact h
  | bad => exact h
theorem Out.bind {m : M α} {f : α → M β} {cs : List Cell} {G : β → Wo → List Cell → Hp → Prop} (h : Out K mg E ω (M.bind m f cs) G) : Out K mg E ω (m cs) (fun a ω' cs' _ => Out K mg E ω' (f a cs') G) := by
  unfold M.bind at h
  cases e : m cs with
  | ok a cs' =>
    rw [e] at h
    exact fun ω2 H2 l2 k2 => h.le l2
  | exc x cs' =>
    rw [e] at h
    exact h
  | bad =>
    rw [e] at h
    exact h
theorem Out.now {a : α} {cs : List Cell} {H : Hp} (h : Out K mg E ω (.ok a cs) F) (k : Ok K ω H cs) : F a ω cs H := h ω H (Le.refl ω) k
theorem Out.opt {o : Option α} {cs : List Cell} (h : Out K mg E ω (M.opt o cs) F) : ∃ a, o = some a ∧ Out K mg E ω (.ok a cs) F := by
  cases o with
  | none => exact (show False from h).elim
  | some a => exact ⟨a, rfl, h⟩
end

/-- an expression's reading by what it computes -/
def tEv (K : Frag) (mg : MG) (E : XK) (f : Ev) : TE := fun σ H Q => ∃ env cs ω, StRep K ω σ env ∧ Ok K ω H cs ∧ Out K mg E ω (f env cs) fun w ω' _ H' => ∀ v, RepW K ω' v w → Q v H'
def EV (X : Cx) (E : XK) (e : Expr) (f : Ev) : Prop := PE X e (tEv X.K X.mg E f)
/-- .. that makes a new list -/
abbrev EvF := En → M (List Wv)
def tEvF (K : Frag) (mg : MG) (E : XK) (f : EvF) : TE := fun σ H Q => ∃ env cs ω, StRep K ω σ env ∧ Ok K ω H cs ∧ Out K mg E ω (f env cs) fun ws ω' _ H' => ∀ p vs, H' p = none → RepWs K ω' vs ws → Q (.ref p) (upd H' p (.lst vs))
def EVF (X : Cx) (E : XK) (e : Expr) (f : EvF) : Prop := PE X e (tEvF X.K X.mg E f)
/-- a test -/
abbrev EvT := En → M Bool
def tEvT (K : Frag) (mg : MG) (E : XK) (f : EvT) : TT := fun σ H Q => ∃ env cs ω, StRep K ω σ env ∧ Ok K ω H cs ∧ Out K mg E ω (f env cs) fun b _ _ H' => Q b H'
def EVT (X : Cx) (E : XK) (e : Expr) (f : EvT) : Prop := PT X e (tEvT X.K X.mg E f)
/-- arguments -/
abbrev EvA := En → M (List Wv)
def tEvA (K : Frag) (mg : MG) (E : XK) (f : EvA) : TA := fun σ H Q => ∃ env cs ω, StRep K ω σ env ∧ Ok K ω H cs ∧ Out K mg E ω (f env cs) fun ws ω' _ H' => ∀ vs, RepWs K ω' vs ws → Q vs H'
def EVA (X : Cx) (E : XK) (es : List Expr) (f : EvA) : Prop := PA X es (tEvA X.K X.mg E f)

theorem PE.imp {X : Cx} {e : Expr} {t u : TE} (h : PE X e t) (i : ∀ σ H Q, u σ H Q → t σ H Q) : PE X e u := ⟨fun pins s σ H Q I q => h.run pins s σ H Q I (i σ H Q q)⟩
theorem PT.imp {X : Cx} {e : Expr} {t u : TT} (h : PT X e t) (i : ∀ σ H Q, u σ H Q → t σ H Q) : PT X e u := ⟨fun pins s σ H Q I q => h.run pins s σ H Q I (i σ H Q q)⟩
theorem PA.imp {X : Cx} {e : List Expr} {t u : TA} (h : PA X e t) (i : ∀ σ H Q, u σ H Q → t σ H Q) : PA X e u := ⟨fun pos pins s σ H Q I q => h.run pos pins s σ H Q I (i σ H Q q)⟩
theorem PS.imp {X : Cx} {e : Stmt} {t u : TS} (h : PS X e t) (i : ∀ D σ H, u D σ H → t D σ H) : PS X e u := ⟨fun pins s σ H D I q => h.run pins s σ H D I (i D σ H q)⟩
theorem PSs.imp {X : Cx} {e : List Stmt} {t u : TS} (h : PSs X e t) (i : ∀ D σ H, u D σ H → t D σ H) : PSs X e u := ⟨fun pins s σ H D I q => h.run pins s σ H D I (i D σ H q)⟩
end DX

set_option Elab.async false
set_option linter.all false
set_option maxRecDepth 100000
set_option maxHeartbeats 2000000
/-! D2: names, constants, operators, comparisons, tests, subscripts. -/
namespace DX
variable [TabT]
open PySem L2
section
variable {X : Cx} {E : XK} {a b c : Expr} {pos : Pos} {f g : Ev}

/-! ### names, constants -/
def eVar (i : Nat) : Ev := fun env => M.opt (env[i]?.join)
theorem ev_var {i : Nat} {x : Str} (hN : X.N[i]? = some x) (hv : Vis X.env.scope x) (hd : (x == ("__debug__" : Str)) = false := by decide) (hcd : (x == ("__classdict__" : Str)) = false := by decide) : EV X E (.Name x pos) (eVar i) :=
  PE.imp (pe_var hN hv hd hcd) fun σ H Q ⟨env, cs, ω, hs, hk, h⟩ => by
    obtain ⟨w, e, h⟩ := Out.opt h
    obtain ⟨v, e1, r⟩ := hs.get i w (Option.join_eq_some_iff.mp e)
    exact ⟨v, e1, Out.now h hk v r⟩
def eC (d : Dt) : Ev := fun _ => M.ret (.dat d)
theorem ev_c {e : Expr} {v : V} {d : Dt} (h : PE X e (tC v)) (r : ∀ K H, RepD K H v d) : EV X E e (eC d) :=
  PE.imp h fun σ H Q ⟨env, cs, ω, hs, hk, h⟩ => Out.now h hk v (r _ _)
theorem ev_int {i : Int} {j} : EV X E (.Constant (.int i) j pos) (eC (.int i)) := ev_c pe_int fun _ _ => .int _
theorem ev_bl {i : Bool} {j} : EV X E (.Constant (.bool i) j pos) (eC (.bl i)) := ev_c pe_bl fun _ _ => .bl _
theorem ev_non {j} : EV X E (.Constant .none j pos) (eC .non) := ev_c pe_non fun _ _ => .non
theorem ev_str {x : Str} {j} : EV X E (.Constant (.str x) j pos) (eC (.str x)) := ev_c pe_str fun _ _ => .str _
/-- a module's constant -/
theorem ev_glob {x : Str} {v : V} {u : Value} {d : Dt} (hg : Gl X x) (hm : X.mg x = some u) (r : RelV v u) (hr : ∀ K H, RepD K H v d) (hd : (x == ("__debug__" : Str)) = false := by decide) : EV X E (.Name x pos) (eC d) := ev_c (pe_glob hg hm r hd) hr
theorem ev_bltn {x : Str} {v : V} {u : Value} (hg : Gl X x) (hm : X.mg x = none) (hv : bootBuiltins x = some u) (r : RelV v u) (hn : x ≠ "__name__" := by decide) (hd : (x == ("__debug__" : Str)) = false := by decide) : EV X E (.Name x pos) (eC (.op v)) := ev_c (pe_bltn hg hm hv r hn hd) fun _ _ => .op _

/-! ### operators on data -/
def liftB (o : Dt → Dt → Option Dt) : Wv → Wv → M Wv
  | .dat x, .dat y => M.opt ((o x y).map .dat)
  | _, _ => M.bad
def liftU (o : Dt → Option Dt) : Wv → M Wv
  | .dat x => M.opt ((o x).map .dat)
  | _ => M.bad
def eBin (o : Dt → Dt → Option Dt) (f g : Ev) : Ev := fun env => M.bind (f env) fun x => M.bind (g env) fun y => liftB o x y
def eUn (o : Dt → Option Dt) (f : Ev) : Ev := fun env => M.bind (f env) fun x => liftU o x
def BinO (K : Frag) (r : R2) (o : Dt → Dt → Option Dt) : Prop := ∀ (ω : Wo) (H : Hp) (cs : List Cell) (u v : V) (x y z : Dt), Ok K ω H cs → RepD K ω.Hs u x → RepD K ω.Hs v y → o x y = some z →
  ∀ Q : VK, (∀ ω' H' v', Le ω ω' → Ok K ω' H' cs → RepD K ω'.Hs v' z → Q v' H') → r u v H Q
def UnO (K : Frag) (r : V → Hp → VK → Prop) (o : Dt → Option Dt) : Prop := ∀ (ω : Wo) (H : Hp) (cs : List Cell) (u : V) (x z : Dt), Ok K ω H cs → RepD K ω.Hs u x → o x = some z →
  ∀ Q : VK, (∀ ω' H' v', Le ω ω' → Ok K ω' H' cs → RepD K ω'.Hs v' z → Q v' H') → r u H Q
theorem Out.map_some {K : Frag} {mg : MG} {α β : Type} {ω : Wo} {o : Option α} {h : α → β} {cs : List Cell} {F : β → Wo → List Cell → Hp → Prop} (q : Out K mg E ω (M.opt (o.map h) cs) F) : ∃ z, o = some z ∧ Out K mg E ω (R.ok (h z) cs) F := by
  cases o with
  | none => exact (show False from q).elim
  | some z => exact ⟨z, rfl, q⟩
theorem op_use {r : R2} {o : Dt → Dt → Option Dt} (hr : BinO X.K r o) {σ : St} {H : Hp} {Q : VK} (h : tEv X.K X.mg E (eBin o f g) σ H Q) : tOp r (tEv X.K X.mg E f) (tEv X.K X.mg E g) σ H Q := by
  obtain ⟨env, cs, ω, hs, hk, h⟩ := h
  refine ⟨env, cs, ω, hs, hk, h.bind.imp fun x ω1 cs1 H1 l1 k1 h1 u ru => ⟨env, cs1, ω1, hs.mono l1, k1, h1.bind.imp fun y ω2 cs2 H2 l2 k2 h2 v rv => ?_⟩⟩
  cases x with
  | cel k => exact (show False from h2).elim
  | dat x =>
    cases y with
    | cel k => exact (show False from h2).elim
    | dat y =>
      obtain ⟨z, e, h3⟩ := Out.map_some h2
      exact hr ω2 H2 cs2 u v x y z k2 (ru.mono l2 : RepW _ _ _ _) rv e Q fun ω' H' v' l k r => h3 ω' H' l k v' r
theorem un_use {r : V → Hp → VK → Prop} {o : Dt → Option Dt} (hr : UnO X.K r o) {σ : St} {H : Hp} {Q : VK} (h : tEv X.K X.mg E (eUn o f) σ H Q) : tUn r (tEv X.K X.mg E f) σ H Q := by
  obtain ⟨env, cs, ω, hs, hk, h⟩ := h
  refine ⟨env, cs, ω, hs, hk, h.bind.imp fun x ω1 cs1 H1 l1 k1 h1 u ru => ?_⟩
  cases x with
  | cel k => exact (show False from h1).elim
  | dat x =>
    obtain ⟨z, e, h3⟩ := Out.map_some h1
    exact hr ω1 H1 cs1 u x z k1 ru e Q fun ω' H' v' l k r => h3 ω' H' l k v' r
theorem ev_bin {op : Operator} {r : R2} {o : Dt → Dt → Option Dt} (ho : OpR X (binaryOp op) r) (hr : BinO X.K r o) (ha : EV X E a f) (hb : EV X E b g) : EV X E (.BinOp a op b pos) (eBin o f g) :=
  PE.imp (pe_op ho ha hb) fun _ _ _ h => op_use hr h
theorem ev_un {op : UnaryOp} {r : V → Hp → VK → Prop} {o : Dt → Option Dt} (ho : UnR X (unaryOp op) r) (hr : UnO X.K r o) (ha : EV X E a f) : EV X E (.UnaryOp op a pos) (eUn o f) :=
  PE.imp (pe_un ho ha) fun _ _ _ h => un_use hr h
theorem OpR.or {fn : Value → Value → Sem Value} {r s : R2} (h1 : OpR X fn r) (h2 : OpR X fn s) : OpR X fn (fun x y H Q => r x y H Q ∨ s x y H Q) := fun pins s σ H x y v u Q I rx ry q => by
  rcases q with q | q
  · exact h1 pins s σ H x y v u Q I rx ry q
  · exact h2 pins s σ H x y v u Q I rx ry q
theorem BinO.or {K : Frag} {r s : R2} {o p : Dt → Dt → Option Dt} (h1 : BinO K r o) (h2 : BinO K s p) : BinO K (fun x y H Q => r x y H Q ∨ s x y H Q) (fun x y => (o x y).or (p x y)) := fun ω H cs u v x y z k ru rv e Q q => by
  have e : (o x y).or (p x y) = some z := e
  cases h : o x y with
  | some w =>
    rw [h] at e
    exact .inl (h1 ω H cs u v x y z k ru rv (h.trans e) Q q)
  | none =>
    rw [h] at e
    exact .inr (h2 ω H cs u v x y z k ru rv e Q q)

/-- ints by a rule -/
def dI0 (g : Int → Int → Dt) : Dt → Dt → Option Dt
  | .int i, .int j => some (g i j)
  | _, _ => none
def dI (C : Int → Int → Bool) (g : Int → Int → Dt) : Dt → Dt → Option Dt
  | .int i, .int j => if C i j = true then some (g i j) else none
  | _, _ => none
theorem dI0_of {g : Int → Int → Dt} {x y z : Dt} (h : dI0 g x y = some z) : ∃ i j, x = .int i ∧ y = .int j ∧ z = g i j := by
  unfold dI0 at h
  split at h
  · exact ⟨_, _, rfl, rfl, (Option.some.inj h).symm⟩
  · cases h
theorem dI_of {C : Int → Int → Bool} {g : Int → Int → Dt} {x y z : Dt} (h : dI C g x y = some z) : ∃ i j, x = .int i ∧ y = .int j ∧ C i j = true ∧ z = g i j := by
  unfold dI at h
  split at h
  · split at h
    · exact ⟨_, _, rfl, rfl, by assumption, (Option.some.inj h).symm⟩
    · cases h
  · cases h
theorem bo_I0 {K : Frag} {gV : Int → Int → V} {gD : Int → Int → Dt} (hg : ∀ K H i j, RepD K H (gV i j) (gD i j)) : BinO K (rI0 gV) (dI0 gD) := fun ω H cs u v x y z k ru rv e Q q => by
  obtain ⟨i, j, rfl, rfl, rfl⟩ := dI0_of e
  cases ru; cases rv
  exact ⟨i, j, rfl, rfl, q ω H _ (Le.refl _) k (hg _ _ _ _)⟩
theorem bo_I {K : Frag} {C : Int → Int → Prop} {c : Int → Int → Bool} {gV : Int → Int → V} {gD : Int → Int → Dt} (hc : ∀ i j, c i j = true → C i j) (hg : ∀ K H i j, RepD K H (gV i j) (gD i j)) : BinO K (rI C gV) (dI c gD) := fun ω H cs u v x y z k ru rv e Q q => by
  obtain ⟨i, j, rfl, rfl, h, rfl⟩ := dI_of e
  cases ru; cases rv
  exact ⟨i, j, rfl, rfl, hc i j h, q ω H _ (Le.refl _) k (hg _ _ _ _)⟩
def szOk (n : Nat) : Bool := decide (n ≤ 16777216)
theorem szOk_of {n : Nat} (h : szOk n = true) : n ≤ sizeLine := by
  have := of_decide_eq_true h
  rw [sizeLine_eq]
  exact this
/-! a + b -/
def dAddS : Dt → Dt → Option Dt
  | .str x, .str y => if szOk (x.length + y.length) = true then some (.str (x ++ y)) else none
  | _, _ => none
def dAddL : Dt → Dt → Option Dt
  | .lst x, .lst y => if szOk (x.length + y.length) = true then some (.lst (x ++ y)) else none
  | _, _ => none
def dAddT : Dt → Dt → Option Dt
  | .tup x, .tup y => if szOk (x.length + y.length) = true then some (.tup (x ++ y)) else none
  | _, _ => none
theorem dAddS_of {x y z : Dt} (h : dAddS x y = some z) : ∃ i j, x = .str i ∧ y = .str j ∧ i.length + j.length ≤ sizeLine ∧ z = .str (i ++ j) := by
  unfold dAddS at h
  split at h
  · split at h
    · exact ⟨_, _, rfl, rfl, szOk_of (by assumption), (Option.some.inj h).symm⟩
    · cases h
  · cases h
theorem dAddL_of {x y z : Dt} (h : dAddL x y = some z) : ∃ i j, x = .lst i ∧ y = .lst j ∧ i.length + j.length ≤ sizeLine ∧ z = .lst (i ++ j) := by
  unfold dAddL at h
  split at h
  · split at h
    · exact ⟨_, _, rfl, rfl, szOk_of (by assumption), (Option.some.inj h).symm⟩
    · cases h
  · cases h
theorem dAddT_of {x y z : Dt} (h : dAddT x y = some z) : ∃ i j, x = .tup i ∧ y = .tup j ∧ i.length + j.length ≤ sizeLine ∧ z = .tup (i ++ j) := by
  unfold dAddT at h
  split at h
  · split at h
    · exact ⟨_, _, rfl, rfl, szOk_of (by assumption), (Option.some.inj h).symm⟩
    · cases h
  · cases h
/-- a new frozen object at p -/
theorem froze_use {K : Frag} {ω : Wo} {H : Hp} {cs : List Cell} {d : Dt} {o : HO} {Q : VK} (k : Ok K ω H cs) (q : ∀ ω' H' v', Le ω ω' → Ok K ω' H' cs → RepD K ω'.Hs v' d → Q v' H') (hr : ∀ p, H p = none → RepD K (ω.froze p o).Hs (.ref p) d) (hpl : NoTbl o := by exact True.intro) :
    ∀ p, H p = none → Q (.ref p) (upd H p o) := fun p hp => q (ω.froze p o) _ (.ref p) (Le.froze k hp) (k.froze hp hpl) (hr p hp)
theorem rep_tup {K : Frag} {ω : Wo} {H : Hp} {cs : List Cell} {p : Addr} {xs : List V} {ds : List Dt} (k : Ok K ω H cs) (hp : H p = none) (h : RepL K ω.Hs xs ds) : RepD K (ω.froze p (.tup xs)).Hs (.ref p) (.tup ds) :=
  .tup (.inl upd_same) (RepL.mono (Le.froze (o := HO.tup xs) k hp).ex ds xs h)
theorem rep_lst {K : Frag} {ω : Wo} {H : Hp} {cs : List Cell} {p : Addr} {xs : List V} {ds : List Dt} (k : Ok K ω H cs) (hp : H p = none) (h : RepL K ω.Hs xs ds) : RepD K (ω.froze p (.lst xs)).Hs (.ref p) (.lst ds) :=
  .lst upd_same (RepL.mono (Le.froze (o := HO.lst xs) k hp).ex ds xs h)
theorem bo_addS {K : Frag} : BinO K (fun x y H Q => ∃ i j, x = V.str i ∧ y = V.str j ∧ i.length + j.length ≤ sizeLine ∧ Q (.str (i ++ j)) H) dAddS := fun ω H cs u v x y z k ru rv e Q q => by
  obtain ⟨i, j, rfl, rfl, h, rfl⟩ := dAddS_of e
  cases ru; cases rv
  exact ⟨i, j, rfl, rfl, h, q ω H _ (Le.refl _) k (.str _)⟩
theorem bo_addL {K : Frag} : BinO K rCat dAddL := fun ω H cs u v x y z k ru rv e Q q => by
  obtain ⟨i, j, rfl, rfl, h, rfl⟩ := dAddL_of e
  cases ru with
  | lst h1 r1 =>
    cases rv with
    | lst h2 r2 =>
      exact ⟨_, _, _, _, rfl, rfl, k.ex _ _ h1, k.ex _ _ h2, by rw [r1.len, r2.len]; exact h, froze_use k q fun p hp => rep_lst k hp (r1.app r2)⟩
theorem bo_addT {K : Frag} : BinO K (rCatA K) dAddT := fun ω H cs u v x y z k ru rv e Q q => by
  obtain ⟨i, j, rfl, rfl, h, rfl⟩ := dAddT_of e
  cases ru with
  | @tup a xs _ h1 r1 =>
    cases rv with
    | @tup b ys _ h2 r2 =>
      refine ⟨_, _, _, _, rfl, rfl, (ex_t k.ex h1).sq, (ex_t k.ex h2).sq, by rw [r1.len, r2.len]; exact h, fun e1 => ?_, fun e1 e2 => ?_, fun e1 e2 => froze_use k q fun p hp => rep_tup k hp (r1.app r2)⟩
      · subst e1
        cases r1
        exact q ω H _ (Le.refl _) k (.tup h2 (by simpa using r2))
      · subst e2
        cases r2
        exact q ω H _ (Le.refl _) k (.tup h1 (by simpa using r1))
def dAdd : Dt → Dt → Option Dt := fun x y => (dI0 (fun i j => .int (i + j)) x y).or ((dAddS x y).or ((dAddL x y).or (dAddT x y)))
theorem ev_add (ha : EV X E a f) (hb : EV X E b g) : EV X E (.BinOp a .Add b pos) (eBin dAdd f g) :=
  ev_bin (OpR.or op_add (OpR.or op_add_str (OpR.or op_cat op_catA))) (BinO.or (bo_I0 fun _ _ _ _ => .int _) (BinO.or bo_addS (BinO.or bo_addL bo_addT))) ha hb
/-! the other operators on ints -/
theorem ev_sub (ha : EV X E a f) (hb : EV X E b g) : EV X E (.BinOp a .Sub b pos) (eBin (dI0 fun i j => .int (i - j)) f g) := ev_bin op_sub (bo_I0 fun _ _ _ _ => .int _) ha hb
theorem ev_and (ha : EV X E a f) (hb : EV X E b g) : EV X E (.BinOp a .BitAnd b pos) (eBin (dI0 fun i j => .int (Builtin.bitAnd i j)) f g) := ev_bin op_and (bo_I0 fun _ _ _ _ => .int _) ha hb
theorem ev_or (ha : EV X E a f) (hb : EV X E b g) : EV X E (.BinOp a .BitOr b pos) (eBin (dI0 fun i j => .int (Builtin.bitOr i j)) f g) := ev_bin op_or (bo_I0 fun _ _ _ _ => .int _) ha hb
theorem ev_xor (ha : EV X E a f) (hb : EV X E b g) : EV X E (.BinOp a .BitXor b pos) (eBin (dI0 fun i j => .int (Builtin.bitXor i j)) f g) := ev_bin op_xor (bo_I0 fun _ _ _ _ => .int _) ha hb
def cMod (_ j : Int) : Bool := decide (0 < j)
theorem ev_mod (ha : EV X E a f) (hb : EV X E b g) : EV X E (.BinOp a .Mod b pos) (eBin (dI cMod fun i j => .int (i % j)) f g) := ev_bin op_mod (bo_I (fun _ _ h => of_decide_eq_true h) fun _ _ _ _ => .int _) ha hb
def cDiv (_ j : Int) : Bool := decide (0 < j) && decide (j < 1073741824)
theorem ev_fdiv (ha : EV X E a f) (hb : EV X E b g) : EV X E (.BinOp a .FloorDiv b pos) (eBin (dI cDiv fun i j => .int (i / j)) f g) := ev_bin op_fdiv (bo_I (fun _ _ h => by
    unfold cDiv at h
    simp only [Bool.and_eq_true, decide_eq_true_eq] at h
    exact h) fun _ _ _ _ => .int _) ha hb
def cPow (i j : Int) : Bool := decide (0 ≤ j) && decide (j ≤ 1000000) && decide (i.natAbs < 18446744073709551616)
theorem cPow_of {i j : Int} (h : cPow i j = true) : CPow i j := by
  unfold cPow at h
  simp only [Bool.and_eq_true, decide_eq_true_eq] at h
  exact ⟨h.1.1, h.1.2, by have := h.2; show i.natAbs < 2 ^ 64; omega⟩
theorem ev_pow (ha : EV X E a f) (hb : EV X E b g) : EV X E (.BinOp a .Pow b pos) (eBin (dI cPow fun i j => .int (i ^ j.toNat)) f g) := ev_bin op_pow (bo_I (fun _ _ h => cPow_of h) fun _ _ _ _ => .int _) ha hb
theorem ev_shl (ha : EV X E a f) (hb : EV X E b g) : EV X E (.BinOp a .LShift b pos) (eBin (dI cPow fun i j => .int (i * 2 ^ j.toNat)) f g) := ev_bin op_shl (bo_I (fun _ _ h => cPow_of h) fun _ _ _ _ => .int _) ha hb
def cShr (_ j : Int) : Bool := decide (0 ≤ j)
theorem ev_shr (ha : EV X E a f) (hb : EV X E b g) : EV X E (.BinOp a .RShift b pos) (eBin (dI cShr fun i j => .int (i / 2 ^ j.toNat)) f g) := ev_bin op_shr (bo_I (fun _ _ h => of_decide_eq_true h) fun _ _ _ _ => .int _) ha hb
def dNeg : Dt → Option Dt
  | .int i => some (.int (-i))
  | _ => none
theorem ev_neg (ha : EV X E a f) : EV X E (.UnaryOp .USub a pos) (eUn dNeg f) := ev_un (o := dNeg) un_neg (fun ω H cs u x z k ru e Q q => by
  cases x with
  | int i =>
    cases ru
    cases e
    exact ⟨i, rfl, q ω H _ (Le.refl _) k (.int _)⟩
  | _ => cases e) ha
/-! a * b: ints one of which is short, a text or a list so many times -/
def cMul (i j : Int) : Bool := (decide (-18446744073709551616 < i) && decide (i < 18446744073709551616)) || (decide (-18446744073709551616 < j) && decide (j < 18446744073709551616))
theorem cMul_of {i j : Int} (h : cMul i j = true) : CMul i j := by
  unfold cMul at h
  simp only [Bool.and_eq_true, Bool.or_eq_true, decide_eq_true_eq] at h
  rcases h with h | h
  · exact .inl ⟨by show -(2 ^ 64) < i; omega, by show i < 2 ^ 64; omega⟩
  · exact .inr ⟨by show -(2 ^ 64) < j; omega, by show j < 2 ^ 64; omega⟩
def rMulS : R2 := fun x y H Q => ∃ (z : Str) (n : Int), x = .str z ∧ y = .int n ∧ 0 ≤ n ∧ n ≤ 16777216 ∧ z.length * n.toNat ≤ sizeLine ∧ Q (.str (Txt.mul z n)) H
theorem op_mulS : OpR X (binaryOp .Mult) rMulS := by
  intro pins s σ H x y v u Q I rx ry h
  obtain ⟨z, n, rfl, rfl, h1, h2, h3, q⟩ := h
  obtain ⟨t, rfl⟩ := rx
  obtain ⟨t', rfl⟩ := ry
  refine SB.mul ⟨?_, fun a b => ?_, fun a b => ?_⟩ fun t' k => ⟨.str (Txt.mul z n), H, I.tok _, ⟨_, rfl⟩, q⟩
  · rw [decide_eq_false (by omega), decide_eq_false (by omega)]
    rfl
  · have hn : 0 < n := by omega
    have hz : z.length * n.toNat ≤ 16777216 := by rw [sizeLine_eq] at h3; exact h3
    have e : (n.toNat : Int) = n := Int.toNat_of_nonneg h1
    have hz2 : (z.length : Int) * n ≤ 16777216 := by
      have h4 : ((z.length * n.toNat : Nat) : Int) ≤ ((16777216 : Nat) : Int) := Int.ofNat_le.mpr hz
      rw [Int.natCast_mul, e] at h4
      exact h4
    have := Int.le_ediv_of_mul_le hn (show (z.length : Int) * n ≤ 2 ^ 63 - 1 by omega)
    omega
  · exact decide_eq_false (Nat.not_lt.mpr h3)
def dMulS : Dt → Dt → Option Dt
  | .str z, .int n => if (decide (0 ≤ n) && decide (n ≤ 16777216) && szOk (z.length * n.toNat)) = true then some (.str (Txt.mul z n)) else none
  | _, _ => none
theorem bo_mulS {K : Frag} : BinO K rMulS dMulS := fun ω H cs u v x y z k ru rv e Q q => by
  unfold dMulS at e
  split at e
  · split at e
    · rename_i h
      simp only [Bool.and_eq_true, decide_eq_true_eq] at h
      cases ru; cases rv; cases e
      exact ⟨_, _, rfl, rfl, h.1.1, h.1.2, szOk_of h.2, q ω H _ (Le.refl _) k (.str _)⟩
    · cases e
  · cases e
def dMulL : Dt → Dt → Option Dt
  | .lst z, .int n => if (decide (0 ≤ n) && decide (n ≤ 16777216) && szOk (z.length * n.toNat)) = true then some (.lst (List.replicate n.toNat z).flatten) else none
  | _, _ => none
theorem RepL.rep {K : Frag} {H : Hp} {vs : List V} {ds : List Dt} (h : RepL K H vs ds) : ∀ n : Nat, RepL K H (List.replicate n vs).flatten (List.replicate n ds).flatten
  | 0 => .nil
  | n + 1 => by
    simp only [List.replicate_succ, List.flatten_cons]
    exact h.app (RepL.rep h n)
theorem bo_mulL {K : Frag} : BinO K rRep dMulL := fun ω H cs u v x y z k ru rv e Q q => by
  unfold dMulL at e
  split at e
  · split at e
    · rename_i h
      simp only [Bool.and_eq_true, decide_eq_true_eq] at h
      cases ru with
      | lst h1 r1 =>
        cases rv; cases e
        exact ⟨_, _, _, rfl, rfl, k.ex _ _ h1, by omega, by omega, by rw [r1.len]; exact szOk_of h.2, froze_use k q fun p hp => rep_lst k hp (r1.rep _)⟩
    · cases e
  · cases e
def dMul : Dt → Dt → Option Dt := fun x y => (dI cMul (fun i j => .int (i * j)) x y).or ((dMulS x y).or (dMulL x y))
theorem ev_mul (ha : EV X E a f) (hb : EV X E b g) : EV X E (.BinOp a .Mult b pos) (eBin dMul f g) :=
  ev_bin (OpR.or op_mul (OpR.or op_mulS op_rep)) (BinO.or (bo_I (fun _ _ h => cMul_of h) fun _ _ _ _ => .int _) (BinO.or bo_mulS bo_mulL)) ha hb

/-! ### comparisons -/
theorem ev_cmp {op : CmpOp} {r : R2} {o : Dt → Dt → Option Dt} (ho : OpR X (compareOp op) r) (hr : BinO X.K r o) (ha : EV X E a f) (hb : EV X E b g) (hm : behindInMarks op b = false) : EV X E (.Compare a [op] [b] pos) (eBin o f g) :=
  PE.imp (pe_cmpR ho ha hb hm) fun _ _ _ h => op_use hr h
/-! to plain data -/
mutual
def py : Dt → Option PyData
  | .non => some .none
  | .bl b => some (.bool b)
  | .int i => some (.int i)
  | .str s => some (.str s)
  | .tup l => (pys l).map .tuple
  | .lst l => (pys l).map .list
  | .dic _ => none
  | .obj _ _ => none
  | .op _ => none
  | .scr _ => none
  | .exn _ => none
def pys : List Dt → Option (List PyData)
  | [] => some []
  | d :: l => match py d, pys l with
    | some p, some ps => some (p :: ps)
    | _, _ => none
end
mutual
theorem dp_of {K : Frag} {H : Hp} : ∀ (d : Dt) (v : V) (p : PyData), RepD K H v d → py d = some p → Dp K H v p
  | .non, _, _, h, e => by cases h; simp [py] at e; subst e; exact .non
  | .bl b, _, _, h, e => by cases h; simp [py] at e; subst e; exact .bl b
  | .int i, _, _, h, e => by cases h; simp [py] at e; subst e; exact .int i
  | .str s, _, _, h, e => by cases h; simp [py] at e; subst e; exact .str s
  | .tup l, _, _, h, e => by
    cases h with
    | tup h1 h2 =>
      simp [py] at e
      obtain ⟨ps, e1, rfl⟩ := e
      exact .tup h1.sq (dps_of l _ _ h2 e1)
  | .lst l, _, _, h, e => by
    cases h with
    | lst h1 h2 =>
      simp [py] at e
      obtain ⟨ps, e1, rfl⟩ := e
      exact .lst (SqL.of h1) (dps_of l _ _ h2 e1)
  | .dic _, _, _, _, e => by simp [py] at e
  | .obj _ _, _, _, _, e => by simp [py] at e
  | .op _, _, _, _, e => by simp [py] at e
  | .scr _, _, _, _, e => by simp [py] at e
  | .exn _, _, _, _, e => by simp [py] at e
theorem dps_of {K : Frag} {H : Hp} : ∀ (l : List Dt) (vs : List V) (ps : List PyData), RepL K H vs l → pys l = some ps → DpAll K H vs ps
  | [], _, _, h, e => by cases h; simp [pys] at e; subst e; exact .nil
  | d :: l, _, _, h, e => by
    cases h with
    | cons h1 h2 =>
      unfold pys at e
      split at e
      · rename_i p ps e1 e2
        cases e
        exact .cons (dp_of d _ _ h1 e1) (dps_of l _ _ h2 e2)
      · cases e
end
theorem RepD.up {K : Frag} {ω : Wo} {H : Hp} {cs : List Cell} {v : V} {d : Dt} (k : Ok K ω H cs) (h : RepD K ω.Hs v d) : RepD K H v d := h.mono k.ex
def dEqB (x y : Dt) : Option Bool := match py x, py y with
  | some p, some q => if (SeqAt.shaped p && SeqAt.shaped q) = true then some (PyData.eqv p q) else none
  | _, _ => none
theorem dEqB_of {x y : Dt} {b : Bool} (h : dEqB x y = some b) : ∃ p q, py x = some p ∧ py y = some q ∧ SeqAt.shaped p = true ∧ SeqAt.shaped q = true ∧ b = PyData.eqv p q := by
  unfold dEqB at h
  split at h
  · split at h
    · rename_i p q e1 e2 hh
      simp only [Bool.and_eq_true] at hh
      exact ⟨p, q, e1, e2, hh.1, hh.2, (Option.some.inj h).symm⟩
    · cases h
  · cases h
def dEq (x y : Dt) : Option Dt := (dEqB x y).map .bl
def dNe (x y : Dt) : Option Dt := (dEqB x y).map fun b => .bl (!b)
theorem bo_eq {K : Frag} : BinO K (rEqD K) dEq := fun ω H cs u v x y z k ru rv e Q q => by
  unfold dEq at e
  cases h : dEqB x y with
  | none => rw [h] at e; cases e
  | some b =>
    rw [h] at e
    cases e
    obtain ⟨p, p', e1, e2, h1, h2, rfl⟩ := dEqB_of h
    exact ⟨p, p', dp_of x u p (ru.up k) e1, dp_of y v p' (rv.up k) e2, h1, h2, q ω H _ (Le.refl _) k (.bl _)⟩
theorem bo_ne {K : Frag} : BinO K (rNeD K) dNe := fun ω H cs u v x y z k ru rv e Q q => by
  unfold dNe at e
  cases h : dEqB x y with
  | none => rw [h] at e; cases e
  | some b =>
    rw [h] at e
    cases e
    obtain ⟨p, p', e1, e2, h1, h2, rfl⟩ := dEqB_of h
    exact ⟨p, p', dp_of x u p (ru.up k) e1, dp_of y v p' (rv.up k) e2, h1, h2, q ω H _ (Le.refl _) k (.bl _)⟩
theorem ev_eq (hu : X.A.units + 64 < cLine) (ha : EV X E a f) (hb : EV X E b g) : EV X E (.Compare a [.Eq] [b] pos) (eBin dEq f g) := ev_cmp (op_eqD hu) bo_eq ha hb (nomark _)
theorem ev_ne (hu : X.A.units + 64 < cLine) (ha : EV X E a f) (hb : EV X E b g) : EV X E (.Compare a [.NotEq] [b] pos) (eBin dNe f g) := ev_cmp (op_neD hu) bo_ne ha hb (nomark _)
theorem bo_B0 {K : Frag} {p : Int → Int → Bool} : BinO K (rI0 fun i j => .bl (p i j)) (dI0 fun i j => .bl (p i j)) := bo_I0 fun _ _ _ _ => .bl _
theorem ev_lt (ha : EV X E a f) (hb : EV X E b g) : EV X E (.Compare a [.Lt] [b] pos) (eBin (dI0 fun i j => .bl (decide (i < j))) f g) := ev_cmp op_lt bo_B0 ha hb (nomark _)
theorem ev_le (ha : EV X E a f) (hb : EV X E b g) : EV X E (.Compare a [.LtE] [b] pos) (eBin (dI0 fun i j => .bl (decide (i ≤ j))) f g) := ev_cmp op_le bo_B0 ha hb (nomark _)
theorem ev_gt (ha : EV X E a f) (hb : EV X E b g) : EV X E (.Compare a [.Gt] [b] pos) (eBin (dI0 fun i j => .bl (decide (j < i))) f g) := ev_cmp op_gt bo_B0 ha hb (nomark _)
theorem ev_ge (ha : EV X E a f) (hb : EV X E b g) : EV X E (.Compare a [.GtE] [b] pos) (eBin (dI0 fun i j => .bl (decide (j ≤ i))) f g) := ev_cmp op_ge bo_B0 ha hb (nomark _)
/-- x in a list, a tuple -/
def rInQ (K : Frag) (neg : Bool) : R2 := fun x y H Q => ∃ d ds, Dp K H x d ∧ (Dp K H y (.list ds) ∨ Dp K H y (.tuple ds)) ∧ SeqAt.shaped d = true ∧ SeqAt.shaped (.list ds) = true ∧ Q (.bl (if neg then !ds.any fun z => PyData.eqv z d else ds.any fun z => PyData.eqv z d)) H
theorem shaped_tl {ds : List PyData} (h : SeqAt.shaped (.list ds) = true) : SeqAt.shaped (.tuple ds) = true := by
  unfold SeqAt.shaped at h ⊢
  simpa [PyData.canLay0, PyData.depth] using h
theorem op_inQ (hu : X.A.units + 65 < cLine) : OpR X (compareOp .In) (rInQ X.K false) := by
  intro pins s σ H x y v u Q I rx ry h
  obtain ⟨d, ds, hd, he, sd, se, q⟩ := h
  obtain ⟨as, r1⟩ := Dp.reads I d x v hd rx
  rcases he with he | he
  · obtain ⟨bs, r2⟩ := Dp.reads I (.list ds) y u he ry
    exact SeqAt.in_list_reads r2 r1 (SeqAt.canLay_of_shaped se) (SeqAt.canLay_of_shaped sd) (PyProof.Rows.room_in_shaped sd hu) ⟨.bl _, H, I, rfl, q⟩
  · obtain ⟨bs, r2⟩ := Dp.reads I (.tuple ds) y u he ry
    exact SeqAt.in_tuple_reads r2 r1 (SeqAt.canLay_of_shaped (shaped_tl se)) (SeqAt.canLay_of_shaped sd) (PyProof.Rows.room_in_shaped sd hu) ⟨.bl _, H, I, rfl, q⟩
theorem op_notInQ (hu : X.A.units + 65 < cLine) : OpR X (compareOp .NotIn) (rInQ X.K true) := by
  intro pins s σ H x y v u Q I rx ry h
  obtain ⟨d, ds, hd, he, sd, se, q⟩ := h
  obtain ⟨as, r1⟩ := Dp.reads I d x v hd rx
  rcases he with he | he
  · obtain ⟨bs, r2⟩ := Dp.reads I (.list ds) y u he ry
    exact SeqAt.notIn_list_reads r2 r1 (SeqAt.canLay_of_shaped se) (SeqAt.canLay_of_shaped sd) (PyProof.Rows.room_in_shaped sd hu) ⟨.bl _, H, I, rfl, q⟩
  · obtain ⟨bs, r2⟩ := Dp.reads I (.tuple ds) y u he ry
    exact SeqAt.notIn_tuple_reads r2 r1 (SeqAt.canLay_of_shaped (shaped_tl se)) (SeqAt.canLay_of_shaped sd) (PyProof.Rows.room_in_shaped sd hu) ⟨.bl _, H, I, rfl, q⟩
def seqOf : Dt → Option (List Dt)
  | .tup l => some l
  | .lst l => some l
  | _ => none
def dInB (x y : Dt) : Option Bool := match py x, (seqOf y).bind pys with
  | some p, some qs => if (SeqAt.shaped p && SeqAt.shaped (.list qs)) = true then some (qs.any fun z => PyData.eqv z p) else none
  | _, _ => none
theorem dInB_of {x y : Dt} {b : Bool} (h : dInB x y = some b) : ∃ p l qs, py x = some p ∧ (y = .tup l ∨ y = .lst l) ∧ pys l = some qs ∧ SeqAt.shaped p = true ∧ SeqAt.shaped (.list qs) = true ∧ b = qs.any fun z => PyData.eqv z p := by
  unfold dInB at h
  split at h
  · split at h
    · rename_i p qs e1 e2 hh
      simp only [Bool.and_eq_true] at hh
      cases e3 : seqOf y with
      | none => rw [e3] at e2; cases e2
      | some l =>
        rw [e3] at e2
        refine ⟨p, l, qs, e1, ?_, e2, hh.1, hh.2, (Option.some.inj h).symm⟩
        cases y with
        | tup m => simp [seqOf] at e3; subst e3; exact .inl rfl
        | lst m => simp [seqOf] at e3; subst e3; exact .inr rfl
        | _ => cases e3
    · cases h
  · cases h
theorem dp_seq {K : Frag} {H : Hp} {v : V} {y : Dt} {l : List Dt} {qs : List PyData} (h : RepD K H v y) (e : y = .tup l ∨ y = .lst l) (e2 : pys l = some qs) : Dp K H v (.list qs) ∨ Dp K H v (.tuple qs) := by
  rcases e with rfl | rfl
  · exact .inr (dp_of _ v _ h (by simp [py, e2]))
  · exact .inl (dp_of _ v _ h (by simp [py, e2]))
/-- one text within another -/
def dInS : Dt → Dt → Option Bool
  | .str i, .str j => some (!(Builtin.Str.occurrences j i 0 j.length 1).isEmpty)
  | _, _ => none
def dIn (x y : Dt) : Option Dt := ((dInB x y).map .bl).or ((dInS x y).map .bl)
def dNotIn (x y : Dt) : Option Dt := ((dInB x y).map fun b => .bl (!b)).or ((dInS x y).map fun b => .bl (!b))
theorem bo_in {K : Frag} {neg : Bool} : BinO K (rInQ K neg) (fun x y => (dInB x y).map fun b => .bl (if neg then !b else b)) := fun ω H cs u v x y z k ru rv e Q q => by
  have e : (dInB x y).map (fun b => Dt.bl (if neg then !b else b)) = some z := e
  cases h : dInB x y with
  | none => rw [h] at e; cases e
  | some b =>
    rw [h] at e
    cases e
    obtain ⟨p, l, qs, e1, e2, e3, h1, h2, rfl⟩ := dInB_of h
    exact ⟨p, qs, dp_of x u p (ru.up k) e1, dp_seq (rv.up k) e2 e3, h1, h2, q ω H _ (Le.refl _) k (by cases neg <;> exact .bl _)⟩
theorem bo_inS {K : Frag} {g : Bool → Bool} : BinO K (fun x y H Q => ∃ i j, x = V.str i ∧ y = V.str j ∧ Q (.bl (g (!(Builtin.Str.occurrences j i 0 j.length 1).isEmpty))) H) (fun x y => (dInS x y).map fun b => .bl (g b)) := fun ω H cs u v x y z k ru rv e Q q => by
  have e : (dInS x y).map (fun b => Dt.bl (g b)) = some z := e
  unfold dInS at e
  split at e
  · cases ru; cases rv; cases e
    exact ⟨_, _, rfl, rfl, q ω H _ (Le.refl _) k (.bl _)⟩
  · cases e
theorem ev_in (hu : X.A.units + 65 < cLine) (ha : EV X E a f) (hb : EV X E b g) (hm : behindInMarks .In b = false := by rfl) : EV X E (.Compare a [.In] [b] pos) (eBin dIn f g) :=
  ev_cmp (OpR.or (op_inQ hu) op_in_str) (BinO.or (bo_in (neg := false)) (bo_inS (g := id))) ha hb hm
theorem ev_notIn (hu : X.A.units + 65 < cLine) (ha : EV X E a f) (hb : EV X E b g) (hm : behindInMarks .NotIn b = false := by rfl) : EV X E (.Compare a [.NotIn] [b] pos) (eBin dNotIn f g) :=
  ev_cmp (OpR.or (op_notInQ hu) op_notin_str) (BinO.or (bo_in (neg := true)) (bo_inS (g := not))) ha hb hm
/-- is None, is True, is False -/
def isNonD : Dt → Option Bool
  | .non => some true
  | .op _ => none
  | _ => some false
theorem isNonD_of {K : Frag} {H : Hp} {d : Dt} {v : V} {b : Bool} (r : RepD K H v d) (h : isNonD d = some b) : decide (v = .non) = b := by
  cases r <;> simp [isNonD] at h <;> subst h <;> simp
def dIsN (x y : Dt) : Option Dt := match y with
  | .non => (isNonD x).map .bl
  | _ => none
def dNotN (x y : Dt) : Option Dt := match y with
  | .non => (isNonD x).map fun b => .bl (!b)
  | _ => none
theorem bo_isN {K : Frag} : BinO K (fun x y H Q => y = V.non ∧ Q (.bl (decide (x = .non))) H) dIsN := fun ω H cs u v x y z k ru rv e Q q => by
  unfold dIsN at e
  split at e
  · cases rv
    cases h : isNonD x with
    | none => rw [h] at e; cases e
    | some b =>
      rw [h] at e
      cases e
      exact ⟨rfl, q ω H _ (Le.refl _) k (by rw [isNonD_of ru h]; exact .bl _)⟩
  · cases e
theorem bo_notN {K : Frag} : BinO K (fun x y H Q => y = V.non ∧ Q (.bl (!decide (x = .non))) H) dNotN := fun ω H cs u v x y z k ru rv e Q q => by
  unfold dNotN at e
  split at e
  · cases rv
    cases h : isNonD x with
    | none => rw [h] at e; cases e
    | some b =>
      rw [h] at e
      cases e
      exact ⟨rfl, q ω H _ (Le.refl _) k (by rw [isNonD_of ru h]; exact .bl _)⟩
  · cases e
def dIsB (x y : Dt) : Option Dt := match x, y with
  | .bl a, .bl b => some (.bl (decide (a = b)))
  | _, _ => none
theorem bo_isB {K : Frag} : BinO K (fun x y H Q => ∃ a b, x = V.bl a ∧ y = V.bl b ∧ Q (.bl (decide (a = b))) H) dIsB := fun ω H cs u v x y z k ru rv e Q q => by
  unfold dIsB at e
  split at e
  · cases ru; cases rv; cases e
    exact ⟨_, _, rfl, rfl, q ω H _ (Le.refl _) k (.bl _)⟩
  · cases e
def dIs (x y : Dt) : Option Dt := (dIsN x y).or (dIsB x y)
theorem ev_is (ha : EV X E a f) (hb : EV X E b g) : EV X E (.Compare a [.Is] [b] pos) (eBin dIs f g) := ev_cmp (OpR.or op_isN op_is_bl) (BinO.or bo_isN bo_isB) ha hb (nomark _)
theorem ev_isNot (ha : EV X E a f) (hb : EV X E b g) : EV X E (.Compare a [.IsNot] [b] pos) (eBin dNotN f g) := ev_cmp op_notN bo_notN ha hb (nomark _)
end
end DX

set_option Elab.async false
set_option linter.all false
set_option maxRecDepth 100000
set_option maxHeartbeats 2000000
/-! D3: truth, and, or, not, if, chains, subscripts, slices, displays. -/
namespace DX
variable [TabT]
open PySem L2
section
variable {X : Cx} {E : XK} {a b c : Expr} {rest : List Expr} {pos : Pos} {f g h : Ev} {p q : EvT}
theorem PE.orr {e : Expr} {t u : TE} (h : PE X e t) (g : PE X e u) : PE X e (fun σ H Q => t σ H Q ∨ u σ H Q) := ⟨fun pins s σ H Q I z => z.elim (h.run pins s σ H Q I) (g.run pins s σ H Q I)⟩
/-! ### truth -/
def dTruS (s : Str) : Option Bool := if szOk s.length = true then some ((s.length : Int) != 0) else none
def dTru : Dt → Option Bool
  | .non => some false
  | .bl b => some b
  | .int i => some (i != 0)
  | .str s => dTruS s
  | .tup l => some !l.isEmpty
  | .lst l => some !l.isEmpty
  | .dic l => some !l.isEmpty
  | _ => none
def cTru : Option Cell → Option Bool
  | some (.lst l) => some !l.isEmpty
  | some (.dic l) => some !l.isEmpty
  | _ => none
def wTru : Wv → List Cell → Option Bool
  | .dat d, _ => dTru d
  | .cel k, cs => cTru cs[k]?
def mTru (w : Wv) : M Bool := fun cs => M.opt (wTru w cs) cs
theorem RepL.emp {K : Frag} {H : Hp} {vs : List V} {ds : List Dt} (r : RepL K H vs ds) : vs.isEmpty = ds.isEmpty := by cases r <;> rfl
theorem RepK.emp {K : Frag} {H : Hp} {vs : List (Key × V)} {ds : List (Key × Dt)} (r : RepK K H vs ds) : vs.isEmpty = ds.isEmpty := by cases r <;> rfl
theorem RepWs.emp {K : Frag} {ω : Wo} {vs : List V} {ds : List Wv} (r : RepWs K ω vs ds) : vs.isEmpty = ds.isEmpty := by cases r <;> rfl
theorem RepWk.emp {K : Frag} {ω : Wo} {vs : List (Key × V)} {ds : List (Key × Wv)} (r : RepWk K ω vs ds) : vs.isEmpty = ds.isEmpty := by cases r <;> rfl
theorem Ok.cell {K : Frag} {ω : Wo} {H : Hp} {cs : List Cell} (k : Ok K ω H cs) {i : Nat} {a : Addr} {c : Cell} (h : ω.ad[i]? = some a) (e : cs[i]? = some c) : CellAt K ω H a c := k.cel i a c h e
theorem tru_of {K : Frag} {ω : Wo} {H : Hp} {cs : List Cell} {v : V} {w : Wv} {b : Bool} (k : Ok K ω H cs) (r : RepW K ω v w) (e : wTru w cs = some b) : TruV K v H b := by
  cases w with
  | dat d =>
    have r : RepD K ω.Hs v d := r
    have e : dTru d = some b := e
    cases r with
    | non => cases e; rfl
    | bl c => cases e; rfl
    | int i => cases e; rfl
    | str s =>
      have e : dTruS s = some b := e
      unfold dTruS at e
      split at e
      · cases e; exact ⟨szOk_of (by assumption), rfl⟩
      · cases e
    | tup h1 h2 => cases e; exact .inr (.inl ⟨_, (ex_t k.ex h1).sq, by rw [h2.emp]⟩)
    | lst h1 h2 => cases e; exact .inl ⟨_, SqL.of (k.ex _ _ h1), by rw [h2.emp]⟩
    | dic h1 h2 => cases e; exact .inr (.inr ⟨_, k.ex _ _ h1, by rw [h2.emp]⟩)
    | obj h1 hc h2 => cases e
    | op v => cases e
    | scr h1 => cases e
    | exn h1 => cases e
  | cel i =>
    obtain ⟨a, e1, rfl⟩ := r
    have e : cTru cs[i]? = some b := e
    cases hc : cs[i]? with
    | none => rw [hc] at e; cases e
    | some c =>
      rw [hc] at e
      have q := k.cell e1 hc
      cases c with
      | lst l => obtain ⟨_, vs, h1, h2⟩ := q; cases e; exact .inl ⟨_, SqL.of h1, by rw [h2.emp]⟩
      | dic l => obtain ⟨_, vs, h1, h2⟩ := q; cases e; exact .inr (.inr ⟨_, h1, by rw [h2.emp]⟩)
      | ins C l => cases e
      | dead => cases e
theorem Out.tru {K : Frag} {mg : MG} {ω : Wo} {w : Wv} {cs : List Cell} {F : Bool → Wo → List Cell → Hp → Prop} (h : Out K mg E ω (mTru w cs) F) : ∃ b, wTru w cs = some b ∧ Out K mg E ω (.ok b cs) F := Out.opt h
theorem Out.tru2 {K : Frag} {mg : MG} {α : Type} {ω : Wo} {w : Wv} {k : Bool → M α} {cs : List Cell} {F : α → Wo → List Cell → Hp → Prop} (h : Out K mg E ω (M.bind (mTru w) k cs) F) : ∃ b, wTru w cs = some b ∧ Out K mg E ω (k b cs) F := by
  unfold M.bind mTru at h
  cases e : wTru w cs with
  | none => rw [e] at h; exact (show False from h).elim
  | some b =>
    rw [e] at h
    exact ⟨b, rfl, h⟩
def tTru (f : Ev) : EvT := fun env => M.bind (f env) mTru
theorem et_tru (ha : EV X E a f) (he : ∀ whole, isTrue a X.env whole = (do let v ← whole; standAt a.pos; holding [v] (truthy v)) := by intro _; rfl) : EVT X E a (tTru f) :=
  PT.imp (pt_truth ha he) fun σ H Q ⟨env, cs, ω, hs, hk, h⟩ => ⟨env, cs, ω, hs, hk, h.bind.imp fun x ω1 cs1 H1 l1 k1 h1 v rv => by
    obtain ⟨b, e, h2⟩ := h1.tru
    exact ⟨b, tru_of k1 rv e, h2.now k1⟩⟩
/-- a comparison as a test -/
def asB : Wv → M Bool
  | .dat (.bl b) => M.ret b
  | _ => M.bad
def tCmpE (f : Ev) : EvT := fun env => M.bind (f env) asB
theorem Out.asB {K : Frag} {mg : MG} {ω : Wo} {w : Wv} {cs : List Cell} {F : Bool → Wo → List Cell → Hp → Prop} (h : Out K mg E ω (asB w cs) F) : ∃ b, w = .dat (.bl b) ∧ Out K mg E ω (.ok b cs) F := by
  cases w with
  | cel k => exact (show False from h).elim
  | dat d =>
    cases d with
    | bl b => exact ⟨b, rfl, h⟩
    | _ => exact (show False from h).elim
theorem tEv_test {t : TE} (i : ∀ σ H (Q : VK), tEv X.K X.mg E f σ H Q → t σ H Q) {σ : L2.St} {H : Hp} {Q : Bool → Hp → Prop} (h : tEvT X.K X.mg E (tCmpE f) σ H Q) : tTest t σ H Q := by
  obtain ⟨env, cs, ω, hs, hk, h⟩ := h
  refine i σ H _ ⟨env, cs, ω, hs, hk, h.bind.imp fun x ω1 cs1 H1 l1 k1 h1 v rv => ?_⟩
  obtain ⟨b, rfl, h2⟩ := h1.asB
  cases (show RepD X.K ω1.Hs v (.bl b) from rv)
  exact ⟨b, rfl, h2.now k1⟩
theorem et_cmp {op : CmpOp} {r : R2} {o : Dt → Dt → Option Dt} (ho : OpR X (compareOp op) r) (hr : BinO X.K r o) (ha : EV X E a f) (hb : EV X E b g) (hm : behindInMarks op b = false) : EVT X E (.Compare a [op] [b] pos) (tCmpE (eBin o f g)) :=
  PT.imp (pt_cmpR ho ha hb hm) fun _ _ _ h => tEv_test (fun _ _ _ h => op_use hr h) h
theorem et_eq (hu : X.A.units + 64 < cLine) (ha : EV X E a f) (hb : EV X E b g) : EVT X E (.Compare a [.Eq] [b] pos) (tCmpE (eBin dEq f g)) := et_cmp (op_eqD hu) bo_eq ha hb (nomark _)
theorem et_ne (hu : X.A.units + 64 < cLine) (ha : EV X E a f) (hb : EV X E b g) : EVT X E (.Compare a [.NotEq] [b] pos) (tCmpE (eBin dNe f g)) := et_cmp (op_neD hu) bo_ne ha hb (nomark _)
theorem et_lt (ha : EV X E a f) (hb : EV X E b g) : EVT X E (.Compare a [.Lt] [b] pos) (tCmpE (eBin (dI0 fun i j => .bl (decide (i < j))) f g)) := et_cmp op_lt bo_B0 ha hb (nomark _)
theorem et_le (ha : EV X E a f) (hb : EV X E b g) : EVT X E (.Compare a [.LtE] [b] pos) (tCmpE (eBin (dI0 fun i j => .bl (decide (i ≤ j))) f g)) := et_cmp op_le bo_B0 ha hb (nomark _)
theorem et_gt (ha : EV X E a f) (hb : EV X E b g) : EVT X E (.Compare a [.Gt] [b] pos) (tCmpE (eBin (dI0 fun i j => .bl (decide (j < i))) f g)) := et_cmp op_gt bo_B0 ha hb (nomark _)
theorem et_ge (ha : EV X E a f) (hb : EV X E b g) : EVT X E (.Compare a [.GtE] [b] pos) (tCmpE (eBin (dI0 fun i j => .bl (decide (j ≤ i))) f g)) := et_cmp op_ge bo_B0 ha hb (nomark _)
theorem et_in (hu : X.A.units + 65 < cLine) (ha : EV X E a f) (hb : EV X E b g) (hm : behindInMarks .In b = false := by rfl) : EVT X E (.Compare a [.In] [b] pos) (tCmpE (eBin dIn f g)) :=
  et_cmp (OpR.or (op_inQ hu) op_in_str) (BinO.or (bo_in (neg := false)) (bo_inS (g := id))) ha hb hm
theorem et_notIn (hu : X.A.units + 65 < cLine) (ha : EV X E a f) (hb : EV X E b g) (hm : behindInMarks .NotIn b = false := by rfl) : EVT X E (.Compare a [.NotIn] [b] pos) (tCmpE (eBin dNotIn f g)) :=
  et_cmp (OpR.or (op_notInQ hu) op_notin_str) (BinO.or (bo_in (neg := true)) (bo_inS (g := not))) ha hb hm
theorem et_is (ha : EV X E a f) (hb : EV X E b g) : EVT X E (.Compare a [.Is] [b] pos) (tCmpE (eBin dIs f g)) := et_cmp (OpR.or op_isN op_is_bl) (BinO.or bo_isN bo_isB) ha hb (nomark _)
theorem et_isNot (ha : EV X E a f) (hb : EV X E b g) : EVT X E (.Compare a [.IsNot] [b] pos) (tCmpE (eBin dNotN f g)) := et_cmp op_notN bo_notN ha hb (nomark _)
/-! chains of two -/
def eChain (o o' : Dt → Dt → Option Dt) (f g h : Ev) : Ev := fun env => M.bind (f env) fun x => M.bind (g env) fun y => M.bind (liftB o x y) fun z => M.bind (asB z) fun k => if k = true then M.bind (h env) fun w => liftB o' y w else M.ret (.dat (.bl false))
theorem Out.asB2 {K : Frag} {mg : MG} {α : Type} {ω : Wo} {w : Wv} {k : Bool → M α} {cs : List Cell} {F : α → Wo → List Cell → Hp → Prop} (h : Out K mg E ω (M.bind (DX.asB w) k cs) F) : ∃ b, w = .dat (.bl b) ∧ Out K mg E ω (k b cs) F := by
  cases w with
  | cel k => exact (show False from h).elim
  | dat d =>
    cases d with
    | bl b => exact ⟨b, rfl, h⟩
    | _ => exact (show False from h).elim
theorem Out.liftB {K : Frag} {mg : MG} {ω : Wo} {x y : Wv} {o : Dt → Dt → Option Dt} {cs : List Cell} {F : Wv → Wo → List Cell → Hp → Prop} (h : Out K mg E ω (liftB o x y cs) F) : ∃ d e z, x = .dat d ∧ y = .dat e ∧ o d e = some z ∧ Out K mg E ω (.ok (.dat z) cs) F := by
  cases x with
  | cel k => exact (show False from h).elim
  | dat x =>
    cases y with
    | cel k => exact (show False from h).elim
    | dat y =>
      obtain ⟨z, e, h3⟩ := Out.map_some h
      exact ⟨x, y, z, rfl, rfl, e, h3⟩
theorem chain_use {r r' : R2} {o o' : Dt → Dt → Option Dt} (hr : BinO X.K r o) (hr' : BinO X.K r' o') {σ : L2.St} {H : Hp} {Q : VK} (hh : tEv X.K X.mg E (eChain o o' f g h) σ H Q) : tChain r r' (tEv X.K X.mg E f) (tEv X.K X.mg E g) (tEv X.K X.mg E h) σ H Q := by
  obtain ⟨env, cs, ω, hs, hk, hh⟩ := hh
  refine ⟨env, cs, ω, hs, hk, hh.bind.imp fun x ω1 cs1 H1 l1 k1 h1 u ru => ⟨env, cs1, ω1, hs.mono l1, k1, h1.bind.imp fun y ω2 cs2 H2 l2 k2 h2 v rv => ?_⟩⟩
  obtain ⟨d, e, z, rfl, rfl, ez, h3⟩ := Out.liftB h2.bind
  refine hr ω2 H2 cs2 u v d e z k2 (ru.mono l2 : RepW _ _ _ _) rv ez _ fun ω3 H3 v3 l3 k3 r3 => ?_
  obtain ⟨b, eb, h4⟩ := (h3 ω3 H3 l3 k3).asB2
  cases eb
  cases r3
  refine ⟨b, rfl, ?_⟩
  cases b with
  | false => exact (h4.now k3) _ (.bl false)
  | true =>
    refine ⟨env, cs2, ω3, (hs.mono (l1.trans (l2.trans l3))), k3, h4.bind.imp fun w ω4 cs4 H4 l4 k4 h5 t rt => ?_⟩
    obtain ⟨d', e', z', e1, rfl, ez', h6⟩ := Out.liftB h5
    cases e1
    exact hr' ω4 H4 cs4 v t e e' z' k4 (rv.mono (l3.trans l4) : RepW _ _ _ (.dat e)) rt ez' Q fun ω5 H5 v5 l5 k5 r5 => h6 ω5 H5 l5 k5 v5 r5
theorem ev_chain {op op' : CmpOp} {r r' : R2} {o o' : Dt → Dt → Option Dt} (ho : OpR X (compareOp op) r) (hr : BinO X.K r o) (ho' : OpR X (compareOp op') r') (hr' : BinO X.K r' o') (ha : EV X E a f) (hb : EV X E b g) (hc : EV X E c h)
    (hm : lastMarks [op, op'] [b, c] = false := by with_unfolding_all rfl) : EV X E (.Compare a [op, op'] [b, c] pos) (eChain o o' f g h) := PE.imp (pe_chain ho ho' ha hb hc hm) fun _ _ _ z => chain_use hr hr' z
theorem et_chain {op op' : CmpOp} {r r' : R2} {o o' : Dt → Dt → Option Dt} (ho : OpR X (compareOp op) r) (hr : BinO X.K r o) (ho' : OpR X (compareOp op') r') (hr' : BinO X.K r' o') (ha : EV X E a f) (hb : EV X E b g) (hc : EV X E c h)
    (hm : lastMarks [op, op'] [b, c] = false := by with_unfolding_all rfl) : EVT X E (.Compare a [op, op'] [b, c] pos) (tCmpE (eChain o o' f g h)) := PT.imp (pt_chain ho ho' ha hb hc hm) fun _ _ _ z => tEv_test (fun _ _ _ z => chain_use hr hr' z) z
/-! ### and, or, not; if -/
def EVW (X : Cx) (E : XK) (e : Expr) (f : EvT) : Prop := PW X e (tEvT X.K X.mg E f)
theorem PW.imp {e : Expr} {t u : TT} (h : PW X e t) (i : ∀ σ H Q, u σ H Q → t σ H Q) : PW X e u := ⟨fun wh pins s σ H Q I z => h.run wh pins s σ H Q I (i σ H Q z)⟩
theorem et_w {e : Expr} (h : EVW X E e p) : EVT X E e p := h.pt
def tAnd' (p q : EvT) : EvT := fun env => M.bind (p env) fun k => if k = true then q env else M.ret false
def tOr' (p q : EvT) : EvT := fun env => M.bind (p env) fun k => if k = true then M.ret true else q env
def tNot' (p : EvT) : EvT := fun env => M.bind (p env) fun k => M.ret (!k)
theorem ew_and1 (ha : EVT X E a p) : EVW X E (.BoolOp .And [a] pos) p := pw_and1 ha
theorem ew_or1 (ha : EVT X E a p) : EVW X E (.BoolOp .Or [a] pos) p := pw_or1 ha
theorem ew_and (ha : EVT X E a p) (hb : EVW X E (.BoolOp .And (b :: rest) pos) q) : EVW X E (.BoolOp .And (a :: b :: rest) pos) (tAnd' p q) :=
  PW.imp (pw_and ha hb) fun σ H Q ⟨env, cs, ω, hs, hk, h⟩ => ⟨env, cs, ω, hs, hk, h.bind.imp fun k ω1 cs1 H1 l1 k1 h1 => by
    cases k with
    | true => exact ⟨env, cs1, ω1, hs.mono l1, k1, h1⟩
    | false => exact h1.now k1⟩
theorem ew_or (ha : EVT X E a p) (hb : EVW X E (.BoolOp .Or (b :: rest) pos) q) : EVW X E (.BoolOp .Or (a :: b :: rest) pos) (tOr' p q) :=
  PW.imp (pw_or ha hb) fun σ H Q ⟨env, cs, ω, hs, hk, h⟩ => ⟨env, cs, ω, hs, hk, h.bind.imp fun k ω1 cs1 H1 l1 k1 h1 => by
    cases k with
    | true => exact h1.now k1
    | false => exact ⟨env, cs1, ω1, hs.mono l1, k1, h1⟩⟩
theorem et_not (ha : EVT X E a p) : EVT X E (.UnaryOp .Not a pos) (tNot' p) :=
  PT.imp (pt_not ha) fun σ H Q ⟨env, cs, ω, hs, hk, h⟩ => ⟨env, cs, ω, hs, hk, h.bind.imp fun k ω1 cs1 H1 l1 k1 h1 => h1.now k1⟩
def eAnd (f g : Ev) : Ev := fun env => M.bind (f env) fun x => M.bind (mTru x) fun k => if k = true then g env else M.ret x
def eOr (f g : Ev) : Ev := fun env => M.bind (f env) fun x => M.bind (mTru x) fun k => if k = true then M.ret x else g env
def eNot (f : Ev) : Ev := fun env => M.bind (f env) fun x => M.bind (mTru x) fun k => M.ret (.dat (.bl (!k)))
theorem ev_one {op} (ha : EV X E a f) : EV X E (.BoolOp op [a] pos) f := pe_one ha
theorem ev_andB (ha : EV X E a f) (hb : EV X E (.BoolOp .And (b :: rest) pos) g) : EV X E (.BoolOp .And (a :: b :: rest) pos) (eAnd f g) :=
  PE.imp (pe_andT ha hb) fun σ H Q ⟨env, cs, ω, hs, hk, h⟩ => ⟨env, cs, ω, hs, hk, h.bind.imp fun x ω1 cs1 H1 l1 k1 h1 v rv => by
    obtain ⟨k, e, h2⟩ := h1.tru2
    refine ⟨k, tru_of k1 rv e, ?_⟩
    cases k with
    | true => exact ⟨env, cs1, ω1, hs.mono l1, k1, h2⟩
    | false => exact h2.now k1 v rv⟩
theorem ev_orB (ha : EV X E a f) (hb : EV X E (.BoolOp .Or (b :: rest) pos) g) : EV X E (.BoolOp .Or (a :: b :: rest) pos) (eOr f g) :=
  PE.imp (pe_orT ha hb) fun σ H Q ⟨env, cs, ω, hs, hk, h⟩ => ⟨env, cs, ω, hs, hk, h.bind.imp fun x ω1 cs1 H1 l1 k1 h1 v rv => by
    obtain ⟨k, e, h2⟩ := h1.tru2
    refine ⟨k, tru_of k1 rv e, ?_⟩
    cases k with
    | true => exact h2.now k1 v rv
    | false => exact ⟨env, cs1, ω1, hs.mono l1, k1, h2⟩⟩
theorem ev_not (ha : EV X E a f) : EV X E (.UnaryOp .Not a pos) (eNot f) :=
  PE.imp (pe_notT ha) fun σ H Q ⟨env, cs, ω, hs, hk, h⟩ => ⟨env, cs, ω, hs, hk, h.bind.imp fun x ω1 cs1 H1 l1 k1 h1 v rv => by
    obtain ⟨k, e, h2⟩ := h1.tru2
    exact ⟨k, tru_of k1 rv e, h2.now k1 _ (RepD.bl _)⟩⟩
def eIf (p : EvT) (f g : Ev) : Ev := fun env => M.bind (p env) fun k => if k = true then f env else g env
theorem ev_if (hc : EVT X E c p) (ha : EV X E a f) (hb : EV X E b g) : EV X E (.IfExp c a b pos) (eIf p f g) :=
  PE.imp (pe_ifExp hc ha hb) fun σ H Q ⟨env, cs, ω, hs, hk, h⟩ => ⟨env, cs, ω, hs, hk, h.bind.imp fun k ω1 cs1 H1 l1 k1 h1 => by
    cases k with
    | true => exact ⟨env, cs1, ω1, hs.mono l1, k1, h1⟩
    | false => exact ⟨env, cs1, ω1, hs.mono l1, k1, h1⟩⟩
/-! ### arguments and displays -/
def aNil : EvA := fun _ => M.ret []
def aCons (f : Ev) (g : EvA) : EvA := fun env => M.bind (f env) fun x => M.bind (g env) fun xs => M.ret (x :: xs)
theorem ea_nil : EVA X E [] aNil := PA.imp pa_nil fun σ H Q ⟨env, cs, ω, hs, hk, h⟩ => h.now hk [] .nil
theorem ea_cons {es : List Expr} {g : EvA} (ha : EV X E a f) (hr : EVA X E es g) (hs : starEach (a :: es) X.env = (false, eval a X.env) :: starEach es X.env := by rfl) : EVA X E (a :: es) (aCons f g) :=
  PA.imp (pa_cons ha hr hs) fun σ H Q ⟨env, cs, ω, hs, hk, h⟩ => ⟨env, cs, ω, hs, hk, h.bind.imp fun x ω1 cs1 H1 l1 k1 h1 v rv => ⟨env, cs1, ω1, hs.mono l1, k1, h1.bind.imp fun xs ω2 cs2 H2 l2 k2 h2 vs rvs =>
    h2.now k2 _ (.cons (rv.mono l2) rvs)⟩⟩
def mDats (ws : List Wv) : M (List Dt) := M.opt (dats ws)
def mLen {α : Type} (l : List α) (m : M Wv) : M Wv := if szOk l.length = true then m else M.bad
def eTup (g : EvA) : Ev := fun env => M.bind (g env) fun ws => M.bind (mDats ws) fun ds => mLen ds (M.ret (.dat (.tup ds)))
def eLst (g : EvA) : Ev := fun env => M.bind (g env) fun ws => M.bind (mDats ws) fun ds => mLen ds (M.ret (.dat (.lst ds)))
theorem Out.mDats {K : Frag} {mg : MG} {α : Type} {ω : Wo} {ws : List Wv} {k : List Dt → M α} {cs : List Cell} {F : α → Wo → List Cell → Hp → Prop} (h : Out K mg E ω (M.bind (mDats ws) k cs) F) : ∃ ds, dats ws = some ds ∧ Out K mg E ω (k ds cs) F := by
  unfold M.bind DX.mDats at h
  cases e : dats ws with
  | none => rw [e] at h; exact (show False from h).elim
  | some ds => rw [e] at h; exact ⟨ds, rfl, h⟩
theorem Out.mLen {K : Frag} {mg : MG} {α : Type} {ω : Wo} {l : List α} {m : M Wv} {cs : List Cell} {F : Wv → Wo → List Cell → Hp → Prop} (h : Out K mg E ω (mLen l m cs) F) : l.length ≤ sizeLine ∧ Out K mg E ω (m cs) F := by
  unfold DX.mLen at h
  split at h
  · exact ⟨szOk_of (by assumption), h⟩
  · exact (show False from h).elim
theorem ev_tup {es : List Expr} {g : EvA} {x1} (h : EVA X E es g) : EV X E (.Tuple es x1 pos) (eTup g) :=
  PE.imp (pe_tup h) fun σ H Q ⟨env, cs, ω, hs, hk, h⟩ => ⟨env, cs, ω, hs, hk, h.bind.imp fun ws ω1 cs1 H1 l1 k1 h1 vs rv => by
    obtain ⟨ds, e, h2⟩ := h1.mDats
    obtain ⟨hl, h3⟩ := h2.mLen
    have rl := rv.dats e
    exact ⟨by rw [rl.len]; exact hl, froze_use k1 (fun ω' H' v' l k r => h3 ω' H' l k v' r) fun p hp => rep_tup k1 hp rl⟩⟩
theorem ev_lst {es : List Expr} {g : EvA} (h : EVA X E es g) : EV X E (.List es pos) (eLst g) :=
  PE.imp (pe_lst h) fun σ H Q ⟨env, cs, ω, hs, hk, h⟩ => ⟨env, cs, ω, hs, hk, h.bind.imp fun ws ω1 cs1 H1 l1 k1 h1 vs rv => by
    obtain ⟨ds, e, h2⟩ := h1.mDats
    obtain ⟨hl, h3⟩ := h2.mLen
    have rl := rv.dats e
    exact ⟨by rw [rl.len]; exact hl, froze_use k1 (fun ω' H' v' l k r => h3 ω' H' l k v' r) fun p hp => rep_lst k1 hp rl⟩⟩
/-- a list display, the list new -/
def fLst (g : EvA) : EvF := fun env => M.bind (g env) fun ws => if szOk ws.length = true then M.ret ws else M.bad
theorem ef_lst {es : List Expr} {g : EvA} (h : EVA X E es g) : EVF X E (.List es pos) (fLst g) :=
  PE.imp (pe_lst h) fun σ H Q ⟨env, cs, ω, hs, hk, h⟩ => ⟨env, cs, ω, hs, hk, h.bind.imp fun ws ω1 cs1 H1 l1 k1 h1 vs rv => by
    split at h1
    · exact ⟨by rw [rv.len]; exact szOk_of (by assumption), fun p hp => h1.now k1 p vs hp rv⟩
    · exact (show False from h1).elim⟩
/-! ### subscripts -/
def keyOf : Dt → Option Key
  | .int i => some (.inl i)
  | .str s => some (.inr s)
  | _ => none
theorem keyOf_rep {K : Frag} {H : Hp} {d : Dt} {v : V} {k : Key} (r : RepD K H v d) (e : keyOf d = some k) : v = kV k := by
  cases r <;> simp [keyOf] at e <;> subst e <;> rfl
def valK {α : Type} (l : List (Key × α)) (k : Key) : Option α := (l.find? fun p => decide (p.1 = k)).map (·.2)
def strIx (s : Str) (i : Int) : Option Dt := if szOk s.length = true then (atI s.cps.toList i).map fun c => .str ⟨#[c]⟩ else none
def ixI {α : Type} (l : List α) : Dt → Option α
  | .int i => atI l i
  | _ => none
def ixS (s : Str) : Dt → Option Dt
  | .int i => strIx s i
  | _ => none
def dIx : Dt → Dt → Option Dt
  | .tup l, y => ixI l y
  | .lst l, y => ixI l y
  | .str s, y => ixS s y
  | .dic l, y => (keyOf y).bind fun k => valK l k
  | _, _ => none
def cIx : Option Cell → Dt → Option Wv
  | some (.lst l), y => ixI l y
  | some (.dic l), y => (keyOf y).bind fun k => valK l k
  | _, _ => none
def wIx (x y : Wv) (cs : List Cell) : Option Wv := match x, y with
  | .dat x, .dat y => (dIx x y).map .dat
  | .cel k, .dat y => cIx cs[k]? y
  | _, _ => none
theorem ixI_of {α : Type} {l : List α} {y : Dt} {z : α} (h : ixI l y = some z) : ∃ i, y = .int i ∧ atI l i = some z := by
  cases y with
  | int i => exact ⟨i, rfl, h⟩
  | _ => cases h
def mIx (x y : Wv) : M Wv := fun cs => M.opt (wIx x y cs) cs
def eIx (f g : Ev) : Ev := fun env => M.bind (f env) fun x => M.bind (g env) fun y => mIx x y
theorem atI_rep {K : Frag} {H : Hp} {vs : List V} {ds : List Dt} {i : Int} {d : Dt} (r : RepL K H vs ds) (e : atI ds i = some d) : ∃ v, atI vs i = some v ∧ RepD K H v d := by
  unfold atI at e ⊢
  rw [r.len]
  cases h : ixN ds.length i with
  | none => rw [h] at e; cases e
  | some j =>
    rw [h] at e
    obtain ⟨v, e1, e2⟩ := r.get e
    exact ⟨v, e1, e2⟩
theorem RepWs.get {K : Frag} {ω : Wo} {vs : List V} {ws : List Wv} (r : RepWs K ω vs ws) : ∀ {i : Nat} {w : Wv}, ws[i]? = some w → ∃ v, vs[i]? = some v ∧ RepW K ω v w := by
  induction r with
  | nil => intro i w e; simp at e
  | @cons v0 vs0 w0 ws0 h1 _ ih =>
    intro i w e
    cases i with
    | zero => simp at e; subst e; exact ⟨v0, rfl, h1⟩
    | succ i =>
      simp at e
      obtain ⟨u, q1, q2⟩ := ih e
      exact ⟨u, by simpa using q1, q2⟩
theorem atI_repW {K : Frag} {ω : Wo} {vs : List V} {ds : List Wv} {i : Int} {d : Wv} (r : RepWs K ω vs ds) (e : atI ds i = some d) : ∃ v, atI vs i = some v ∧ RepW K ω v d := by
  unfold atI at e ⊢
  rw [r.len]
  cases h : ixN ds.length i with
  | none => rw [h] at e; cases e
  | some j =>
    rw [h] at e
    obtain ⟨v, e1, e2⟩ := r.get e
    exact ⟨v, e1, e2⟩
theorem RepK.val {K : Frag} {H : Hp} : ∀ {vs : List (Key × V)} {ds : List (Key × Dt)} {k : Key} {d : Dt}, RepK K H vs ds → valK ds k = some d → ∃ v, valV vs k = some v ∧ RepD K H v d
  | [], _, k, d, h, e => by cases h; simp [valK] at e
  | (k0, v0) :: vs, _, k, d, h, e => by
    cases h with
    | @cons _ _ _ d0 ds0 h1 h2 =>
      unfold valK at e
      rw [List.find?_cons] at e
      by_cases hk : k0 = k
      · simp [hk] at e
        subst e
        exact ⟨v0, valV_pos hk, h1⟩
      · simp [hk] at e
        obtain ⟨v, e1, e2⟩ := RepK.val (k := k) (d := d) h2 (by unfold valK; simpa using e)
        exact ⟨v, by rw [valV_neg hk]; exact e1, e2⟩
theorem RepWk.val {K : Frag} {ω : Wo} : ∀ {vs : List (Key × V)} {ds : List (Key × Wv)} {k : Key} {d : Wv}, RepWk K ω vs ds → valK ds k = some d → ∃ v, valV vs k = some v ∧ RepW K ω v d
  | [], _, k, d, h, e => by cases h; simp [valK] at e
  | (k0, v0) :: vs, _, k, d, h, e => by
    cases h with
    | @cons _ _ _ d0 ds0 h1 h2 =>
      unfold valK at e
      rw [List.find?_cons] at e
      by_cases hk : k0 = k
      · simp [hk] at e
        subst e
        exact ⟨v0, valV_pos hk, h1⟩
      · simp [hk] at e
        obtain ⟨v, e1, e2⟩ := RepWk.val (k := k) (d := d) h2 (by unfold valK; simpa using e)
        exact ⟨v, by rw [valV_neg hk]; exact e1, e2⟩
def cDic : Option Cell → Bool
  | some (.dic _) => true
  | _ => false
def isDic (x : Wv) (cs : List Cell) : Bool := match x with
  | .dat (.dic _) => true
  | .cel k => cDic cs[k]?
  | _ => false
theorem ix_seq_of {K : Frag} {ω : Wo} {H : Hp} {cs : List Cell} {u v : V} {x y z : Wv} (k : Ok K ω H cs) (ru : RepW K ω u x) (rv : RepW K ω v y) (e : wIx x y cs = some z) (hd : isDic x cs = false) {Q : VK} (q : ∀ v', RepW K ω v' z → Q v' H) : rIx K u v H Q := by
  cases y with
  | cel j => cases x <;> cases e
  | dat y =>
    cases x with
    | dat x =>
      have e : (dIx x y).map Wv.dat = some z := e
      cases h : dIx x y with
      | none => rw [h] at e; cases e
      | some w =>
        rw [h] at e
        cases e
        have ru : RepD K ω.Hs u x := ru
        have rv : RepD K ω.Hs v y := rv
        cases x with
        | tup l =>
          obtain ⟨i, rfl, h⟩ := ixI_of (show ixI l y = some w from h)
          cases ru with
          | tup h1 h2 =>
            cases rv
            obtain ⟨v', e1, r1⟩ := atI_rep h2 h
            exact .inr (.inl ⟨_, _, i, v', rfl, rfl, (ex_t k.ex h1).sq, e1, q v' r1⟩)
        | lst l =>
          obtain ⟨i, rfl, h⟩ := ixI_of (show ixI l y = some w from h)
          cases ru with
          | lst h1 h2 =>
            cases rv
            obtain ⟨v', e1, r1⟩ := atI_rep h2 h
            exact .inl ⟨_, _, i, v', rfl, rfl, SqL.of (k.ex _ _ h1), e1, q v' r1⟩
        | str s =>
          cases y with
          | int i =>
            cases ru; cases rv
            have h : strIx s i = some w := h
            unfold strIx at h
            split at h
            · rename_i hz
              cases hc : atI s.cps.toList i with
              | none => rw [hc] at h; cases h
              | some c =>
                rw [hc] at h
                cases h
                exact .inr (.inr ⟨s, i, c, rfl, rfl, szOk_of hz, hc, q _ (RepD.str _)⟩)
            · cases h
          | _ => cases h
        | dic l => cases hd
        | _ => cases h
    | cel j =>
      obtain ⟨a, e1, rfl⟩ := ru
      have e : cIx cs[j]? y = some z := e
      have hd : cDic cs[j]? = false := hd
      cases hc : cs[j]? with
      | none => rw [hc] at e; cases e
      | some c =>
        rw [hc] at e hd
        have qc := k.cell e1 hc
        cases c with
        | lst l =>
          obtain ⟨i, rfl, h⟩ := ixI_of (show ixI l y = some z from e)
          cases (show RepD K ω.Hs v (.int i) from rv)
          obtain ⟨_, vs, h1, h2⟩ := qc
          obtain ⟨v', e2, r1⟩ := atI_repW h2 h
          exact .inl ⟨_, _, i, v', rfl, rfl, SqL.of h1, e2, q v' r1⟩
        | dic l => cases hd
        | ins C l => cases e
        | dead => cases e
theorem ix_dic_of {K : Frag} {ω : Wo} {H : Hp} {cs : List Cell} {u v : V} {x y z : Wv} (k : Ok K ω H cs) (ru : RepW K ω u x) (rv : RepW K ω v y) (e : wIx x y cs = some z) (hd : isDic x cs = true) {Q : VK} (q : ∀ v', RepW K ω v' z → Q v' H) :
    ∃ a v', u = .ref a ∧ DGet H a v (some v') ∧ Q v' H := by
  cases y with
  | cel j => cases x <;> cases e
  | dat y =>
    cases x with
    | dat x =>
      cases x with
      | dic l =>
        have e : (dIx (.dic l) y).map Wv.dat = some z := e
        cases h : dIx (.dic l) y with
        | none => rw [h] at e; cases e
        | some w =>
          rw [h] at e
          cases e
          have h : ((keyOf y).bind fun k => valK l k) = some w := h
          cases hk : keyOf y with
          | none => rw [hk] at h; cases h
          | some key =>
            rw [hk] at h
            cases (show RepD K ω.Hs u (.dic l) from ru) with
            | dic h1 h2 =>
              obtain ⟨v', e1, r1⟩ := h2.val h
              refine ⟨_, v', rfl, ?_, q v' r1⟩
              rw [keyOf_rep rv hk, ← e1]
              exact DGet.k (k.ex _ _ h1)
      | _ => cases hd
    | cel j =>
      obtain ⟨a, e1, rfl⟩ := ru
      have e : cIx cs[j]? y = some z := e
      have hd : cDic cs[j]? = true := hd
      cases hc : cs[j]? with
      | none => rw [hc] at e; cases e
      | some c =>
        rw [hc] at e hd
        have qc := k.cell e1 hc
        cases c with
        | dic l =>
          obtain ⟨_, vs, h1, h2⟩ := qc
          have e : ((keyOf y).bind fun k => valK l k) = some z := e
          cases hk : keyOf y with
          | none => rw [hk] at e; cases e
          | some key =>
            rw [hk] at e
            obtain ⟨v', e2, r1⟩ := h2.val e
            refine ⟨_, v', rfl, ?_, q v' r1⟩
            rw [keyOf_rep rv hk, ← e2]
            exact DGet.k h1
        | _ => cases hd
theorem Out.mIx {K : Frag} {mg : MG} {ω : Wo} {x y : Wv} {cs : List Cell} {F : Wv → Wo → List Cell → Hp → Prop} (h : Out K mg E ω (mIx x y cs) F) : ∃ z, wIx x y cs = some z ∧ Out K mg E ω (.ok z cs) F := Out.opt h
theorem Out.impE {K : Frag} {mg : MG} {α : Type} {ω : Wo} {F F' : α → Wo → List Cell → Hp → Prop} {r : R α} (h : Out K mg E ω r F) (f : ∀ a ω' cs' H', r = .ok a cs' → Le ω ω' → Ok K ω' H' cs' → F a ω' cs' H' → F' a ω' cs' H') : Out K mg E ω r F' := by
  cases r with
  | ok a cs => exact fun ω2 H2 l2 k2 => f a ω2 cs H2 rfl l2 k2 (h ω2 H2 l2 k2)
  | exc x cs => exact h
  | bad => exact h
/-- which rule a subscript takes is told by what it computes -/
def goesDic (f g : Ev) (env : En) (cs : List Cell) : Bool := match f env cs with
  | .ok x cs1 => match g env cs1 with
    | .ok _ cs2 => isDic x cs2
    | _ => false
  | _ => false
theorem goesDic_of {env : En} {cs cs1 cs2 : List Cell} {x y : Wv} (e1 : f env cs = .ok x cs1) (e2 : g env cs1 = .ok y cs2) : goesDic f g env cs = isDic x cs2 := by
  unfold goesDic
  rw [e1]
  show (match g env cs1 with
    | .ok _ cs2 => isDic x cs2
    | _ => false) = _
  rw [e2]
theorem ix_use {σ : L2.St} {H : Hp} {Q : VK} (h : tEv X.K X.mg E (eIx f g) σ H Q) : tOp (rIx X.K) (tEv X.K X.mg E f) (tEv X.K X.mg E g) σ H Q ∨ tDGet (tEv X.K X.mg E f) (tEv X.K X.mg E g) σ H Q := by
  obtain ⟨env, cs, ω, hs, hk, h⟩ := h
  cases hd : goesDic f g env cs with
  | false =>
    refine .inl ⟨env, cs, ω, hs, hk, h.bind.impE fun x ω1 cs1 H1 e1 l1 k1 h1 u ru => ⟨env, cs1, ω1, hs.mono l1, k1, h1.bind.impE fun y ω2 cs2 H2 e2 l2 k2 h2 v rv => ?_⟩⟩
    rw [goesDic_of e1 e2] at hd
    obtain ⟨z, ez, h3⟩ := h2.mIx
    exact ix_seq_of k2 (ru.mono l2) rv ez hd fun v' r' => h3.now k2 v' r'
  | true =>
    refine .inr ⟨env, cs, ω, hs, hk, h.bind.impE fun x ω1 cs1 H1 e1 l1 k1 h1 u ru => ⟨env, cs1, ω1, hs.mono l1, k1, h1.bind.impE fun y ω2 cs2 H2 e2 l2 k2 h2 v rv => ?_⟩⟩
    rw [goesDic_of e1 e2] at hd
    obtain ⟨z, ez, h3⟩ := h2.mIx
    exact ix_dic_of k2 (ru.mono l2) rv ez hd fun v' r' => h3.now k2 v' r'
theorem ev_ix (hu : X.A.units + 1 < cLine) (ha : EV X E a f) (hb : EV X E b g) (hs : PlainIx b := by exact fun _ _ => rfl) (hn : NoSl b := by exact fun _ _ => rfl) : EV X E (.Subscript a b pos) (eIx f g) :=
  PE.imp (PE.orr (pe_ix ix_seq ha hb hs) (pe_dget hu ha hb hn)) fun _ _ _ h => ix_use h
/-! slices -/
def cutL {α : Type} (xs : List α) (lo hi : Option Int) : List α := (xs.drop (HT.sIx xs.length 0 lo)).take (HT.sIx xs.length xs.length hi - HT.sIx xs.length 0 lo)
theorem RepL.cut {K : Frag} {H : Hp} {vs : List V} {ds : List Dt} (r : RepL K H vs ds) (lo hi : Option Int) : RepL K H (cutV vs lo hi) (cutL ds lo hi) := by
  unfold cutV cutL
  rw [r.len]
  exact (r.drop _).take _
theorem RepWs.take {K : Frag} {ω : Wo} {vs : List V} {ws : List Wv} (r : RepWs K ω vs ws) : ∀ n : Nat, RepWs K ω (vs.take n) (ws.take n) := by
  induction r with
  | nil => intro n; simp; exact .nil
  | cons h1 _ ih =>
    intro n
    cases n with
    | zero => exact .nil
    | succ n => exact .cons h1 (ih n)
theorem RepWs.drop {K : Frag} {ω : Wo} {vs : List V} {ws : List Wv} (r : RepWs K ω vs ws) : ∀ n : Nat, RepWs K ω (vs.drop n) (ws.drop n) := by
  induction r with
  | nil => intro n; simp; exact .nil
  | cons h1 h2 ih =>
    intro n
    cases n with
    | zero => exact .cons h1 h2
    | succ n => exact ih n
theorem RepWs.cut {K : Frag} {ω : Wo} {vs : List V} {ds : List Wv} (r : RepWs K ω vs ds) (lo hi : Option Int) : RepWs K ω (cutV vs lo hi) (cutL ds lo hi) := by
  unfold cutV cutL
  rw [r.len]
  exact (r.drop _).take _
abbrev EvO := En → M (Option Int)
def tEvO (K : Frag) (mg : MG) (E : XK) (f : EvO) : TO := fun σ H Q => ∃ env cs ω, StRep K ω σ env ∧ Ok K ω H cs ∧ Out K mg E ω (f env cs) fun o _ _ H' => Q o H'
def EVO (X : Cx) (E : XK) (e : Option Expr) (f : EvO) : Prop := PO X e (tEvO X.K X.mg E f)
theorem PO.imp {e : Option Expr} {t u : TO} (h : PO X e t) (i : ∀ σ H Q, u σ H Q → t σ H Q) : PO X e u := ⟨fun pins s σ H Q I z => h.run pins s σ H Q I (i σ H Q z)⟩
def oNone : EvO := fun _ => M.ret none
def asI : Wv → M (Option Int)
  | .dat (.int i) => M.ret (some i)
  | _ => M.bad
def oSome (f : Ev) : EvO := fun env => M.bind (f env) asI
theorem eo_none : EVO X E none oNone := PO.imp po_none fun σ H Q ⟨env, cs, ω, hs, hk, h⟩ => h.now hk
theorem eo_some (ha : EV X E a f) : EVO X E (some a) (oSome f) := PO.imp (po_some ha) fun σ H Q ⟨env, cs, ω, hs, hk, h⟩ => ⟨env, cs, ω, hs, hk, h.bind.imp fun x ω1 cs1 H1 l1 k1 h1 v rv => by
    cases x with
    | cel k => exact (show False from h1).elim
    | dat d =>
      cases d with
      | int i =>
        cases (show RepD X.K ω1.Hs v (.int i) from rv)
        exact ⟨i, rfl, h1.now k1⟩
      | _ => exact (show False from h1).elim⟩
def strSl (s : Str) (lo hi : Option Int) : Option Dt := if szOk s.length = true then some (.str (cutS s lo hi)) else none
def dSl (x : Dt) (lo hi : Option Int) : Option Dt := match x with
  | .lst l => some (.lst (cutL l lo hi))
  | .tup l => some (.tup (cutL l lo hi))
  | .str s => strSl s lo hi
  | _ => none
def cSl (c : Option Cell) (lo hi : Option Int) : Option Dt := match c with
  | some (.lst l) => (dats (cutL l lo hi)).map .lst
  | _ => none
def wSl (x : Wv) (lo hi : Option Int) (cs : List Cell) : Option Dt := match x with
  | .dat x => dSl x lo hi
  | .cel k => cSl cs[k]? lo hi
def mSl (x : Wv) (lo hi : Option Int) : M Wv := fun cs => M.opt ((wSl x lo hi cs).map .dat) cs
def eSl (f : Ev) (lo hi : EvO) : Ev := fun env => M.bind (f env) fun x => M.bind (lo env) fun l => M.bind (hi env) fun u => mSl x l u
def rSl3 (K : Frag) : V → Option Int → Option Int → Hp → VK → Prop := fun x lo hi H Q => rSlL K x lo hi H Q ∨ (rSlA K x lo hi H Q ∨ rSlS x lo hi H Q)
theorem sl_3 : SlR X (rSl3 X.K) := SlR.or sl_list (SlR.or sl_tupA sl_str)
theorem cutL_all {α : Type} (xs : List α) (lo hi : Option Int) (h : HT.sIx xs.length 0 lo = 0 ∧ HT.sIx xs.length xs.length hi = xs.length) : cutL xs lo hi = xs := by
  unfold cutL
  rw [h.1, h.2]
  simp
theorem sl_of {K : Frag} {ω : Wo} {H : Hp} {cs : List Cell} {u : V} {x : Wv} {z : Dt} {lo hi : Option Int} (k : Ok K ω H cs) (ru : RepW K ω u x) (e : wSl x lo hi cs = some z) {Q : VK} (q : ∀ ω' H' v', Le ω ω' → Ok K ω' H' cs → RepD K ω'.Hs v' z → Q v' H') : rSl3 K u lo hi H Q := by
  cases x with
  | dat x =>
    have ru : RepD K ω.Hs u x := ru
    have e : dSl x lo hi = some z := e
    cases ru with
    | lst h1 h2 =>
      cases e
      exact .inl ⟨_, _, rfl, SqL.of (k.ex _ _ h1), froze_use k q fun p hp => rep_lst k hp (h2.cut lo hi)⟩
    | @tup a xs ds h1 h2 =>
      cases e
      refine .inr (.inl ⟨_, _, rfl, (ex_t k.ex h1).sq, fun hw => ?_, fun hw => froze_use k q fun p hp => rep_tup k hp (h2.cut lo hi)⟩)
      rw [h2.len] at hw
      rw [cutL_all ds lo hi hw] at q
      exact q ω H _ (Le.refl _) k (.tup h1 h2)
    | str s =>
      have e : strSl s lo hi = some z := e
      unfold strSl at e
      split at e
      · cases e
        exact .inr (.inr ⟨s, rfl, szOk_of (by assumption), q ω H _ (Le.refl _) k (.str _)⟩)
      · cases e
    | _ => cases e
  | cel j =>
    obtain ⟨a, e1, rfl⟩ := ru
    have e : cSl cs[j]? lo hi = some z := e
    cases hc : cs[j]? with
    | none => rw [hc] at e; cases e
    | some c =>
      rw [hc] at e
      have qc := k.cell e1 hc
      cases c with
      | lst l =>
        obtain ⟨_, vs, h1, h2⟩ := qc
        have e : (dats (cutL l lo hi)).map Dt.lst = some z := e
        cases hd : dats (cutL l lo hi) with
        | none => rw [hd] at e; cases e
        | some ds =>
          rw [hd] at e
          cases e
          exact .inl ⟨_, _, rfl, SqL.of h1, froze_use k q fun p hp => rep_lst k hp ((h2.cut lo hi).dats hd)⟩
      | _ => cases e
theorem ev_sl {lo hi : Option Expr} {fl fh : EvO} {p2 : Pos} (ha : EV X E a f) (hl : EVO X E lo fl) (hh : EVO X E hi fh) : EV X E (.Subscript a (.Slice lo hi none p2) pos) (eSl f fl fh) :=
  PE.imp (pe_slice sl_3 ha hl hh) fun σ H Q ⟨env, cs, ω, hs, hk, h⟩ => ⟨env, cs, ω, hs, hk, h.bind.imp fun x ω1 cs1 H1 l1 k1 h1 v rv => ⟨env, cs1, ω1, hs.mono l1, k1, h1.bind.imp fun o1 ω2 cs2 H2 l2 k2 h2 =>
    ⟨env, cs2, ω2, hs.mono (l1.trans l2), k2, h2.bind.imp fun o2 ω3 cs3 H3 l3 k3 h3 => by
      have h3 : Out X.K X.mg E ω3 (M.opt ((wSl x o1 o2 cs3).map Wv.dat) cs3) _ := h3
      obtain ⟨z, e, h4⟩ := Out.map_some h3
      exact sl_of k3 (rv.mono (l2.trans l3)) e fun ω' H' v' l k r => h4 ω' H' l k v' r⟩⟩⟩
end
end DX

set_option Elab.async false
set_option linter.all false
set_option maxRecDepth 100000
set_option maxHeartbeats 2000000
/-! D4: calls of built-in functions and types. -/
namespace DX
variable [TabT]
open PySem L2
section
variable {X : Cx} {E : XK} {a b c e : Expr} {es : List Expr} {pos p : Pos} {f : Ev} {g : EvA}
def CallO (K : Frag) (r : List V → Hp → VK → Prop) (o : List Wv → List Cell → Option Dt) : Prop := ∀ (ω : Wo) (H : Hp) (cs : List Cell) (vs : List V) (ws : List Wv) (z : Dt), Ok K ω H cs → RepWs K ω vs ws → o ws cs = some z →
  ∀ Q : VK, (∀ ω' H' v', Le ω ω' → Ok K ω' H' cs → RepD K ω'.Hs v' z → Q v' H') → r vs H Q
def eCall (o : List Wv → List Cell → Option Dt) (g : EvA) : Ev := fun env => M.bind (g env) fun ws => fun cs => M.opt ((o ws cs).map .dat) cs
theorem call_use {r : List V → Hp → VK → Prop} {o : List Wv → List Cell → Option Dt} (hr : CallO X.K r o) {σ : L2.St} {H : Hp} {Q : VK} (h : tEv X.K X.mg E (eCall o g) σ H Q) : tCB r (tEvA X.K X.mg E g) σ H Q := by
  obtain ⟨env, cs, ω, hs, hk, h⟩ := h
  refine ⟨env, cs, ω, hs, hk, h.bind.imp fun ws ω1 cs1 H1 l1 k1 h1 vs rv => ?_⟩
  have h1 : Out X.K X.mg E ω1 (M.opt ((o ws cs1).map Wv.dat) cs1) _ := h1
  obtain ⟨z, e, h2⟩ := Out.map_some h1
  exact hr ω1 H1 cs1 vs ws z k1 rv e Q fun ω' H' v' l k r => h2 ω' H' l k v' r
theorem ev_callB {id : String} {x : Str} {r : List V → Hp → VK → Prop} {o : List Wv → List Cell → Option Dt} (hc : CallR X (.builtin id) r) (hr : CallO X.K r o) (hg : Gl X x) (hm : X.mg x = none) (hv : bootBuiltins x = some (.builtin id)) (ha : EVA X E (e :: es) g) (hn : x ≠ "__name__" := by decide) (hdb : (x == ("__debug__" : Str)) = false := by decide)
    (he : starEach (e :: es) X.env = (false, eval e X.env) :: starEach es X.env := by rfl) (hpl : (backTo pos (starEach es X.env)).any (·.1) = false := by rfl) : EV X E (.Call (.Name x p) (e :: es) [] pos) (eCall o g) :=
  PE.imp (pe_callB hc hg hm hv ha hn hdb he hpl) fun _ _ _ h => call_use hr h
theorem ev_callTy {T : String} {x : Str} {r : List V → Hp → VK → Prop} {o : List Wv → List Cell → Option Dt} (hc : CallR X (.type T) r) (hr : CallO X.K r o) (hg : Gl X x) (hm : X.mg x = none) (hv : bootBuiltins x = some (.type T)) (ha : EVA X E (e :: es) g) (hn : x ≠ "__name__" := by decide) (hdb : (x == ("__debug__" : Str)) = false := by decide)
    (he : starEach (e :: es) X.env = (false, eval e X.env) :: starEach es X.env := by rfl) (hpl : (backTo pos (starEach es X.env)).any (·.1) = false := by rfl) : EV X E (.Call (.Name x p) (e :: es) [] pos) (eCall o g) :=
  PE.imp (pe_callTy hc hg hm hv ha hn hdb he hpl) fun _ _ _ h => call_use hr h
theorem CallO.or {K : Frag} {r s : List V → Hp → VK → Prop} {o q : List Wv → List Cell → Option Dt} (h1 : CallO K r o) (h2 : CallO K s q) : CallO K (fun xs H Q => r xs H Q ∨ s xs H Q) (fun ws cs => (o ws cs).or (q ws cs)) := fun ω H cs vs ws z k rv e Q qq => by
  have e : (o ws cs).or (q ws cs) = some z := e
  cases h : o ws cs with
  | some w =>
    rw [h] at e
    exact .inl (h1 ω H cs vs ws z k rv (h.trans e) Q qq)
  | none =>
    rw [h] at e
    exact .inr (h2 ω H cs vs ws z k rv e Q qq)
/-- one datum in, one out -/
def o1 (o : Dt → Option Dt) : List Wv → List Cell → Option Dt
  | [.dat d], _ => o d
  | _, _ => none
def o2 (o : Dt → Dt → Option Dt) : List Wv → List Cell → Option Dt
  | [.dat d, .dat e], _ => o d e
  | _, _ => none
theorem o1_of {o : Dt → Option Dt} {ws : List Wv} {cs : List Cell} {z : Dt} (h : o1 o ws cs = some z) : ∃ d, ws = [.dat d] ∧ o d = some z := by
  unfold o1 at h
  split at h
  · exact ⟨_, rfl, h⟩
  · cases h
theorem o2_of {o : Dt → Dt → Option Dt} {ws : List Wv} {cs : List Cell} {z : Dt} (h : o2 o ws cs = some z) : ∃ d e, ws = [.dat d, .dat e] ∧ o d e = some z := by
  unfold o2 at h
  split at h
  · exact ⟨_, _, rfl, h⟩
  · cases h
theorem RepWs.one {K : Frag} {ω : Wo} {vs : List V} {d : Dt} (h : RepWs K ω vs [.dat d]) : ∃ v, vs = [v] ∧ RepD K ω.Hs v d := by
  cases h with
  | cons h1 h2 => cases h2; exact ⟨_, rfl, h1⟩
theorem RepWs.two {K : Frag} {ω : Wo} {vs : List V} {d e : Dt} (h : RepWs K ω vs [.dat d, .dat e]) : ∃ v u, vs = [v, u] ∧ RepD K ω.Hs v d ∧ RepD K ω.Hs u e := by
  cases h with
  | cons h1 h2 =>
    cases h2 with
    | cons h2 h3 => cases h3; exact ⟨_, _, rfl, h1, h2⟩
/-! len -/
def dLen : Dt → Option Dt
  | .tup l => some (.int l.length)
  | .lst l => some (.int l.length)
  | .str s => if szOk s.length = true then some (.int s.length) else none
  | .dic l => some (.int l.length)
  | .scr l => some (.int l.length)
  | _ => none
def cLen : Option Cell → Option Dt
  | some (.lst l) => some (.int l.length)
  | some (.dic l) => some (.int l.length)
  | _ => none
def oLen : List Wv → List Cell → Option Dt
  | [.dat d], _ => dLen d
  | [.cel k], cs => cLen cs[k]?
  | _, _ => none
theorem RepK.len {K : Frag} {H : Hp} : ∀ {vs : List (Key × V)} {ds : List (Key × Dt)}, RepK K H vs ds → vs.length = ds.length
  | [], _, h => by cases h; rfl
  | v :: vs, _, h => by
    cases h with
    | cons h1 h2 => simp [RepK.len h2]
theorem RepWk.len {K : Frag} {ω : Wo} {vs : List (Key × V)} {ws : List (Key × Wv)} (h : RepWk K ω vs ws) : vs.length = ws.length := by
  induction h with
  | nil => rfl
  | cons _ _ ih => simp [ih]
theorem call_len3 : CallR X (.builtin "len") (fun xs H Q => (∃ p ys, xs = [V.ref p] ∧ (SqL X.K H p ys ∨ SqT X.K H p ys) ∧ Q (.int ys.length) H) ∨ ((∃ z, xs = [V.str z] ∧ z.length ≤ sizeLine ∧ Q (.int z.length) H) ∨ (∃ a kvs, xs = [V.ref a] ∧ H a = some (.dK kvs) ∧ Q (.int kvs.length) H))) :=
  CallR.or call_len_seq (CallR.or call_len_str call_lenD)
theorem co_len {K : Frag} : CallO K (fun xs H Q => (∃ p ys, xs = [V.ref p] ∧ (SqL K H p ys ∨ SqT K H p ys) ∧ Q (.int ys.length) H) ∨ ((∃ z, xs = [V.str z] ∧ z.length ≤ sizeLine ∧ Q (.int z.length) H) ∨ (∃ a kvs, xs = [V.ref a] ∧ H a = some (.dK kvs) ∧ Q (.int kvs.length) H))) oLen := fun ω H cs vs ws z k rv e Q q => by
  unfold oLen at e
  split at e
  · obtain ⟨v, rfl, r⟩ := rv.one
    cases r with
    | tup h1 h2 => cases e; exact .inl ⟨_, _, rfl, .inr ((ex_t k.ex h1).sq), by rw [h2.len]; exact q ω H _ (Le.refl _) k (.int _)⟩
    | lst h1 h2 => cases e; exact .inl ⟨_, _, rfl, .inl (SqL.of (k.ex _ _ h1)), by rw [h2.len]; exact q ω H _ (Le.refl _) k (.int _)⟩
    | str s =>
      have e : (if szOk s.length = true then some (Dt.int s.length) else none) = some z := e
      split at e
      · cases e; exact .inr (.inl ⟨s, rfl, szOk_of (by assumption), q ω H _ (Le.refl _) k (.int _)⟩)
      · cases e
    | dic h1 h2 => cases e; exact .inr (.inr ⟨_, _, rfl, k.ex _ _ h1, by rw [h2.len]; exact q ω H _ (Le.refl _) k (.int _)⟩)
    | scr h1 => cases e; exact .inl ⟨_, _, rfl, .inl (ex_l k.ex h1), by rw [List.length_map]; exact q ω H _ (Le.refl _) k (.int _)⟩
    | _ => cases e
  · rename_i cs' j
    cases rv with
    | cons r1 r2 =>
      cases r2
      obtain ⟨a, e1, rfl⟩ := r1
      cases hc : cs[j]? with
      | none => rw [hc] at e; cases e
      | some c =>
        rw [hc] at e
        have qc := k.cell e1 hc
        cases c with
        | lst l => obtain ⟨_, vs, h1, h2⟩ := qc; cases e; exact .inl ⟨_, _, rfl, .inl (SqL.of h1), by rw [h2.len]; exact q ω H _ (Le.refl _) k (.int _)⟩
        | dic l => obtain ⟨_, vs, h1, h2⟩ := qc; cases e; exact .inr (.inr ⟨_, _, rfl, h1, by rw [h2.len]; exact q ω H _ (Le.refl _) k (.int _)⟩)
        | ins C l => cases e
        | dead => cases e
  · cases e
theorem ev_len {x : Str} (hx : x = "len") (hg : Gl X x) (hm : X.mg x = none) (ha : EVA X E (e :: es) g)
    (he : starEach (e :: es) X.env = (false, eval e X.env) :: starEach es X.env := by rfl) (hpl : (backTo pos (starEach es X.env)).any (·.1) = false := by rfl) : EV X E (.Call (.Name x p) (e :: es) [] pos) (eCall oLen g) := by
  subst hx
  exact ev_callB call_len3 co_len hg hm boot_len ha (by decide) (by decide) he hpl
/-! ints -/
def dAbs : Dt → Option Dt
  | .int i => some (.int (if i < 0 then -i else i))
  | _ => none
def dMax2 : Dt → Dt → Option Dt
  | .int i, .int j => some (.int (if j > i then j else i))
  | _, _ => none
def dMin2 : Dt → Dt → Option Dt
  | .int i, .int j => some (.int (if j < i then j else i))
  | _, _ => none
theorem co_abs {K : Frag} : CallO K (fun xs H Q => ∃ i, xs = [V.int i] ∧ Q (.int (if i < 0 then -i else i)) H) (o1 dAbs) := fun ω H cs vs ws z k rv e Q q => by
  obtain ⟨d, rfl, e⟩ := o1_of e
  obtain ⟨v, rfl, r⟩ := rv.one
  cases d with
  | int i => cases r; cases e; exact ⟨i, rfl, q ω H _ (Le.refl _) k (.int _)⟩
  | _ => cases e
theorem co_max2 {K : Frag} : CallO K (fun xs H Q => ∃ i j, xs = [V.int i, V.int j] ∧ Q (.int (if j > i then j else i)) H) (o2 dMax2) := fun ω H cs vs ws z k rv e Q q => by
  obtain ⟨d, d', rfl, e1⟩ := o2_of e
  obtain ⟨v, u, rfl, r, r'⟩ := rv.two
  unfold dMax2 at e1
  split at e1
  · cases r; cases r'; cases e1; exact ⟨_, _, rfl, q ω H _ (Le.refl _) k (.int _)⟩
  · cases e1
theorem co_min2 {K : Frag} : CallO K (fun xs H Q => ∃ i j, xs = [V.int i, V.int j] ∧ Q (.int (if j < i then j else i)) H) (o2 dMin2) := fun ω H cs vs ws z k rv e Q q => by
  obtain ⟨d, d', rfl, e1⟩ := o2_of e
  obtain ⟨v, u, rfl, r, r'⟩ := rv.two
  unfold dMin2 at e1
  split at e1
  · cases r; cases r'; cases e1; exact ⟨_, _, rfl, q ω H _ (Le.refl _) k (.int _)⟩
  · cases e1
def dInt1 : Dt → Option Dt
  | .int i => some (.int i)
  | .bl k => some (.int (if k then 1 else 0))
  | _ => none
theorem co_int1 {K : Frag} : CallO K (fun xs H Q => (∃ i, xs = [V.int i] ∧ Q (.int i) H) ∨ ∃ k, xs = [V.bl k] ∧ Q (.int (if k then 1 else 0)) H) (o1 dInt1) := fun ω H cs vs ws z k rv e Q q => by
  obtain ⟨d, rfl, e⟩ := o1_of e
  obtain ⟨v, rfl, r⟩ := rv.one
  cases d with
  | int i => cases r; cases e; exact .inl ⟨i, rfl, q ω H _ (Le.refl _) k (.int _)⟩
  | bl i => cases r; cases e; exact .inr ⟨i, rfl, q ω H _ (Le.refl _) k (.int _)⟩
  | _ => cases e
def dStr1 : Dt → Option Dt
  | .int i => if decide (i.natAbs.log2 < 1920) = true then some (.str (toString i)) else none
  | _ => none
theorem co_str1 {K : Frag} : CallO K (fun xs H Q => ∃ i, xs = [V.int i] ∧ i.natAbs.log2 < 1920 ∧ Q (.str (toString i)) H) (o1 dStr1) := fun ω H cs vs ws z k rv e Q q => by
  obtain ⟨d, rfl, e⟩ := o1_of e
  obtain ⟨v, rfl, r⟩ := rv.one
  cases d with
  | int i =>
    have e : (if decide (i.natAbs.log2 < 1920) = true then some (Dt.str (toString i)) else none) = some z := e
    split at e
    · rename_i hh
      cases r; cases e; exact ⟨i, rfl, of_decide_eq_true hh, q ω H _ (Le.refl _) k (.str _)⟩
    · cases e
  | _ => cases e
/-! sum, all, any of a list -/
def intsOf : List Dt → Option (List Int)
  | [] => some []
  | .int i :: l => (intsOf l).map (i :: ·)
  | _ :: _ => none
def blsOf : List Dt → Option (List Bool)
  | [] => some []
  | .bl i :: l => (blsOf l).map (i :: ·)
  | _ :: _ => none
theorem RepL.ints {K : Frag} {H : Hp} : ∀ {vs : List V} {ds : List Dt} {ns : List Int}, RepL K H vs ds → intsOf ds = some ns → vs = ns.map V.int
  | [], _, ns, h, e => by cases h; simp [intsOf] at e; subst e; rfl
  | v :: vs, _, ns, h, e => by
    cases h with
    | @cons _ _ d ds h1 h2 =>
      cases d with
      | int i =>
        simp [intsOf] at e
        obtain ⟨ms, e1, rfl⟩ := e
        cases h1
        rw [RepL.ints h2 e1]
        rfl
      | _ => simp [intsOf] at e
theorem RepL.bls {K : Frag} {H : Hp} : ∀ {vs : List V} {ds : List Dt} {ns : List Bool}, RepL K H vs ds → blsOf ds = some ns → vs = ns.map V.bl
  | [], _, ns, h, e => by cases h; simp [blsOf] at e; subst e; rfl
  | v :: vs, _, ns, h, e => by
    cases h with
    | @cons _ _ d ds h1 h2 =>
      cases d with
      | bl i =>
        simp [blsOf] at e
        obtain ⟨ms, e1, rfl⟩ := e
        cases h1
        rw [RepL.bls h2 e1]
        rfl
      | _ => simp [blsOf] at e
def dSum : Dt → Option Dt
  | .lst l => (intsOf l).map fun ns => .int ns.sum
  | _ => none
def dAll : Dt → Option Dt
  | .lst l => (blsOf l).map fun bs => .bl (bs.all id)
  | _ => none
def dAny : Dt → Option Dt
  | .lst l => (blsOf l).map fun bs => .bl (bs.any id)
  | _ => none
theorem co_sum {K : Frag} : CallO K (rSum K) (o1 dSum) := fun ω H cs vs ws z k rv e Q q => by
  obtain ⟨d, rfl, e⟩ := o1_of e
  obtain ⟨v, rfl, r⟩ := rv.one
  cases d with
  | lst l =>
    have e : (intsOf l).map (fun ns => Dt.int ns.sum) = some z := e
    cases h : intsOf l with
    | none => rw [h] at e; cases e
    | some ns =>
      rw [h] at e
      cases e
      cases r with
      | lst h1 h2 => exact ⟨_, ns, rfl, by rw [← h2.ints h]; exact SqL.of (k.ex _ _ h1), q ω H _ (Le.refl _) k (.int _)⟩
  | _ => cases e
theorem co_all {K : Frag} : CallO K (rAll K) (o1 dAll) := fun ω H cs vs ws z k rv e Q q => by
  obtain ⟨d, rfl, e⟩ := o1_of e
  obtain ⟨v, rfl, r⟩ := rv.one
  cases d with
  | lst l =>
    have e : (blsOf l).map (fun bs => Dt.bl (bs.all id)) = some z := e
    cases h : blsOf l with
    | none => rw [h] at e; cases e
    | some ns =>
      rw [h] at e
      cases e
      cases r with
      | lst h1 h2 => exact ⟨_, ns, rfl, by rw [← h2.bls h]; exact SqL.of (k.ex _ _ h1), q ω H _ (Le.refl _) k (.bl _)⟩
  | _ => cases e
theorem co_any {K : Frag} : CallO K (rAny K) (o1 dAny) := fun ω H cs vs ws z k rv e Q q => by
  obtain ⟨d, rfl, e⟩ := o1_of e
  obtain ⟨v, rfl, r⟩ := rv.one
  cases d with
  | lst l =>
    have e : (blsOf l).map (fun bs => Dt.bl (bs.any id)) = some z := e
    cases h : blsOf l with
    | none => rw [h] at e; cases e
    | some ns =>
      rw [h] at e
      cases e
      cases r with
      | lst h1 h2 => exact ⟨_, ns, rfl, by rw [← h2.bls h]; exact SqL.of (k.ex _ _ h1), q ω H _ (Le.refl _) k (.bl _)⟩
  | _ => cases e
/-! list(x), tuple(x) -/
def dListOf : Dt → Option Dt
  | .tup l => some (.lst l)
  | .lst l => some (.lst l)
  | _ => none
def dTupOf : Dt → Option Dt
  | .tup l => some (.tup l)
  | .lst l => some (.tup l)
  | _ => none
def cSeq (f : List Dt → Dt) : Option Cell → Option Dt
  | some (.lst l) => (dats l).map f
  | _ => none
def oSeq (o : Dt → Option Dt) (f : List Dt → Dt) : List Wv → List Cell → Option Dt
  | [.dat d], _ => o d
  | [.cel k], cs => cSeq f cs[k]?
  | _, _ => none
theorem oSeq_of {K : Frag} {ω : Wo} {H : Hp} {cs : List Cell} {vs : List V} {ws : List Wv} {z : Dt} {o : Dt → Option Dt} {f : List Dt → Dt} (k : Ok K ω H cs) (rv : RepWs K ω vs ws) (h : oSeq o f ws cs = some z) :
    (∃ v d, vs = [v] ∧ RepD K ω.Hs v d ∧ o d = some z) ∨ ∃ a us ds, vs = [V.ref a] ∧ H a = some (.lst us) ∧ RepL K ω.Hs us ds ∧ z = f ds := by
  unfold oSeq at h
  split at h
  · obtain ⟨v, rfl, r⟩ := rv.one
    exact .inl ⟨v, _, rfl, r, h⟩
  · rename_i cs' j
    cases rv with
    | cons r1 r2 =>
      cases r2
      obtain ⟨a, e1, rfl⟩ := r1
      cases hc : cs[j]? with
      | none => rw [hc] at h; cases h
      | some c =>
        rw [hc] at h
        have qc := k.cell e1 hc
        cases c with
        | lst l =>
          obtain ⟨_, us, h1, h2⟩ := qc
          have h : (dats l).map f = some z := h
          cases hd : dats l with
          | none => rw [hd] at h; cases h
          | some ds =>
            rw [hd] at h
            cases h
            exact .inr ⟨a, us, ds, rfl, h1, h2.dats hd, rfl⟩
        | _ => cases h
  · cases h
theorem co_list {K : Frag} : CallO K (fun xs H Q => ∃ p ys, xs = [V.ref p] ∧ (SqL K H p ys ∨ SqT K H p ys) ∧ ∀ l, H l = none → Q (.ref l) (upd H l (.lst ys))) (oSeq dListOf .lst) := fun ω H cs vs ws z k rv e Q q => by
  rcases oSeq_of k rv e with ⟨v, d, rfl, r, e⟩ | ⟨a, us, ds, rfl, h1, h2, rfl⟩
  · cases r with
    | tup h1 h2 => cases e; exact ⟨_, _, rfl, .inr ((ex_t k.ex h1).sq), froze_use k q fun p hp => rep_lst k hp h2⟩
    | lst h1 h2 => cases e; exact ⟨_, _, rfl, .inl (SqL.of (k.ex _ _ h1)), froze_use k q fun p hp => rep_lst k hp h2⟩
    | _ => cases e
  · exact ⟨_, _, rfl, .inl (SqL.of h1), froze_use k q fun p hp => rep_lst k hp h2⟩
theorem co_tuple {K : Frag} : CallO K (fun xs H Q => ∃ p ys, xs = [V.ref p] ∧ ((SqL K H p ys ∧ ∀ l, H l = none → Q (.ref l) (upd H l (.tup ys))) ∨ (SqT K H p ys ∧ Q (.ref p) H))) (oSeq dTupOf .tup) := fun ω H cs vs ws z k rv e Q q => by
  rcases oSeq_of k rv e with ⟨v, d, rfl, r, e⟩ | ⟨a, us, ds, rfl, h1, h2, rfl⟩
  · cases r with
    | tup h1 h2 => cases e; exact ⟨_, _, rfl, .inr ⟨(ex_t k.ex h1).sq, q ω H _ (Le.refl _) k (.tup h1 h2)⟩⟩
    | lst h1 h2 => cases e; exact ⟨_, _, rfl, .inl ⟨SqL.of (k.ex _ _ h1), froze_use k q fun p hp => rep_tup k hp h2⟩⟩
    | _ => cases e
  · exact ⟨_, _, rfl, .inl ⟨SqL.of h1, froze_use k q fun p hp => rep_tup k hp h2⟩⟩
/-! repr of a list, a tuple -/
mutual
theorem noDict_of {K : Frag} {H : Hp} : ∀ (d : PyData) (v : V), Dp K H v d → d.hasDict = false
  | .none, _, _ => rfl
  | .bool _, _, _ => rfl
  | .int _, _, _ => rfl
  | .str _, _, _ => rfl
  | .list xs, _, h => by
    cases h with
    | lst _ h2 => exact noDicts_of xs _ h2
  | .tuple xs, _, h => by
    cases h with
    | tup _ h2 => exact noDicts_of xs _ h2
  | .dict _, _, h => by cases h
theorem noDicts_of {K : Frag} {H : Hp} : ∀ (ds : List PyData) (vs : List V), DpAll K H vs ds → PyData.hasDictAll ds = false
  | [], _, _ => rfl
  | d :: ds, _, h => by
    cases h with
    | cons h1 h2 =>
      show (d.hasDict || PyData.hasDictAll ds) = false
      rw [noDict_of d _ h1, noDicts_of ds _ h2]
      rfl
end
def rRepr (K : Frag) : List V → Hp → VK → Prop := fun xs H Q => ∃ (a : Addr) (d : PyData), xs = [V.ref a] ∧ Dp K H (.ref a) d ∧ d.showable = true ∧ d.depth ≤ 64 ∧ d.shown.length ≤ sizeLine ∧ Q (.str d.shown) H
theorem cr_repr (hg : X.A.guards = some []) (hu : X.A.units + 66 < cLine) : CallR X (.builtin "repr") (rRepr X.K) := by
  intro pins s σ H xs us Q I rx h
  obtain ⟨a, d, rfl, hd, h1, h2, h3, q⟩ := h
  cases rx with
  | cons r0 r1 =>
    cases r1
    obtain rfl := r0
    obtain ⟨as, hr⟩ := Dp.reads I d (.ref a) (.ref a) hd rfl
    refine PySem.repr_of_reads' hr h1 (fun z => ?_) hg (by omega) (fun _ _ e => e) (fun h' u tk hk => ⟨.str d.shown, H, I.kept hk, ⟨u, rfl⟩, q⟩) h3
    rw [noDict_of d _ hd] at z
    cases z
def dRepr (x : Dt) : Option Dt := match seqOf x, py x with
  | some _, some d => if (d.showable && decide (d.depth ≤ 64) && szOk d.shown.length) = true then some (.str d.shown) else none
  | _, _ => none
theorem co_repr {K : Frag} : CallO K (rRepr K) (o1 dRepr) := fun ω H cs vs ws z k rv e Q q => by
  obtain ⟨d, rfl, e0⟩ := o1_of e
  obtain ⟨v, rfl, r⟩ := rv.one
  unfold dRepr at e0
  split at e0
  · rename_i l d' e1 e2
    split at e0
    · rename_i hh
      simp only [Bool.and_eq_true, decide_eq_true_eq] at hh
      cases e0
      have hd := dp_of d v d' (r.up k) e2
      have ha : ∃ a, v = .ref a := by
        cases d with
        | tup l => cases r with | tup h1 h2 => exact ⟨_, rfl⟩
        | lst l => cases r with | lst h1 h2 => exact ⟨_, rfl⟩
        | _ => cases e1
      obtain ⟨a, rfl⟩ := ha
      exact ⟨a, d', rfl, hd, hh.1.1, hh.1.2, szOk_of hh.2, q ω H _ (Le.refl _) k (.str _)⟩
    · cases e0
  · cases e0
/-! isinstance with built-in classes -/
def tyN : Dt → Option String
  | .non => some "NoneType"
  | .bl _ => some "bool"
  | .int _ => some "int"
  | .str _ => some "str"
  | .tup _ => some "tuple"
  | .lst _ => some "list"
  | .dic _ => some "dict"
  | _ => none
def allTy : List String := ["NoneType", "bool", "int", "str", "tuple", "list", "dict"]
def subTy (x y : String) : Bool := x == y || (x == "bool" && y == "int")
theorem subTy_ok : ∀ x ∈ allTy, ∀ y ∈ allTy, kitB x y = some (subTy x y) := by decide +kernel
def isaB (x y : Dt) : Option Bool := match tyN x, y with
  | some n, .op (.ty m) => if allTy.contains m = true then some (subTy n m) else none
  | _, _ => none
def isaL (x : Dt) : List Dt → Option Bool
  | [] => some false
  | y :: l => match isaB x y, isaL x l with
    | some a, some b => some (a || b)
    | _, _ => none
def dIsi : Dt → Dt → Option Dt
  | x, .tup l => match tyN x with
    | some _ => (isaL x l).map .bl
    | none => none
  | x, y => (isaB x y).map .bl
theorem tyX_of {K : Frag} {ω : Wo} {H : Hp} {cs : List Cell} {v : V} {d : Dt} {n : String} (k : Ok K ω H cs) (r : RepD K ω.Hs v d) (e : tyN d = some n) : TyX K H v (.type n) ∧ n ∈ allTy := by
  cases r with
  | non => cases e; exact ⟨.base .non, by decide⟩
  | bl b => cases e; exact ⟨.base (.bl b), by decide⟩
  | int b => cases e; exact ⟨.base (.int b), by decide⟩
  | str b => cases e; exact ⟨.base (.str b), by decide⟩
  | tup h1 h2 =>
    cases e
    refine ⟨?_, by decide⟩
    rcases ex_t k.ex h1 with h | ⟨o, its, n, h, hc, _⟩
    · exact .base (.tup h)
    · exact .kTuple h hc
  | lst h1 h2 => cases e; exact ⟨.base (.lst (k.ex _ _ h1)), by decide⟩
  | dic h1 h2 => cases e; exact ⟨.base (.dK (k.ex _ _ h1)), by decide⟩
  | obj h1 hc h2 => cases e
  | op v => cases e
  | scr h1 => cases e
  | exn h1 => cases e
theorem isaB_of {K : Frag} {ω : Wo} {H : Hp} {cs : List Cell} {v u : V} {x y : Dt} {b : Bool} (k : Ok K ω H cs) (r : RepD K ω.Hs v x) (r' : RepD K ω.Hs u y) (e : isaB x y = some b) : ∃ t c, ClsV u c ∧ TyX K H v t ∧ PySem.W.kitOne K t c = some b := by
  unfold isaB at e
  split at e
  · rename_i n m e1
    split at e
    · rename_i hm
      cases e
      obtain ⟨t1, t2⟩ := tyX_of k r e1
      cases r'
      exact ⟨_, _, .ty m, t1, kit_ty (subTy_ok n t2 m (by simpa using hm))⟩
    · cases e
  · cases e
theorem isaL_of {K : Frag} {ω : Wo} {H : Hp} {cs : List Cell} {v : V} {x : Dt} {n : String} (k : Ok K ω H cs) (r : RepD K ω.Hs v x) (en : tyN x = some n) : ∀ {us : List V} {ys : List Dt} {b : Bool}, RepL K ω.Hs us ys → isaL x ys = some b → ∃ cls, Paired ClsV us cls ∧ PySem.W.kitAny K (.type n) cls = some b
  | [], _, b, h, e => by cases h; cases e; exact ⟨[], .nil, rfl⟩
  | u :: us, _, b, h, e => by
    cases h with
    | @cons _ _ y ys h1 h2 =>
      have one : ∀ b', isaB x y = some b' → ∃ c, ClsV u c ∧ PySem.W.kitOne K (.type n) c = some b' := fun b' e' => by
        unfold isaB at e'
        rw [en] at e'
        split at e'
        · rename_i n' m e1
          cases e1
          split at e'
          · rename_i hm
            cases e'
            cases h1
            exact ⟨_, .ty m, kit_ty (subTy_ok n (tyX_of k r en).2 m (by simpa using hm))⟩
          · cases e'
        · cases e'
      unfold isaL at e
      split at e
      · rename_i b1 b2 hb hl
        cases e
        obtain ⟨c, c1, c2⟩ := one b1 hb
        obtain ⟨cls, q1, q2⟩ := isaL_of k r en h2 hl
        refine ⟨c :: cls, .cons c1 q1, kitAny_cons c2 (fun z => ?_) fun z => ?_⟩
        · subst z
          exact q2
        · subst z
          rfl
      · cases e
theorem call_isi3 : CallR X (.builtin "isinstance") (fun xs H Q => rIsi X.K xs H Q ∨ (rIsiT X.K xs H Q ∨ rIsiK X.K xs H Q)) := CallR.or call_isi (CallR.or call_isiT call_isiK)
theorem co_isi {K : Frag} : CallO K (fun xs H Q => rIsi K xs H Q ∨ (rIsiT K xs H Q ∨ rIsiK K xs H Q)) (o2 dIsi) := fun ω H cs vs ws z k rv e Q q => by
  obtain ⟨x, y, rfl, e1⟩ := o2_of e
  obtain ⟨v, u, rfl, r, r'⟩ := rv.two
  unfold dIsi at e1
  split at e1
  · rename_i l
    split at e1
    · rename_i n en
      cases hb : isaL x l with
      | none => rw [hb] at e1; cases e1
      | some b =>
        rw [hb] at e1
        cases e1
        cases r' with
        | tup h1 h2 =>
          obtain ⟨cls, q1, q2⟩ := isaL_of k r en h2 hb
          have ty := (tyX_of k r en).1
          rcases ex_t k.ex h1 with h | ⟨o, its, m, h, hc, hd, hz, hv⟩
          · exact .inr (.inl ⟨v, _, _, _, cls, b, rfl, h, q1, ty, q2, q ω H _ (Le.refl _) k (.bl _)⟩)
          · have e2 : its.toList = cls := ClsV.all q1 hv
            obtain ⟨oc, od, dd, sl⟩ := o
            simp only at hc hd
            subst hc
            subst hd
            exact .inr (.inr ⟨v, _, od, cls, m, sl, _, b, rfl, by rw [h, ← e2], ty, q2, q ω H _ (Le.refl _) k (.bl _)⟩)
    · cases e1
  · cases hb : isaB x y with
    | none => rw [hb] at e1; cases e1
    | some b =>
      rw [hb] at e1
      cases e1
      obtain ⟨t, c, c1, c2, c3⟩ := isaB_of k r r' hb
      exact .inl ⟨v, u, t, c, b, rfl, c1, c2, c3, q ω H _ (Le.refl _) k (.bl _)⟩
end
end DX

set_option Elab.async false
set_option linter.all false
set_option maxRecDepth 100000
set_option maxHeartbeats 2000000
/-! D5: what a loop walks. -/
namespace DX
variable [TabT]
open PySem L2
/-! ### walks of new tuples whose iterators lean on nothing tracked -/
def ItW (n : Nat) (Ys : Nat → List V → Prop) : It := ⟨fun i _ => i < n, fun i H x H' => ∃ T xs, x = .ref T ∧ H T = none ∧ H' = upd H T (.tup xs) ∧ Ys i xs, fun i _ => n ≤ i⟩
theorem turn_wt {P : Program} {w : World} {K : Frag} {elts : List Expr} {kk : Nat} {tpos : Pos} {I : Addr} {fp wr : List Addr} {n : Nat} {Pt : Nat → Array Value → Prop} {Sta : Nat → Heap → Prop} {Mid : Nat → Addr → Heap → Prop} {Ys : Nat → List V → Prop}
    (W : ∀ A : Around, A.handled = none → WalksT P w A I fp wr n Pt Sta Mid) (hI : I ∈ fp) (hobj : ∀ i h, Sta i h → ∀ b ∈ fp, ∃ o, h.get? b = some o ∧ ∀ v, o.data ≠ .cell v)
    (hself : ∀ (A : Around) (i : Nat) (s : Shared) (Q : Value → Shared → Prop) (E : Value → Shared → Prop), Sta i s.heap → Q (.ref I) s → wpAny (model P w) A (pyIter (.ref I)) Q E s) (hP : ∀ i vals, Pt i vals → ∃ xs us, vals = List.toArray us ∧ Vals xs us ∧ Ys i xs ∧ xs.length ≤ sizeLine) : Turn P w K (.Tuple elts kk tpos) (ItW n Ys) fp I (fun i h => Sta i h ∧ i ≤ n) where
  mem := hI
  obj := fun i h st => hobj i h st.1
  keep := fun i h h' st k => ⟨(W { } rfl).frame i h h' st.1 k, st.2⟩
  item := by
    intro X hPr hw hK hc i pins s σ H E J hf st hg
    subst hPr hw hK
    have WA := W X.A (J.ok.hd hc)
    refine WA.item i s _ _ hg st.1 fun T vals h' tk hPt hge hT hM hk => ?_
    refine ⟨_, rfl, WA.go elts kk tpos i T { s with heap := h', toks := tk } _ _ hM fun h'' st' hk' => ?_⟩
    obtain ⟨xs, us, e1, rv, hy, hz⟩ := hP i vals hPt
    obtain ⟨o, ho, oc, m, od⟩ := hT
    have hT2 : h''.get? T = some o := hk' T o (WA.apart i T _ hM) ho
    have new : ObjOk X.prog X.w (upd H T (.tup xs)) h'' T (.tup xs) := ⟨hz, us, rv, o, hT2, oc, m, by rw [od, e1]⟩
    have sub : ∀ b ∈ wr, b ∈ fp := WA.sub
    refine ⟨.ref T, _, J.turnedNew (t' := tk) (ch := wr) (fun b ob hb q => hk' b ob hb (hk b ob hb q)) (fun b hb => hf b (sub b hb)) hge new, rfl, ⟨T, xs, rfl, J.hok.fresh hge, rfl, hy⟩, ⟨st', hg⟩, fun b hb => ?_⟩
    obtain ⟨ob, q, _⟩ := hobj i _ st.1 b hb
    rw [upd_ne (Nat.ne_of_lt (Nat.lt_of_lt_of_le (Heap.lt_size q) hge))]
    exact (hf b hb).1
  done := by
    intro X hPr hw hK hc i pins s σ H E J hf st hg
    subst hPr hw hK
    have WA := W X.A (J.ok.hd hc)
    have e : i = n := Nat.le_antisymm st.2 hg
    subst e
    exact WA.done s _ _ st.1 fun h' tk hk => ⟨rfl, J.turnedL (ch := wr) (t' := tk) hk fun b hb => hf b (WA.sub b hb)⟩
  self := fun A i s Q E st h => hself A i s Q E st.1 h
/-! ### enumerate of a text, zip of two texts -/
def signY (z : Str) (i : Nat) (v : V) : Prop := ∃ c, z.cps[i]? = some c ∧ v = .str ⟨#[c]⟩
theorem striter_obj {h : Heap} {it : Addr} {ty : String} {x : Str} {t : Tok} {i : Nat} (st : h.IsStrIter it ty x t i) : ∃ o, h.get? it = some o ∧ ∀ v, o.data ≠ .cell v := by
  obtain ⟨o, ho, hc, hd⟩ := st
  exact ⟨o, ho, fun v z => by rw [hd] at z; cases z⟩
section
variable {X : Cx} {e e2 : Expr} {ta : TA} {p pos tpos : Pos} {elts : List Expr} {kk : Nat}
def iEnumS (ta : TA) : TI := fun σ H R => ta σ H fun vs H1 => ∃ z, vs = [V.str z] ∧ R (ItW z.cps.size fun i xs => ∃ v, signY z i v ∧ xs = [.int (i : Nat), v]) H1
theorem pi_enumS (hg : Gl X "enumerate") (hm : X.mg "enumerate" = none) (ha : PA X [e] ta) (hs : starEach [e] X.env = [(false, eval e X.env)] := by rfl) :
    PI X (.Tuple elts kk tpos) (.Call (.Name "enumerate" p) [e] [] pos) (iEnumS ta) := by
  refine ⟨fun pins s σ H R J h => PyProof.Rows.Call_ (ld_blt J hg hm PyProof.Rows.boot_enumerate (PyProof.Rows.callWith_type1 (thn (ha.run pos pins s σ H _ J h) fun us s1 q => ?_) hs rfl))⟩
  obtain ⟨vs, H1, J1, r1, z, ez, qR⟩ := q
  subst ez
  cases r1 with
  | cons r rr =>
    cases rr
    obtain ⟨t, rfl⟩ := r
    refine call_enumerate_str fun h' he hit hsz hk => wpAny_pyIter_enum he ?_
    have J2 : L2.Inv X pins σ H1 { s1 with heap := h' } := J1.kept (t' := s1.toks) hk
    have hne : s1.heap.objs.size + 1 ≠ s1.heap.objs.size := Nat.succ_ne_self _
    refine ⟨s1.heap.objs.size + 1, [s1.heap.objs.size + 1, s1.heap.objs.size], _, _, H1, rfl, J2, turn_wt (fun A hA => WalksT.enumerateD (Draws.text (A := A.in1) hA s1.heap.objs.size z t) (s1.heap.objs.size + 1) hne (by simpa using hne) (by simp)) (by simp) (fun i h st b hb => ?_) (fun A i s Q E st h => let ⟨⟨_, hq⟩, _⟩ := st; wpAny_pyIter_enum hq h) (fun i vals hp => ?_), ⟨⟨⟨.none, he⟩, hit⟩, Nat.zero_le _⟩, fun b hb => ?_, qR⟩
    · obtain ⟨⟨old, hq⟩, hs⟩ := st
      have e' : b = s1.heap.objs.size + 1 ∨ b = s1.heap.objs.size := by simpa using hb
      rcases e' with y | y <;> rw [y]
      · exact ⟨_, hq, fun v q => nomatch q⟩
      · exact striter_obj hs
    · obtain ⟨t', x, ⟨c, u, hc, rfl⟩, rfl⟩ := hp
      exact ⟨[.int (i : Nat), .str ⟨#[c]⟩], [.int i t', .str ⟨#[c]⟩ u], rfl, .cons ⟨_, rfl⟩ (.cons ⟨_, rfl⟩ .nil), ⟨_, ⟨c, hc, rfl⟩, rfl⟩, by show 2 ≤ sizeLine; decide⟩
    · have hle : s1.heap.objs.size ≤ b := by
        have e' : b = s1.heap.objs.size + 1 ∨ b = s1.heap.objs.size := by simpa using hb
        rcases e' with y | y <;> rw [y]
        · exact Nat.le_succ _
        · exact Nat.le_refl _
      exact J1.fpOk hle (J1.hok.fresh hle)
def iZipS (ta : TA) : TI := fun σ H R => ta σ H fun vs H1 => ∃ y z, vs = [V.str y, V.str z] ∧ R (ItW (min y.cps.size z.cps.size) fun i xs => ∃ u v, signY y i u ∧ signY z i v ∧ xs = [u, v]) H1
theorem pi_zipS (hg : Gl X "zip") (hm : X.mg "zip" = none) (ha : PA X [e, e2] ta)
    (hs : starEach [e, e2] X.env = (false, eval e X.env) :: starEach [e2] X.env := by rfl) (hpl : (backTo pos (starEach [e2] X.env)).any (·.1) = false := by rfl) :
    PI X (.Tuple elts kk tpos) (.Call (.Name "zip" p) [e, e2] [] pos) (iZipS ta) := by
  refine ⟨fun pins s σ H R J h => PyProof.Rows.Call_ (ld_blt J hg hm PyProof.Rows.boot_zip (PyProof.Rows.callWith_type1 (thn (ha.run pos pins s σ H _ J h) fun us s1 q => ?_) hs hpl))⟩
  obtain ⟨vs, H1, J1, r1, y, z, ez, qR⟩ := q
  subst ez
  cases r1 with
  | cons r rr =>
    cases rr with
    | cons r' rr =>
      cases rr
      obtain ⟨t, rfl⟩ := r
      obtain ⟨t', rfl⟩ := r'
      refine zip_begins2 (begins_text y t) (begins_text z t') trivial trivial fun h' hz hTI hTO h1 h2 hsz hk => wpAny_pyIter_zip hz ?_
      have J2 : L2.Inv X pins σ H1 { s1 with heap := h' } := J1.kept (t' := s1.toks) hk
      have S : ZipSep2 (s1.heap.objs.size + 4) (s1.heap.objs.size + 2) (s1.heap.objs.size + 3) s1.heap.objs.size (s1.heap.objs.size + 1) [s1.heap.objs.size] [s1.heap.objs.size + 1] := zip_sep2 (fun b hb => nomatch hb) fun b hb => nomatch hb
      refine ⟨s1.heap.objs.size + 4, _, _, _, H1, rfl, J2, turn_wt (fun A hA => WalksT.zipD2 S (Draws.text (A := A.in1) hA _ y t) (Draws.text (A := A.in1) hA _ z t')) (by simp) (fun i h st b hb => ?_) (fun A i s Q E st h => wpAny_pyIter_zip st.1 h) (fun i vals hp => ?_),
        ⟨⟨hz, hTI, ⟨_, _, hTO⟩, ⟨_, h1, rfl, rfl⟩, ⟨_, h2, rfl, rfl⟩⟩, Nat.zero_le _⟩, fun b hb => ?_, qR⟩
      · obtain ⟨q1, q2, ⟨_, _, q3⟩, q4, q5⟩ := st
        have e' : b = s1.heap.objs.size + 4 ∨ b = s1.heap.objs.size + 2 ∨ b = s1.heap.objs.size + 3 ∨ b = s1.heap.objs.size ∨ b = s1.heap.objs.size + 1 := by simpa using hb
        rcases e' with w | w | w | w | w <;> rw [w]
        · exact ⟨_, q1, fun v q => nomatch q⟩
        · exact ⟨_, q2, fun v q => nomatch q⟩
        · exact ⟨_, q3, fun v q => nomatch q⟩
        · exact striter_obj q4
        · exact striter_obj q5
      · obtain ⟨x1, x2, ⟨c, u, hc, rfl⟩, ⟨c', u', hc', rfl⟩, rfl⟩ := hp
        exact ⟨[.str ⟨#[c]⟩, .str ⟨#[c']⟩], [.str ⟨#[c]⟩ u, .str ⟨#[c']⟩ u'], rfl, .cons ⟨_, rfl⟩ (.cons ⟨_, rfl⟩ .nil), ⟨_, _, ⟨c, hc, rfl⟩, ⟨c', hc', rfl⟩, rfl⟩, by show 2 ≤ sizeLine; decide⟩
      · have hle : s1.heap.objs.size ≤ b := by
          have e' : b = s1.heap.objs.size + 4 ∨ b = s1.heap.objs.size + 2 ∨ b = s1.heap.objs.size + 3 ∨ b = s1.heap.objs.size ∨ b = s1.heap.objs.size + 1 := by simpa using hb
          rcases e' with w | w | w | w | w <;> rw [w]
          · exact Nat.le_add_right _ _
          · exact Nat.le_add_right _ _
          · exact Nat.le_add_right _ _
          · exact Nat.le_refl _
          · exact Nat.le_add_right _ _
        exact J1.fpOk hle (J1.hok.fresh hle)
end
/-! ### what a walk gives, by data -/
/-- as Le, whatever else is kept -/
structure Lf (ω ω' : Wo) : Prop where
  ex : Ex ω.Hs ω'.Hs
  ad : ω.ad <+: ω'.ad
  tb : ω'.T = ω.T
theorem Le.lf {ω ω' : Wo} (l : Le ω ω') : Lf ω ω' := ⟨l.ex, l.ad, l.tb⟩
structure WOk (K : Frag) (J : It) (ω : Wo) (ws : List Wv) : Prop where
  goes : ∀ i ω' H cs, i < ws.length → Lf ω ω' → Ok K ω' H cs → J.go i H
  stops : ∀ ω' H cs, Lf ω ω' → Ok K ω' H cs → J.stop ws.length H
  yields : ∀ i ω' H cs x H', i < ws.length → Lf ω ω' → Ok K ω' H cs → J.yld i H x H' → ∃ ω'', Le ω' ω'' ∧ Ok K ω'' H' cs ∧ ∃ w, ws[i]? = some w ∧ RepW K ω'' x w
abbrev EvI := En → M (List Wv)
def tEvI (K : Frag) (mg : MG) (E : XK) (f : EvI) : TI := fun σ H R => ∃ env cs ω, StRep K ω σ env ∧ Ok K ω H cs ∧ Out K mg E ω (f env cs) fun ws ω' _ H' => ∀ J, WOk K J ω' ws → R J H'
def EVI (X : Cx) (E : XK) (tg e : Expr) (f : EvI) : Prop := PI X tg e (tEvI X.K X.mg E f)
theorem PI.imp {X : Cx} {tg e : Expr} {t u : TI} (h : PI X tg e t) (i : ∀ σ H R, u σ H R → t σ H R) : PI X tg e u := ⟨fun pins s σ H R I q => h.run pins s σ H R I (i σ H R q)⟩
theorem PI.orr {X : Cx} {tg e : Expr} {t u : TI} (h : PI X tg e t) (g : PI X tg e u) : PI X tg e (fun σ H R => t σ H R ∨ u σ H R) := ⟨fun pins s σ H R I z => z.elim (h.run pins s σ H R I) (g.run pins s σ H R I)⟩
section
variable {K : Frag} {ω : Wo} {a b : Addr} {vs us : List V} {ds es : List Dt}
theorem wok_of {J : It} {n : Nat} {G : Hp → Prop} {Y : Nat → Hp → V → Hp → Prop} {ws : List Wv} (W : Walk J n G Y) (hn : ws.length = n) (hG : ∀ ω' H cs, Lf ω ω' → Ok K ω' H cs → G H)
    (hY : ∀ i ω' H cs x H', i < n → Lf ω ω' → Ok K ω' H cs → Y i H x H' → ∃ ω'', Le ω' ω'' ∧ Ok K ω'' H' cs ∧ ∃ w, ws[i]? = some w ∧ RepW K ω'' x w) : WOk K J ω ws := by
  subst hn
  exact ⟨fun i ω' H cs hi l k => W.goes i H hi (hG ω' H cs l k), fun ω' H cs l k => W.stops H (hG ω' H cs l k), fun i ω' H cs x H' hi l k y => hY i ω' H cs x H' hi l k (W.yields i H x H' hi (hG ω' H cs l k) y)⟩
theorem map_dat_get {ds : List Dt} {i : Nat} {d : Dt} (h : ds[i]? = some d) : (ds.map Wv.dat)[i]? = some (.dat d) := by simp [h]
theorem RepL.at {H : Hp} (r : RepL K H vs ds) {i : Nat} {x : V} (h : vs[i]? = some x) : ∃ d, ds[i]? = some d ∧ RepD K H x d := by
  have hi : i < ds.length := by
    rw [← r.len]
    exact (List.getElem?_eq_some_iff.mp h).1
  obtain ⟨v, e1, r1⟩ := r.get (List.getElem?_eq_getElem hi)
  rw [h] at e1
  cases e1
  exact ⟨_, List.getElem?_eq_getElem hi, r1⟩
theorem wok_list (h : ω.Hs a = some (.lst vs)) (r : RepL K ω.Hs vs ds) : WOk K (Itl K a) ω (ds.map .dat) :=
  wok_of walk_list (by simp [r.len]) (fun ω' H cs l k => SqL.of (k.ex _ _ (l.ex _ _ h))) fun i ω' H cs x H' hi l k y => by
    obtain ⟨rfl, y⟩ := y
    obtain ⟨d, e1, r1⟩ := r.at y
    exact ⟨ω', Le.refl _, k, _, map_dat_get e1, RepD.mono l.ex _ _ r1⟩
theorem wok_scr {ns : List Int} (h : SqL K ω.Hs a (ns.map V.int)) : WOk K (Itl K a) ω (ns.map fun i => .dat (.int i)) :=
  wok_of walk_list (by simp) (fun ω' H cs l k => ex_l k.ex (ex_l l.ex h)) fun i ω' H cs x H' hi l k y => by
    obtain ⟨rfl, y⟩ := y
    rw [List.getElem?_map] at y
    cases e : ns[i]? with
    | none => rw [e] at y; cases y
    | some z =>
      rw [e] at y
      cases y
      exact ⟨ω', Le.refl _, k, .dat (.int z), by simp [e], .int z⟩
theorem wok_tup (h : TupAt K ω.Hs a vs) (r : RepL K ω.Hs vs ds) : WOk K (Itt K a) ω (ds.map .dat) :=
  wok_of walk_tup (by simp [r.len]) (fun ω' H cs l k => (ex_t k.ex (ex_t l.ex h)).sq) fun i ω' H cs x H' hi l k y => by
    obtain ⟨rfl, y⟩ := y
    obtain ⟨d, e1, r1⟩ := r.at y
    exact ⟨ω', Le.refl _, k, _, map_dat_get e1, RepD.mono l.ex _ _ r1⟩
def signs (z : Str) : List Wv := z.cps.toList.map fun c => .dat (.str ⟨#[c]⟩)
theorem signs_get {z : Str} {i c : Nat} (h : z.cps[i]? = some c) : (signs z)[i]? = some (.dat (.str ⟨#[c]⟩)) := by
  unfold signs
  rw [List.getElem?_map, Array.getElem?_toList, h]
  rfl
theorem wok_str {z : Str} : WOk K (Its z) ω (signs z) :=
  wok_of walk_str (by simp [signs]) (fun _ _ _ _ _ => trivial) fun i ω' H cs x H' hi l k y => by
    obtain ⟨rfl, c, e1, rfl⟩ := y
    exact ⟨ω', Le.refl _, k, _, signs_get e1, RepD.str _⟩
def rangeW (lo : Int) (n : Nat) : List Wv := (List.range n).map fun (i : Nat) => .dat (.int (lo + i))
theorem wok_range {lo : Int} {n : Nat} : WOk K (Itr lo n) ω (rangeW lo n) :=
  wok_of walk_range (by simp [rangeW]) (fun _ _ _ _ _ => trivial) fun i ω' H cs x H' hi l k y => by
    obtain ⟨rfl, rfl⟩ := y
    exact ⟨ω', Le.refl _, k, .dat (.int (lo + (i : Nat))), by simp [rangeW, hi], RepD.int _⟩
/-- new pairs -/
theorem pair_use {ω' : Wo} {H : Hp} {cs : List Cell} {T : Addr} {xs : List V} {zs : List Dt} (k : Ok K ω' H cs) (hT : H T = none) (r : RepL K ω'.Hs xs zs) : ∃ ω'', Le ω' ω'' ∧ Ok K ω'' (upd H T (.tup xs)) cs ∧ RepW K ω'' (.ref T) (.dat (.tup zs)) :=
  ⟨ω'.froze T (.tup xs), Le.froze k hT, k.froze hT, rep_tup k hT r⟩
theorem RepL.two {H : Hp} {x y : V} {d e : Dt} (h1 : RepD K H x d) (h2 : RepD K H y e) : RepL K H [x, y] [d, e] := .cons h1 (.cons h2 .nil)
def enumW (ds : List Dt) : List Wv := ds.mapIdx fun i d => .dat (.tup [.int (i : Nat), d])
theorem wok_enum (h : ω.Hs a = some (.lst vs)) (r : RepL K ω.Hs vs ds) : WOk K (Ite K a) ω (enumW ds) :=
  wok_of (walk_enum (xs := vs)) (by simp [enumW, r.len]) (fun ω' H cs l k => SqL.of (k.ex _ _ (l.ex _ _ h))) fun i ω' H cs x H' hi l k y => by
    obtain ⟨T, x, z, rfl, hT, rfl, e1, e2⟩ := y
    cases e1
    obtain ⟨d, e3, r1⟩ := r.at e2
    obtain ⟨ω'', l1, k1, r2⟩ := pair_use k hT (RepL.two (RepD.int (i : Nat)) (RepD.mono l.ex _ _ r1))
    exact ⟨ω'', l1, k1, _, by simp [enumW, e3], r2⟩
def signD (z : Str) : List Dt := z.cps.toList.map fun c => .str ⟨#[c]⟩
theorem signD_get {z : Str} {i c : Nat} (h : z.cps[i]? = some c) : (signD z)[i]? = some (.str ⟨#[c]⟩) := by
  unfold signD
  rw [List.getElem?_map, Array.getElem?_toList, h]
  rfl
theorem wok_enumS {z : Str} : WOk K (ItW z.cps.size fun i xs => ∃ v, signY z i v ∧ xs = [.int (i : Nat), v]) ω (enumW (signD z)) := by
  have e : (enumW (signD z)).length = z.cps.size := by simp [enumW, signD]
  refine ⟨fun i ω' H cs hi l k => by rw [e] at hi; exact hi, fun ω' H cs l k => by rw [e]; exact Nat.le_refl _, fun i ω' H cs x H' hi l k y => ?_⟩
  obtain ⟨T, xs, rfl, hT, rfl, v, ⟨c, hc, rfl⟩, rfl⟩ := y
  obtain ⟨ω'', l1, k1, r2⟩ := pair_use k hT (RepL.two (RepD.int (i : Nat)) (RepD.str (⟨#[c]⟩ : Str)))
  exact ⟨ω'', l1, k1, _, by simp [enumW, signD_get hc], r2⟩
def zipW (ds es : List Dt) : List Wv := List.zipWith (fun d e => .dat (.tup [d, e])) ds es
theorem zipW_get {i : Nat} {d e : Dt} (h1 : ds[i]? = some d) (h2 : es[i]? = some e) : (zipW ds es)[i]? = some (.dat (.tup [d, e])) := by
  unfold zipW
  rw [List.getElem?_zipWith, h1, h2]
theorem wok_zip (h : ω.Hs a = some (.lst vs)) (r : RepL K ω.Hs vs ds) (h' : ω.Hs b = some (.lst us)) (r' : RepL K ω.Hs us es) : WOk K (Itz K a b) ω (zipW ds es) :=
  wok_of (walk_zip (xs := vs) (ys := us) rfl) (by simp [zipW, r.len, r'.len]) (fun ω' H cs l k => ⟨SqL.of (k.ex _ _ (l.ex _ _ h)), SqL.of (k.ex _ _ (l.ex _ _ h'))⟩) fun i ω' H cs x H' hi l k y => by
    obtain ⟨T, x, z, rfl, hT, rfl, e1, e2⟩ := y
    obtain ⟨d, e3, r1⟩ := r.at e1
    obtain ⟨e, e4, r2⟩ := r'.at e2
    obtain ⟨ω'', l1, k1, r3⟩ := pair_use k hT (RepL.two (RepD.mono l.ex _ _ r1) (RepD.mono l.ex _ _ r2))
    exact ⟨ω'', l1, k1, _, zipW_get e3 e4, r3⟩
theorem wok_zipT (h : TupAt K ω.Hs a vs) (r : RepL K ω.Hs vs ds) (h' : TupAt K ω.Hs b us) (r' : RepL K ω.Hs us es) : WOk K (RZ.ItzT K a b) ω (zipW ds es) := by
  have e : (zipW ds es).length = min vs.length us.length := by simp [zipW, r.len, r'.len]
  refine ⟨fun i ω' H cs hi l k => ?_, fun ω' H cs l k => ?_, fun i ω' H cs x H' hi l k y => ?_⟩
  · rw [e] at hi
    have h1 : i < vs.length := by omega
    have h2 : i < us.length := by omega
    exact ⟨vs, us, vs[i], us[i], (ex_t k.ex (ex_t l.ex h)).sq, (ex_t k.ex (ex_t l.ex h')).sq, by simp [h1], by simp [h2]⟩
  · rw [e]
    exact ⟨vs, us, (ex_t k.ex (ex_t l.ex h)).sq, (ex_t k.ex (ex_t l.ex h')).sq, by omega⟩
  · obtain ⟨T, x, z, rfl, hT, rfl, e1, e2⟩ := y
    obtain ⟨d, e3, r1⟩ := r.at (e1 vs (ex_t k.ex (ex_t l.ex h)).sq)
    obtain ⟨e, e4, r2⟩ := r'.at (e2 us (ex_t k.ex (ex_t l.ex h')).sq)
    obtain ⟨ω'', l1, k1, r3⟩ := pair_use k hT (RepL.two (RepD.mono l.ex _ _ r1) (RepD.mono l.ex _ _ r2))
    exact ⟨ω'', l1, k1, _, zipW_get e3 e4, r3⟩
theorem wok_zipS {y z : Str} : WOk K (ItW (min y.cps.size z.cps.size) fun i xs => ∃ u v, signY y i u ∧ signY z i v ∧ xs = [u, v]) ω (zipW (signD y) (signD z)) := by
  have e : (zipW (signD y) (signD z)).length = min y.cps.size z.cps.size := by simp [zipW, signD]
  refine ⟨fun i ω' H cs hi l k => by rw [e] at hi; exact hi, fun ω' H cs l k => by rw [e]; exact Nat.le_refl _, fun i ω' H cs x H' hi l k q => ?_⟩
  obtain ⟨T, xs, rfl, hT, rfl, u, v, ⟨c, hc, rfl⟩, ⟨c', hc', rfl⟩, rfl⟩ := q
  obtain ⟨ω'', l1, k1, r2⟩ := pair_use k hT (RepL.two (RepD.str (⟨#[c]⟩ : Str)) (RepD.str (⟨#[c']⟩ : Str)))
  exact ⟨ω'', l1, k1, _, zipW_get (signD_get hc) (signD_get hc'), r2⟩
end
section
variable {X : Cx} {E : XK} {tg e e2 : Expr} {f : Ev} {g : EvA} {p pos tpos : Pos} {elts : List Expr} {kk : Nat}
/-! ### a list, a tuple, a text walked -/
def asSeq : Wv → M (List Wv)
  | .dat (.lst l) => M.ret (l.map .dat)
  | .dat (.tup l) => M.ret (l.map .dat)
  | .dat (.str s) => M.ret (signs s)
  | .dat (.scr l) => M.ret (l.map fun i => .dat (.int i))
  | _ => M.bad
def iSeq (f : Ev) : EvI := fun env => M.bind (f env) asSeq
def kindS : Wv → Nat
  | .dat (.lst _) => 0
  | .dat (.scr _) => 0
  | .dat (.tup _) => 1
  | _ => 2
def kindR : R Wv → Nat
  | .ok w _ => kindS w
  | _ => 0
theorem ei_seq (ha : EV X E e f) : EVI X E tg e (iSeq f) :=
  PI.imp (PI.orr (pi_list ha) (PI.orr (pi_tup ha) (pi_str ha))) fun σ H R ⟨env, cs, ω, hs, hk, h⟩ => by
    have hb := h.bind
    have key : ∀ (kd : Nat), kindR (f env cs) = kd → ∀ {w cs1}, f env cs = .ok w cs1 → kindS w = kd := fun kd q w cs1 e => by
      rw [e] at q
      exact q
    match hkd : kindR (f env cs) with
    | 0 =>
      refine .inl ⟨env, cs, ω, hs, hk, hb.impE fun w ω1 cs1 H1 e1 l1 k1 h1 v rv => ?_⟩
      have q := key 0 hkd e1
      cases w with
      | cel k => cases q
      | dat d =>
        cases d with
        | lst l =>
          cases (show RepD X.K ω1.Hs v (.lst l) from rv) with
          | lst h2 h3 => exact ⟨_, rfl, ⟨_, SqL.of (k1.ex _ _ h2)⟩, h1.now k1 _ (wok_list h2 h3)⟩
        | scr l =>
          cases (show RepD X.K ω1.Hs v (.scr l) from rv) with
          | scr h2 => exact ⟨_, rfl, ⟨_, ex_l k1.ex h2⟩, h1.now k1 _ (wok_scr h2)⟩
        | _ => cases q
    | 1 =>
      refine .inr (.inl ⟨env, cs, ω, hs, hk, hb.impE fun w ω1 cs1 H1 e1 l1 k1 h1 v rv => ?_⟩)
      have q := key 1 hkd e1
      cases w with
      | cel k => cases q
      | dat d =>
        cases d with
        | tup l =>
          cases (show RepD X.K ω1.Hs v (.tup l) from rv) with
          | tup h2 h3 => exact ⟨_, rfl, ⟨_, (ex_t k1.ex h2).sq⟩, h1.now k1 _ (wok_tup h2 h3)⟩
        | _ => cases q
    | n + 2 =>
      refine .inr (.inr ⟨env, cs, ω, hs, hk, hb.impE fun w ω1 cs1 H1 e1 l1 k1 h1 v rv => ?_⟩)
      have q := key (n + 2) hkd e1
      cases w with
      | cel k => exact (show False from h1).elim
      | dat d =>
        cases d with
        | str s =>
          cases (show RepD X.K ω1.Hs v (.str s) from rv)
          exact ⟨s, rfl, h1.now k1 _ wok_str⟩
        | lst l => cases q
        | tup l => cases q
        | scr l => cases q
        | _ => exact (show False from h1).elim
/-! ranges -/
def okR (i : Int) : Bool := decide (-4611686018427387904 ≤ i) && decide (i < 4611686018427387904)
theorem okR_of {i : Int} (h : okR i = true) : -(2 ^ 62) ≤ i ∧ i < 2 ^ 62 := by
  unfold okR at h
  simp only [Bool.and_eq_true, decide_eq_true_eq] at h
  exact ⟨by omega, by omega⟩
def asR1 : List Wv → M (List Wv)
  | [.dat (.int j)] => if okR j = true then M.ret (rangeW 0 j.toNat) else M.bad
  | _ => M.bad
def asR2 : List Wv → M (List Wv)
  | [.dat (.int i), .dat (.int j)] => if (okR i && okR j) = true then M.ret (rangeW i (j - i).toNat) else M.bad
  | _ => M.bad
def iRg1 (g : EvA) : EvI := fun env => M.bind (g env) asR1
def iRg2 (g : EvA) : EvI := fun env => M.bind (g env) asR2
theorem ei_range1 (hg : Gl X "range") (hm : X.mg "range" = none) (ha : EVA X E [e] g) (hs : starEach [e] X.env = [(false, eval e X.env)] := by rfl) : EVI X E tg (.Call (.Name "range" p) [e] [] pos) (iRg1 g) :=
  PI.imp (pi_range1 hg hm ha hs) fun σ H R ⟨env, cs, ω, hs, hk, h⟩ => ⟨env, cs, ω, hs, hk, h.bind.imp fun ws ω1 cs1 H1 l1 k1 h1 vs rv => by
    unfold asR1 at h1
    split at h1
    · obtain ⟨v, rfl, r⟩ := rv.one
      cases r
      split at h1
      · rename_i j hj
        exact ⟨_, rfl, (okR_of hj).1, (okR_of hj).2, h1.now k1 _ wok_range⟩
      · exact (show False from h1).elim
    · exact (show False from h1).elim⟩
theorem ei_range2 (hg : Gl X "range") (hm : X.mg "range" = none) (ha : EVA X E [e, e2] g) (hs : starEach [e, e2] X.env = [(false, eval e X.env), (false, eval e2 X.env)] := by rfl) (hs2 : starEach [e2] X.env = [(false, eval e2 X.env)] := by rfl) :
    EVI X E tg (.Call (.Name "range" p) [e, e2] [] pos) (iRg2 g) :=
  PI.imp (pi_range2 hg hm ha hs hs2) fun σ H R ⟨env, cs, ω, hs, hk, h⟩ => ⟨env, cs, ω, hs, hk, h.bind.imp fun ws ω1 cs1 H1 l1 k1 h1 vs rv => by
    unfold asR2 at h1
    split at h1
    · obtain ⟨v, u, rfl, r, r'⟩ := rv.two
      cases r; cases r'
      split at h1
      · rename_i j hj
        simp only [Bool.and_eq_true] at hj
        exact ⟨_, _, rfl, ⟨(okR_of hj.1).1, (okR_of hj.1).2, (okR_of hj.2).1, (okR_of hj.2).2⟩, h1.now k1 _ wok_range⟩
      · exact (show False from h1).elim
    · exact (show False from h1).elim⟩
/-! enumerate, zip -/
def asEnum : List Wv → M (List Wv)
  | [.dat (.lst l)] => M.ret (enumW l)
  | [.dat (.str s)] => M.ret (enumW (signD s))
  | _ => M.bad
def asZip : List Wv → M (List Wv)
  | [.dat (.lst l), .dat (.lst m)] => M.ret (zipW l m)
  | [.dat (.tup l), .dat (.tup m)] => M.ret (zipW l m)
  | [.dat (.str l), .dat (.str m)] => M.ret (zipW (signD l) (signD m))
  | _ => M.bad
def iEnumE (g : EvA) : EvI := fun env => M.bind (g env) asEnum
def iZipE (g : EvA) : EvI := fun env => M.bind (g env) asZip
def fstStr : List Wv → Bool
  | .dat (.str _) :: _ => true
  | _ => false
def fstStrR : R (List Wv) → Bool
  | .ok w _ => fstStr w
  | _ => false
theorem ei_enum (hg : Gl X "enumerate") (hm : X.mg "enumerate" = none) (ha : EVA X E [e] g) (hs : starEach [e] X.env = [(false, eval e X.env)] := by rfl) : EVI X E (.Tuple elts kk tpos) (.Call (.Name "enumerate" p) [e] [] pos) (iEnumE g) :=
  PI.imp (PI.orr (pi_enum hg hm ha hs) (pi_enumS hg hm ha hs)) fun σ H R ⟨env, cs, ω, hs, hk, h⟩ => by
    have hb := h.bind
    cases hkd : fstStrR (g env cs) with
    | false =>
      refine .inl ⟨env, cs, ω, hs, hk, hb.impE fun ws ω1 cs1 H1 e1 l1 k1 h1 vs rv => ?_⟩
      rw [e1] at hkd
      unfold asEnum at h1
      split at h1
      · obtain ⟨v, rfl, r⟩ := rv.one
        cases r with
        | lst h2 h3 => exact ⟨_, _, rfl, SqL.of (k1.ex _ _ h2), h1.now k1 _ (wok_enum h2 h3)⟩
      · cases hkd
      · exact (show False from h1).elim
    | true =>
      refine .inr ⟨env, cs, ω, hs, hk, hb.impE fun ws ω1 cs1 H1 e1 l1 k1 h1 vs rv => ?_⟩
      rw [e1] at hkd
      unfold asEnum at h1
      split at h1
      · cases hkd
      · obtain ⟨v, rfl, r⟩ := rv.one
        cases r
        exact ⟨_, rfl, h1.now k1 _ wok_enumS⟩
      · exact (show False from h1).elim
theorem ei_zip (hg : Gl X "zip") (hm : X.mg "zip" = none) (ha : EVA X E [e, e2] g) (hs : starEach [e, e2] X.env = (false, eval e X.env) :: starEach [e2] X.env := by rfl) (hpl : (backTo pos (starEach [e2] X.env)).any (·.1) = false := by rfl) :
    EVI X E (.Tuple elts kk tpos) (.Call (.Name "zip" p) [e, e2] [] pos) (iZipE g) :=
  PI.imp (PI.orr (RZ.pi_zipA hg hm ha hs hpl) (pi_zipS hg hm ha hs hpl)) fun σ H R ⟨env, cs, ω, hs, hk, h⟩ => by
    have hb := h.bind
    cases hkd : fstStrR (g env cs) with
    | false =>
      refine .inl ⟨env, cs, ω, hs, hk, hb.impE fun ws ω1 cs1 H1 e1 l1 k1 h1 vs rv => ?_⟩
      rw [e1] at hkd
      unfold asZip at h1
      split at h1
      · obtain ⟨v, u, rfl, r, r'⟩ := rv.two
        cases r with
        | lst h2 h3 =>
          cases r' with
          | lst h4 h5 => exact ⟨_, _, _, _, rfl, .inl ⟨SqL.of (k1.ex _ _ h2), SqL.of (k1.ex _ _ h4), h1.now k1 _ (wok_zip h2 h3 h4 h5)⟩⟩
      · obtain ⟨v, u, rfl, r, r'⟩ := rv.two
        cases r with
        | tup h2 h3 =>
          cases r' with
          | tup h4 h5 => exact ⟨_, _, _, _, rfl, .inr ⟨(ex_t k1.ex h2).sq, (ex_t k1.ex h4).sq, h1.now k1 _ (wok_zipT h2 h3 h4 h5)⟩⟩
      · cases hkd
      · exact (show False from h1).elim
    | true =>
      refine .inr ⟨env, cs, ω, hs, hk, hb.impE fun ws ω1 cs1 H1 e1 l1 k1 h1 vs rv => ?_⟩
      rw [e1] at hkd
      unfold asZip at h1
      split at h1
      · cases hkd
      · cases hkd
      · obtain ⟨v, u, rfl, r, r'⟩ := rv.two
        cases r; cases r'
        exact ⟨_, _, rfl, h1.now k1 _ wok_zipS⟩
      · exact (show False from h1).elim
end
end DX

set_option Elab.async false
set_option linter.all false
set_option maxRecDepth 100000
set_option maxHeartbeats 2000000
/-! D6: targets, comprehensions. -/
namespace DX
variable [TabT]
open PySem L2
section
variable {X : Cx} {E : XK} {tg e : Expr} {pos : Pos}
/-! ### targets -/
abbrev Tg := Wv → En → Option En
abbrev Tgs := List Dt → En → Option En
/-- alike but at the slots ts -/
def Agr (ts : List Nat) (σ σ' : L2.St) : Prop := σ'.length = σ.length ∧ ∀ i, i ∉ ts → σ'[i]? = σ[i]?
def tEvG (K : Frag) (t : Tg) (ts : List Nat) : TG := fun v σ H Q => ∃ env cs ω w env', StRep K ω σ env ∧ Ok K ω H cs ∧ RepW K ω v w ∧ t w env = some env' ∧ ∀ σ', StRep K ω σ' env' → Agr ts σ σ' → Q σ' H
def tEvGs (K : Frag) (t : Tgs) (ts : List Nat) : TGs := fun vs σ H Q => ∃ env cs ω ds env', StRep K ω σ env ∧ Ok K ω H cs ∧ RepL K ω.Hs vs ds ∧ t ds env = some env' ∧ ∀ σ', StRep K ω σ' env' → Agr ts σ σ' → Q σ' H
def GV (X : Cx) (tg : Expr) (t : Tg) (ts : List Nat) : Prop := PG X tg (tEvG X.K t ts)
def GVs (X : Cx) (es : List Expr) (t : Tgs) (ts : List Nat) : Prop := PGs X es (tEvGs X.K t ts)
theorem PG.imp {t u : TG} (h : PG X tg t) (i : ∀ v σ H Q, u v σ H Q → t v σ H Q) : PG X tg u := ⟨fun pins s σ H v w Q I r q => h.run pins s σ H v w Q I r (i v σ H Q q)⟩
theorem PGs.imp {es : List Expr} {t u : TGs} (h : PGs X es t) (i : ∀ v σ H Q, u v σ H Q → t v σ H Q) : PGs X es u := ⟨fun pins s σ H v w Q I r q => h.run pins s σ H v w Q I r (i v σ H Q q)⟩
def tName (i : Nat) : Tg := fun w env => some (env.set i (some w))
theorem gv_name {i : Nat} {x : Str} (hN : X.N.Nodup) (hi : X.N[i]? = some x) (hx : Loc X.env.scope x) (hf : X.fn x = true ∨ X.env.scope.names.lookup x = some .local := by first | exact .inl rfl | exact .inr rfl | assumption) : GV X (.Name x pos) (tName i) [i] :=
  PG.imp (pg_name hN hi hx hf) fun v σ H Q ⟨env, cs, ω, w, env', hs, hk, hr, e, q⟩ => by
    cases e
    exact q _ (hs.set i hr) ⟨by simp, fun j hj => List.getElem?_set_ne (fun z => hj (by simp [z]))⟩
def tgNil : Tgs := fun ds env => match ds with
  | [] => some env
  | _ => none
def tgCons (t : Tg) (u : Tgs) : Tgs := fun ds env => match ds with
  | d :: ds => (t (.dat d) env).bind fun env' => u ds env'
  | [] => none
theorem gvs_nil : GVs X [] tgNil [] := PGs.imp pgs_nil fun v σ H Q ⟨env, cs, ω, ds, env', hs, hk, hr, e, q⟩ => by
  cases ds with
  | nil =>
    cases hr
    cases e
    exact ⟨rfl, q σ hs ⟨rfl, fun _ _ => rfl⟩⟩
  | cons _ _ => cases e
theorem gvs_cons {es : List Expr} {t : Tg} {u : Tgs} {ts us : List Nat} (h1 : GV X e t ts) (h2 : GVs X es u us) (hs : (assignEach (e :: es) X.env).map (·.2) = assign e X.env :: (assignEach es X.env).map (·.2) := by rfl) : GVs X (e :: es) (tgCons t u) (ts ++ us) :=
  PGs.imp (pgs_cons h1 h2 hs) fun v σ H Q ⟨env, cs, ω, ds, env', hs, hk, hr, e, q⟩ => by
    cases ds with
    | nil => cases e
    | cons d ds =>
      cases hr with
      | cons r1 r2 =>
        have e : (t (.dat d) env).bind (fun env' => u ds env') = some env' := e
        cases e1 : t (.dat d) env with
        | none => rw [e1] at e; cases e
        | some env1 =>
          rw [e1] at e
          exact ⟨_, _, rfl, env, cs, ω, .dat d, env1, hs, hk, r1, e1, fun σ1 hs1 a1 => ⟨env1, cs, ω, ds, env', hs1, hk, r2, e, fun σ2 hs2 a2 => q σ2 hs2 ⟨a2.1.trans a1.1, fun i hi => (a2.2 i fun z => hi (List.mem_append_right _ z)).trans (a1.2 i fun z => hi (List.mem_append_left _ z))⟩⟩⟩
def tTupG (n : Nat) (u : Tgs) : Tg := fun w env => match w with
  | .dat (.tup ds) => if ds.length = n then u ds env else none
  | _ => none
theorem gv_tup {es : List Expr} {k : Nat} {u : Tgs} {n : Nat} {ts : List Nat} (hc : X.calm = true) (h : GVs X es u ts) (hn : (assignEach es X.env).length = n := by rfl) (hst : (assignEach es X.env).findIdx? (·.1) = none := by rfl) : GV X (.Tuple es k pos) (tTupG n u) ts :=
  PG.imp (pg_tup hc h hn hst) fun v σ H Q ⟨env, cs, ω, w, env', hs, hk, hr, e, q⟩ => by
    cases w with
    | cel j => cases e
    | dat d =>
      cases d with
      | tup ds =>
        have e : (if ds.length = n then u ds env else none) = some env' := e
        split at e
        · rename_i hl
          cases (show RepD X.K ω.Hs v (.tup ds) from hr) with
          | tup h1 h2 => exact ⟨_, _, rfl, (ex_t hk.ex h1).sq, h2.len.trans hl, env, cs, ω, ds, env', hs, hk, h2, e, q⟩
        · cases e
      | _ => cases e

/-! ### list comprehensions of one clause -/
def wipeE (env : En) : List Nat → En
  | [] => env
  | v :: vs => (wipeE env vs).set v none
theorem StRep.wipe {K : Frag} {ω : Wo} {σ : St} {env : En} (h : StRep K ω σ env) : ∀ vs : List Nat, StRep K ω (wipe σ vs) (wipeE env vs)
  | [] => h
  | v :: vs => by
    have ih := StRep.wipe h vs
    refine ⟨by simp [L2.wipe, wipeE, ih.len], fun i w e => ?_⟩
    unfold wipeE at e
    unfold L2.wipe
    by_cases hv : v = i
    · subst hv
      by_cases hl : v < (wipeE env vs).length
      · rw [List.getElem?_set_self hl] at e; cases e
      · rw [List.getElem?_eq_none (by simpa using hl)] at e; cases e
    · rw [List.getElem?_set_ne hv] at e ⊢
      exact ih.get i w e
/-- what raises is of no use within a comprehension -/
def M.nx {α : Type} (m : M α) : M α := fun cs => match m cs with
  | .ok a cs' => .ok a cs'
  | _ => .bad
theorem Out.nx {K : Frag} {mg : MG} {α : Type} {ω : Wo} {m : M α} {cs : List Cell} {F : α → Wo → List Cell → Hp → Prop} (h : Out K mg E ω (M.nx m cs) F) : Out K mg E0 ω (m cs) F := by
  unfold M.nx at h
  cases e : m cs with
  | ok a cs' => rw [e] at h; exact h
  | exc x cs' => rw [e] at h; exact (show False from h).elim
  | bad => rw [e] at h; exact (show False from h).elim
def loopC (t : Tg) (p : EvT) (f : Ev) (env : En) : List Wv → M (List Wv)
  | [] => M.ret []
  | w :: ws => M.bind (M.opt (t w env)) fun env' => M.bind (M.nx (p env')) fun b => if b = true then M.bind (M.nx (f env')) fun y => M.bind (loopC t p f env ws) fun ys => M.ret (y :: ys) else loopC t p f env ws
def fLc (g : EvI) (t : Tg) (p : EvT) (f : Ev) (vs : List Nat) : EvF := fun env => M.bind (g env) fun ws => if szOk ws.length = true then loopC t p f (wipeE env vs) ws else M.bad
def EVTs (X : Cx) (E : XK) (ifs : List Expr) (f : EvT) : Prop := PTs X ifs (tEvT X.K X.mg E f)
theorem PTs.imp {ifs : List Expr} {t u : TT} (h : PTs X ifs t) (i : ∀ σ H Q, u σ H Q → t σ H Q) : PTs X ifs u := ⟨fun pins s σ H Q I q => h.run pins s σ H Q I (i σ H Q q)⟩
def tYesE : EvT := fun _ => M.ret true
theorem ets_nil : EVTs X E [] tYesE := PTs.imp pts_nil fun σ H Q ⟨env, cs, ω, hs, hk, h⟩ => h.now hk
theorem ets_one {c : Expr} {p : EvT} (h : EVT X E c p) : EVTs X E [c] p := pts_one h
/-- the world with one more object that stays -/
def Wo.keep (ω : Wo) (p : Addr) (o : HO) : Wo := ⟨ω.Hs, ω.ad, ω.T, upd ω.fr p o⟩
def Wo.back (ω : Wo) (fr : Hp) : Wo := ⟨ω.Hs, ω.ad, ω.T, fr⟩
theorem RepW.fr {K : Frag} {ω : Wo} {v : V} {w : Wv} (r : RepW K ω v w) (fr : Hp) : RepW K (ω.back fr) v w := by cases w <;> exact r
theorem RepWs.fr {K : Frag} {ω : Wo} {vs : List V} {ws : List Wv} (r : RepWs K ω vs ws) (fr : Hp) : RepWs K (ω.back fr) vs ws := by
  induction r with
  | nil => exact .nil
  | cons h1 _ ih => exact .cons (h1.fr fr) ih
theorem RepWk.fr {K : Frag} {ω : Wo} {vs : List (Key × V)} {ws : List (Key × Wv)} (r : RepWk K ω vs ws) (fr : Hp) : RepWk K (ω.back fr) vs ws := by
  induction r with
  | nil => exact .nil
  | cons h1 _ ih => exact .cons (h1.fr fr) ih
theorem RepWf.fr {K : Frag} {ω : Wo} {vs : List (Str × V)} {ws : List (Str × Wv)} (r : RepWf K ω vs ws) (fr : Hp) : RepWf K (ω.back fr) vs ws := by
  induction r with
  | nil => exact .nil
  | cons h1 _ ih => exact .cons (h1.fr fr) ih
theorem StRep.fr {K : Frag} {ω : Wo} {σ : St} {env : En} (h : StRep K ω σ env) (fr : Hp) : StRep K (ω.back fr) σ env := ⟨h.len, fun i w e => let ⟨v, e1, r⟩ := h.get i w e; ⟨v, e1, r.fr fr⟩⟩
theorem wipe_get {σ : L2.St} {i : Nat} : ∀ {vs : List Nat}, i ∈ vs → i < σ.length → (L2.wipe σ vs)[i]? = some none
  | [], h, _ => absurd h (by simp)
  | v :: vs, h, hl => by
    unfold L2.wipe
    by_cases hv : v = i
    · subst hv
      exact List.getElem?_set_self (by rw [L2.wipe_length]; exact hl)
    · rw [List.getElem?_set_ne hv]
      exact wipe_get ((List.mem_cons.mp h).resolve_left (Ne.symm hv)) hl
theorem wipe_agr {σ σ' : L2.St} {ts vs : List Nat} (a : Agr ts (L2.wipe σ vs) σ') (h : ∀ i ∈ ts, i ∈ vs) : L2.wipe σ' vs = L2.wipe σ vs := by
  have hl : σ'.length = σ.length := a.1.trans (L2.wipe_length _ _)
  apply List.ext_getElem?
  intro i
  by_cases hi : i ∈ vs
  · by_cases hlt : i < σ.length
    · rw [wipe_get hi hlt, wipe_get hi (by rw [hl]; exact hlt)]
    · rw [List.getElem?_eq_none (by rw [L2.wipe_length, hl]; omega), List.getElem?_eq_none (by rw [L2.wipe_length]; omega)]
  · rw [L2.wipe_out hi]
    exact a.2 i fun z => hi (h i z)
section
variable {K : Frag} {mg : MG} {ω ω2 : Wo} {H : Hp} {cs : List Cell} {p : Addr} {o o' : HO} {fr0 : Hp}
theorem Ok.keep (k : Ok K ω H cs) (hp : H p = none) (hpl : NoTbl o := by exact True.intro) : Ok K (ω.keep p o) (upd H p o) cs := by
  refine ⟨k.ex.out (k.ex.back hp), k.len, k.nd, fun i a c e1 e2 => ?_, k.tab.ext (Ex.new hp), k.frx.both, fun a u e => ?_, k.nt, fun a u e => ?_⟩
  · have q := k.cel i a c e1 e2
    obtain ⟨u, hu⟩ := k.there (List.mem_of_getElem? e1)
    have ne : a ≠ p := ne_of_none hu hp
    cases c with
    | lst ws => obtain ⟨⟨h0, h3⟩, vs, h1, h2⟩ := q; exact ⟨⟨h0, by show upd _ _ _ a = none; rw [upd_ne ne]; exact h3⟩, vs, by rw [upd_ne ne]; exact h1, h2.fr _⟩
    | dic ws =>
      obtain ⟨⟨h0, h3⟩, vs, h1, h2⟩ := q
      refine ⟨⟨h0, by show upd _ _ _ a = none; rw [upd_ne ne]; exact h3⟩, vs, by rw [upd_ne ne]; exact h1, ?_⟩
      exact RepWk.fr h2 _
    | ins C ws =>
      obtain ⟨⟨⟨h0, h3⟩, hc⟩, dx, vs, h1, h2⟩ := q
      refine ⟨⟨⟨h0, by show upd _ _ _ a = none; rw [upd_ne ne]; exact h3⟩, hc⟩, dx, vs, by rw [upd_ne ne]; exact h1, ?_⟩
      exact RepWf.fr h2 _
    | dead => exact q
  · by_cases h : a = p
    · rw [h]
      exact k.ex.back hp
    · have e : upd ω.fr p o a = some u := e
      rw [upd_ne h] at e
      exact k.dj a u e
  · have e : upd ω.fr p o a = some u := e
    by_cases h : a = p
    · rw [h, upd_same] at e
      cases e
      exact hpl
    · rw [upd_ne h] at e
      exact k.nf a u e
theorem Ok.back (k : Ok K ω2 H cs) (sub : ∀ a o, fr0 a = some o → ω2.fr a = some o) : Ok K (ω2.back fr0) H cs := by
  refine ⟨k.ex, k.len, k.nd, fun i a c e1 e2 => ?_, k.tab, fun a o e => k.frx a o (sub a o e), fun a o e => k.dj a o (sub a o e), k.nt, fun a o e => k.nf a o (sub a o e)⟩
  have q := k.cel i a c e1 e2
  have none' : ω2.fr a = none → fr0 a = none := fun z => by
    cases e : fr0 a with
    | none => rfl
    | some u => rw [sub a u e] at z; cases z
  cases c with
  | lst ws => obtain ⟨⟨h0, h3⟩, vs, h1, h2⟩ := q; exact ⟨⟨h0, none' h3⟩, vs, h1, h2.fr _⟩
  | dic ws => obtain ⟨⟨h0, h3⟩, vs, h1, h2⟩ := q; exact ⟨⟨h0, none' h3⟩, vs, h1, RepWk.fr h2 _⟩
  | ins C ws => obtain ⟨⟨⟨h0, h3⟩, hc⟩, dx, vs, h1, h2⟩ := q; exact ⟨⟨⟨h0, none' h3⟩, hc⟩, dx, vs, h1, RepWf.fr h2 _⟩
  | dead => exact q
/-- the kept object at p is changed -/
theorem tabs_swap {T : List (Addr × Str)} {xs : List V} (t : LamX.Tabs T H) (hp : H p = some (.lst xs)) : LamX.Tabs T (upd H p o') := fun q hq => by
  obtain ⟨ps, h1, h2, h3⟩ := t q hq
  have ne : ∀ {b u}, H b = some u → HO.lst xs ≠ u → b ≠ p := fun {b u} e d z => by
    rw [z, hp] at e
    exact d (Option.some.inj e)
  refine ⟨ps, by rw [upd_ne (ne h1 (fun z => by cases z))]; exact h1, h2, fun pos cv hc => ?_⟩
  obtain ⟨c, e1, e2⟩ := h3 pos cv hc
  exact ⟨c, e1, by rw [upd_ne (ne e2 (fun z => by unfold LamX.CodeO at z; cases z))]; exact e2⟩
theorem Ok.swap {xs : List V} (k : Ok K ω H cs) (hp : ω.fr p = some (.lst xs)) (hf : ω.fr = upd fr0 p (.lst xs)) (hpl : NoTbl o' := by exact True.intro) : Ok K (ω.back (upd fr0 p o')) (upd H p o') cs := by
  have hs := k.dj p _ hp
  have hH := k.frx p _ hp
  refine ⟨k.ex.out hs, k.len, k.nd, fun i a c e1 e2 => ?_, tabs_swap k.tab hH, fun a u e => ?_, fun a u e => ?_, k.nt, fun a u e => ?_⟩
  · have q := k.cel i a c e1 e2
    have ne : a ≠ p := fun z => by
      subst z
      cases c with
      | lst ws => obtain ⟨⟨h0, h3⟩, _⟩ := q; rw [hp] at h3; cases h3
      | dic ws => obtain ⟨⟨h0, h3⟩, _⟩ := q; rw [hp] at h3; cases h3
      | ins C ws => obtain ⟨⟨⟨h0, h3⟩, _⟩, _⟩ := q; rw [hp] at h3; cases h3
      | dead => obtain ⟨u, hu⟩ := q; rw [hs] at hu; cases hu
    have e : upd fr0 p o' a = ω.fr a := by rw [upd_ne ne, hf, upd_ne ne]
    cases c with
    | lst ws => obtain ⟨⟨h0, h3⟩, vs, h1, h2⟩ := q; exact ⟨⟨h0, e.trans h3⟩, vs, by rw [upd_ne ne]; exact h1, h2.fr _⟩
    | dic ws => obtain ⟨⟨h0, h3⟩, vs, h1, h2⟩ := q; exact ⟨⟨h0, e.trans h3⟩, vs, by rw [upd_ne ne]; exact h1, RepWk.fr h2 _⟩
    | ins C ws => obtain ⟨⟨⟨h0, h3⟩, hc⟩, dx, vs, h1, h2⟩ := q; exact ⟨⟨⟨h0, e.trans h3⟩, hc⟩, dx, vs, by rw [upd_ne ne]; exact h1, RepWf.fr h2 _⟩
    | dead => exact q
  · by_cases h : a = p
    · subst h
      have e : upd fr0 a o' a = some u := e
      rw [upd_same] at e ⊢
      exact e
    · have e : upd fr0 p o' a = some u := e
      rw [upd_ne h] at e ⊢
      exact k.frx a u (by rw [hf, upd_ne h]; exact e)
  · by_cases h : a = p
    · rw [h]; exact hs
    · have e : upd fr0 p o' a = some u := e
      rw [upd_ne h] at e
      exact k.dj a u (by rw [hf, upd_ne h]; exact e)
  · have e : upd fr0 p o' a = some u := e
    by_cases h : a = p
    · rw [h, upd_same] at e
      cases e
      exact hpl
    · rw [upd_ne h] at e
      exact k.nf a u (by rw [hf, upd_ne h]; exact e)
def hide (H : Hp) (p : Addr) : Hp := fun b => if b = p then none else H b
theorem hide_ne {H : Hp} {p b : Addr} (h : b ≠ p) : hide H p b = H b := if_neg h
theorem hide_same {H : Hp} {p : Addr} : hide H p p = none := if_pos rfl
theorem upd_hide {H : Hp} {p : Addr} {o : HO} (h : H p = some o) : upd (hide H p) p o = H := by
  funext b
  by_cases hb : b = p
  · rw [hb, upd_same, h]
  · rw [upd_ne hb, hide_ne hb]
/-- the kept object at p is no longer looked at -/
def Plain : HO → Prop
  | .tbl _ => False
  | .ext _ => False
  | _ => True
theorem Ok.drop {o : HO} (k : Ok K ω H cs) (hp : ω.fr p = some o) (hf : ω.fr = upd fr0 p o) (h0 : fr0 p = none) (hpl : Plain o := by exact True.intro) : Ok K (ω.back fr0) (hide H p) cs := by
  have hs := k.dj p _ hp
  have hH := k.frx p _ hp
  have fe : ∀ {a}, a ≠ p → fr0 a = ω.fr a := fun {a} h => by rw [hf, upd_ne h]
  refine ⟨fun a u e => ?_, k.len, k.nd, fun i a c e1 e2 => ?_, fun q hq => ?_, fun a u e => ?_, fun a u e => ?_, k.nt, fun a u e => ?_⟩
  · rw [hide_ne (fun z => by rw [z, show (ω.back fr0).Hs p = none from hs] at e; cases e)]
    exact k.ex a u e
  · have q := k.cel i a c e1 e2
    have ne : a ≠ p := fun z => by
      subst z
      cases c with
      | lst ws => obtain ⟨⟨h0, h3⟩, _⟩ := q; rw [hp] at h3; cases h3
      | dic ws => obtain ⟨⟨h0, h3⟩, _⟩ := q; rw [hp] at h3; cases h3
      | ins C ws => obtain ⟨⟨⟨h0, h3⟩, _⟩, _⟩ := q; rw [hp] at h3; cases h3
      | dead => obtain ⟨u, hu⟩ := q; rw [hs] at hu; cases hu
    cases c with
    | lst ws => obtain ⟨⟨h0, h3⟩, vs, h1, h2⟩ := q; exact ⟨⟨h0, (fe ne).trans h3⟩, vs, by rw [hide_ne ne]; exact h1, h2.fr _⟩
    | dic ws => obtain ⟨⟨h0, h3⟩, vs, h1, h2⟩ := q; exact ⟨⟨h0, (fe ne).trans h3⟩, vs, by rw [hide_ne ne]; exact h1, RepWk.fr h2 _⟩
    | ins C ws => obtain ⟨⟨⟨h0, h3⟩, hc⟩, dx, vs, h1, h2⟩ := q; exact ⟨⟨⟨h0, (fe ne).trans h3⟩, hc⟩, dx, vs, by rw [hide_ne ne]; exact h1, RepWf.fr h2 _⟩
    | dead => exact q
  · obtain ⟨ps, h1, h2, h3⟩ := k.tab q hq
    have ne : ∀ {b u}, H b = some u → o ≠ u → b ≠ p := fun {b u} e d z => by
      rw [z, hH] at e
      exact d (Option.some.inj e)
    refine ⟨ps, by rw [hide_ne (ne h1 (fun z => by rw [z] at hpl; exact hpl))]; exact h1, h2, fun pos cv hc => ?_⟩
    obtain ⟨c, e1, e2⟩ := h3 pos cv hc
    exact ⟨c, e1, by rw [hide_ne (ne e2 (fun z => by rw [z] at hpl; unfold LamX.CodeO at hpl; exact hpl))]; exact e2⟩
  · have ne : a ≠ p := fun z => by
      have e : fr0 a = some u := e
      rw [z, h0] at e
      cases e
    rw [hide_ne ne]
    exact k.frx a u (by rw [← fe ne]; exact e)
  · have ne : a ≠ p := fun z => by
      have e : fr0 a = some u := e
      rw [z, h0] at e
      cases e
    exact k.dj a u (by rw [← fe ne]; exact e)
  · have ne : a ≠ p := fun z => by
      have e : fr0 a = some u := e
      rw [z, h0] at e
      cases e
    exact k.nf a u (by rw [← fe ne]; exact e)
theorem Out.under {α : Type} {r : R α} {F : α → Wo → List Cell → Hp → Prop} (h : Out K mg E ω r F) (l : Le ω (ω2.back fr0)) (sub : ∀ a o, fr0 a = some o → ω2.fr a = some o) : Out K mg E ω2 r (fun a ω' cs' H' => F a (ω'.back fr0) cs' H') := by
  have le : ∀ {ω'}, Le ω2 ω' → Le ω (ω'.back fr0) := fun {ω'} l2 => ⟨l.ex.trans l2.ex, l.ad.trans l2.ad, l2.tb.trans l.tb, l.fr⟩
  cases r with
  | ok a cs => exact fun ω' H' l2 k2 => h _ H' (le l2) (k2.back fun a o e => by rw [l2.fr]; exact sub a o e)
  | exc x cs => exact fun C ω' H' m l2 k2 => h C _ H' m (le l2) (k2.back fun a o e => by rw [l2.fr]; exact sub a o e)
  | bad => exact h
end
/-- a comprehension with one clause: what it computes is what its reading asks -/
theorem lc_use {fi : EvI} {t : Tg} {ts : List Nat} {p : EvT} {f : Ev} {own : List (Str × Nat)} (hsub : ∀ i ∈ ts, i ∈ own.map (·.2)) {σ : L2.St} {H : Hp} {Q : VK} (hh : tEvF X.K X.mg E (fLc fi t p f (own.map (·.2))) σ H Q) :
    tLc (tEvI X.K X.mg E fi) (tEvG X.K t ts) (tEvT X.K X.mg E0 p) (tEv X.K X.mg E0 f) (own.map (·.2)) σ H Q := by
  obtain ⟨env, cs, ω, hst, hk, h⟩ := hh
  refine ⟨env, cs, ω, hst, hk, h.bind.imp fun ws ω1 cs1 H1 l1 k1 h1 J wk D hD => ?_⟩
  split at h1
  · rename_i hz
    have hz := szOk_of hz
    have frD : ω1.fr D = none := k1.frx.back hD
    have hw : StRep X.K ω1 (L2.wipe σ (own.map (·.2))) (wipeE env (own.map (·.2))) := (hst.mono l1).wipe _
    refine ⟨fun i m Hx => m = ws.length - i ∧ i ≤ ws.length ∧ ∃ (ωi : Wo) (csi : List Cell) (aV : List V) (aW : List Wv), ωi.fr = upd ω1.fr D (.lst aV) ∧ Le ω1 (ωi.back ω1.fr) ∧ Ok X.K ωi Hx csi ∧ RepWs X.K ωi aV aW ∧ aW.length ≤ i ∧
        Out X.K X.mg E (ωi.back ω1.fr) (loopC t p f (wipeE env (own.map (·.2))) (ws.drop i) csi) (fun ys ω' _ H' => ∀ q vs, H' q = none → RepWs X.K ω' vs (aW ++ ys) → Q (.ref q) (upd H' q (.lst vs))),
      ⟨_, rfl, Nat.zero_le _, ω1.keep D (.lst []), cs1, [], [], rfl, Le.refl _, k1.keep hD, .nil, Nat.le_refl _, by rw [List.drop_zero]; exact h1⟩, ?_⟩
    rintro i m Hx ⟨rfl, hi, ωi, csi, aV, aW, hfr, lb, kI, rA, hal, hO⟩
    have sub : ∀ {ω' : Wo}, Le ωi ω' → ∀ a o, ω1.fr a = some o → ω'.fr a = some o := fun {ω'} l a o e => by
      rw [l.fr, hfr, upd_ne (ne_of_none e frD)]
      exact e
    have lf : Lf ω1 ωi := ⟨lb.ex, lb.ad, lb.tb⟩
    by_cases hlt : i < ws.length
    · refine .inr ⟨wk.goes i ωi Hx csi hlt lf kI, fun Hn => ∃ m', m' < ws.length - i ∧ (m' = ws.length - (i + 1) ∧ i + 1 ≤ ws.length ∧ ∃ (ωj : Wo) (csj : List Cell) (bV : List V) (bW : List Wv), ωj.fr = upd ω1.fr D (.lst bV) ∧ Le ω1 (ωj.back ω1.fr) ∧ Ok X.K ωj Hn csj ∧ RepWs X.K ωj bV bW ∧ bW.length ≤ i + 1 ∧
          Out X.K X.mg E (ωj.back ω1.fr) (loopC t p f (wipeE env (own.map (·.2))) (ws.drop (i + 1)) csj) (fun ys ω' _ H' => ∀ q vs, H' q = none → RepWs X.K ω' vs (bW ++ ys) → Q (.ref q) (upd H' q (.lst vs)))), fun Hn h => h, fun x Hy y => ?_⟩
      obtain ⟨ω2, l2, k2, w, ew, rw'⟩ := wk.yields i ωi Hx csi x Hy hlt lf kI y
      have ed : ws.drop i = w :: ws.drop (i + 1) := by
        obtain ⟨_, e⟩ := List.getElem?_eq_some_iff.mp ew
        rw [← e]
        exact List.drop_eq_getElem_cons hlt
      rw [ed] at hO
      have hO2 := Out.le (ω := ωi.back ω1.fr) (ω' := ω2.back ω1.fr) ⟨l2.ex, l2.ad, l2.tb, rfl⟩ hO
      obtain ⟨env', et, hO3⟩ := Out.opt hO2.bind
      have k2b : Ok X.K (ω2.back ω1.fr) Hy csi := k2.back (sub l2)
      have hO4 := hO3.now k2b
      have l12 : Le ω1 (ω2.back ω1.fr) := ⟨lb.ex.trans l2.ex, lb.ad.trans l2.ad, l2.tb.trans lb.tb, rfl⟩
      have hw2 : StRep X.K ω2 (L2.wipe σ (own.map (·.2))) (wipeE env (own.map (·.2))) := (hw.mono l12).fr ω2.fr
      refine ⟨_, csi, ω2, w, env', hw2, k2, rw', et, fun σ2 hs2 ag => ⟨wipe_agr ag hsub, ?_⟩⟩
      refine ⟨env', csi, ω2, hs2, k2, (Out.nx (hO4.bind.under (Le.refl _) (sub l2))).imp fun b ω3 cs3 H3 l3 k3 hO5 => ?_⟩
      have l23 := l2.trans l3
      have adv : ∀ {ωj : Wo}, Le ωi ωj → Le ω1 (ωj.back ω1.fr) := fun {ωj} l => ⟨lb.ex.trans l.ex, lb.ad.trans l.ad, l.tb.trans lb.tb, rfl⟩
      cases b with
      | false =>
        refine ⟨_, by omega, rfl, hlt, ω3, cs3, aV, aW, l23.fr.trans hfr, adv l23, k3, ?_, by omega, hO5⟩
        exact (rA.mono l23)
      | true =>
        refine ⟨env', cs3, ω3, hs2.mono l3, k3, (Out.nx (Out.under (ω2 := ω3) (Out.bind hO5) (Le.refl _) (sub l23))).imp fun yv ω4 cs4 H4 l4 k4 hO6 v rv => ?_⟩
        have l24 := l23.trans l4
        have frE : ω4.fr = upd ω1.fr D (.lst aV) := l24.fr.trans hfr
        have hD4 : ω4.fr D = some (.lst aV) := by rw [frE, upd_same]
        have rA4 := rA.mono l24
        refine ⟨aV, k4.frx _ _ hD4, by rw [rA.len]; omega, _, by omega, rfl, hlt, ω4.back (upd ω1.fr D (.lst (aV ++ [v]))), cs4, aV ++ [v], aW ++ [yv], rfl, (show Le ω1 (ω4.back ω1.fr) from adv l24), k4.swap hD4 frE, (rA4.app (.cons rv .nil)).fr _, by simp; omega, ?_⟩
        refine (Out.bind (show Out X.K X.mg E (ω4.back ω1.fr) (M.bind _ _ cs4) _ from hO6)).imp fun ys ω5 cs5 H5 l5 k5 hO7 => ?_
        intro q vs hq rv'
        exact hO7.now k5 q vs hq (by simpa using rv')
    · have e : i = ws.length := by omega
      subst e
      refine .inl ⟨wk.stops ωi Hx csi lf kI, ?_⟩
      rw [List.drop_length] at hO
      have hfD : ωi.fr D = some (.lst aV) := by rw [hfr, upd_same]
      have hDx : Hx D = some (.lst aV) := kI.frx D _ hfD
      have kd : Ok X.K (ωi.back ω1.fr) (hide Hx D) csi := kI.drop hfD hfr frD
      have z := hO.now kd D aV hide_same (by simpa using rA.fr ω1.fr)
      rw [upd_hide hDx] at z
      exact z
  · exact (show False from h1).elim
/-- THE RULE of a comprehension with one clause -/
theorem ef_lc {elt iter : Expr} {ifs : List Expr} {scope : Scope} {own : List (Str × Nat)} {fi : EvI} {t : Tg} {ts : List Nat} {p : EvT} {f : Ev} (hc : X.calm = true) (hN : X.N.Nodup) (hi : EVI X E tg iter fi) (ok : BlkOk X.N X.env.scope scope own)
    (hg : ∀ (s : Shared) (H : Hp) (C : Addr) (cl : List (Str × Addr)) (fp : List Addr), GV (X.blk s H scope (compEnvC scope cl C X.env) fp) tg t ts)
    (ht : ∀ (s : Shared) (H : Hp) (C : Addr) (cl : List (Str × Addr)) (fp : List Addr), EVTs (X.blk s H scope (compEnvC scope cl C X.env) fp) E0 ifs p)
    (he : ∀ (s : Shared) (H : Hp) (C : Addr) (cl : List (Str × Addr)) (fp : List Addr), EV (X.blk s H scope (compEnvC scope cl C X.env) fp) E0 elt f)
    (hsub : ∀ i ∈ ts, i ∈ own.map (·.2)) (hs : ∀ x, foldedSetIterable iter X.env x = pure x := by intro _; rfl) :
    EVF X E (.ListComp elt [⟨tg, iter, ifs, 0⟩] scope pos) (fLc fi t p f (own.map (·.2))) := by
  exact PE.imp (pe_lc (g := tEvG X.K t ts) (tt := tEvT X.K X.mg E0 p) (te := tEv X.K X.mg E0 f) hc hN hi ok hg ht he hs) fun _ _ _ h => lc_use hsub h
/-- a new list, frozen at once | made a cell -/
def eOfF (f : EvF) : Ev := fun env => M.bind (f env) fun ws => M.bind (mDats ws) fun ds => M.ret (.dat (.lst ds))
def mCell (c : Cell) : M Wv := fun cs => .ok (.cel cs.length) (cs ++ [c])
def eCelF (f : EvF) : Ev := fun env => M.bind (f env) fun ws => mCell (.lst ws)
theorem data_use {f : EvF} {σ : L2.St} {H : Hp} {Q : VK} (h : tEv X.K X.mg E (eOfF f) σ H Q) : tEvF X.K X.mg E f σ H Q := by
  obtain ⟨env, cs, ω, hs, hk, h⟩ := h
  refine ⟨env, cs, ω, hs, hk, h.bind.imp fun ws ω1 cs1 H1 l1 k1 h1 p vs hp rv => ?_⟩
  obtain ⟨ds, e, h2⟩ := h1.mDats
  exact h2 _ _ (Le.froze k1 hp) (k1.froze hp) _ (rep_lst k1 hp (rv.dats e))
theorem cell_use {f : EvF} {σ : L2.St} {H : Hp} {Q : VK} (h : tEv X.K X.mg E (eCelF f) σ H Q) : tEvF X.K X.mg E f σ H Q := by
  obtain ⟨env, cs, ω, hs, hk, h⟩ := h
  refine ⟨env, cs, ω, hs, hk, h.bind.imp fun ws ω1 cs1 H1 l1 k1 h1 p vs hp rv => ?_⟩
  have h1 : Out X.K X.mg E ω1 (.ok (Wv.cel cs1.length) (cs1 ++ [Cell.lst ws])) _ := h1
  have hc : CellAt X.K (ω1.more p) (upd H1 p (.lst vs)) p (.lst ws) := ⟨⟨k1.ex.back hp, k1.frx.back hp⟩, vs, upd_same, rv.mono Le.more⟩
  refine h1 _ _ Le.more (k1.more hp hc) _ ⟨p, ?_, rfl⟩
  show (ω1.ad ++ [p])[cs1.length]? = some p
  rw [k1.len, List.getElem?_append_right (Nat.le_refl _)]
  simp
theorem ev_ofF {e : Expr} {f : EvF} (h : EVF X E e f) : EV X E e (eOfF f) := PE.imp h fun _ _ _ h => data_use h
theorem ev_celF {e : Expr} {f : EvF} (h : EVF X E e f) : EV X E e (eCelF f) := PE.imp h fun _ _ _ h => cell_use h
end
end DX

set_option Elab.async false
set_option linter.all false
set_option maxRecDepth 100000
set_option maxHeartbeats 2000000
/-! D7: statements. -/
namespace DX
variable [TabT]
open PySem L2
inductive Fl where
  | nx (env : En) | rt (w : Wv) | bk (env : En) | ct (env : En)
abbrev Sv := En → M Fl
def EndAt (K : Frag) (D : Ends) (fl : Fl) (ω : Wo) (H : Hp) : Prop := match fl with
  | .nx env => ∀ σ, StRep K ω σ env → D.nx σ H
  | .rt w => ∀ v, RepW K ω v w → D.rt v H
  | .bk env => ∀ σ, StRep K ω σ env → D.bk σ H
  | .ct env => ∀ σ, StRep K ω σ env → D.ct σ H
def tEvS (K : Frag) (mg : MG) (E : XK) (f : Sv) : TS := fun D σ H => ∃ env cs ω, StRep K ω σ env ∧ Ok K ω H cs ∧ Out K mg E ω (f env cs) fun fl ω' _ H' => EndAt K D fl ω' H'
def SV (X : Cx) (E : XK) (e : Stmt) (f : Sv) : Prop := PS X e (tEvS X.K X.mg E f)
def SVs (X : Cx) (E : XK) (e : List Stmt) (f : Sv) : Prop := PSs X e (tEvS X.K X.mg E f)
section
variable {X : Cx} {E : XK} {tg e : Expr} {st : Stmt} {rest : List Stmt} {pos : Pos}
def sNil : Sv := fun env => M.ret (.nx env)
def sSeq (f g : Sv) : Sv := fun env => M.bind (f env) fun fl => match fl with
  | .nx env' => g env'
  | .rt w => M.ret (.rt w)
  | .bk env' => M.ret (.bk env')
  | .ct env' => M.ret (.ct env')
theorem svs_nil : SVs X E [] sNil := PSs.imp pss_nil fun D σ H ⟨env, cs, ω, hs, hk, h⟩ => h.now hk σ hs
theorem svs_cons {f g : Sv} (h1 : SV X E st f) (h2 : SVs X E rest g) : SVs X E (st :: rest) (sSeq f g) := PSs.imp (pss_cons h1 h2) fun D σ H ⟨env, cs, ω, hs, hk, h⟩ =>
  ⟨env, cs, ω, hs, hk, h.bind.imp fun fl ω1 cs1 H1 l1 k1 h1 => by
    cases fl with
    | nx env' => exact fun σ' hs' => ⟨env', cs1, ω1, hs', k1, h1⟩
    | rt w => exact h1.now k1
    | bk env' => exact h1.now k1
    | ct env' => exact h1.now k1⟩
theorem svs_one {f : Sv} (h1 : SV X E st f) : SVs X E [st] f := pss_one h1
def sRet (f : Ev) : Sv := fun env => M.bind (f env) fun w => M.ret (.rt w)
theorem sv_ret {f : Ev} (h : EV X E e f) : SV X E (.Return (some e) pos) (sRet f) := PS.imp (ps_ret h) fun D σ H ⟨env, cs, ω, hs, hk, h⟩ =>
  ⟨env, cs, ω, hs, hk, h.bind.imp fun w ω1 cs1 H1 l1 k1 h1 v rv => h1.now k1 v rv⟩
def sRetN : Sv := fun _ => M.ret (.rt (.dat .non))
theorem sv_retN : SV X E (.Return none pos) sRetN := PS.imp ps_retN fun D σ H ⟨env, cs, ω, hs, hk, h⟩ => h.now hk .non .non
theorem sv_pass : SV X E (.Pass pos) sNil := PS.imp ps_pass fun D σ H ⟨env, cs, ω, hs, hk, h⟩ => h.now hk σ hs
def sBreak : Sv := fun env => M.ret (.bk env)
theorem sv_break : SV X E (.Break pos) sBreak := PS.imp ps_break fun D σ H ⟨env, cs, ω, hs, hk, h⟩ => h.now hk σ hs
def sCont : Sv := fun env => M.ret (.ct env)
theorem sv_cont : SV X E (.Continue pos) sCont := PS.imp ps_continue fun D σ H ⟨env, cs, ω, hs, hk, h⟩ => h.now hk σ hs
def sExpr (f : Ev) : Sv := fun env => M.bind (f env) fun _ => M.ret (.nx env)
theorem sv_expr {f : Ev} (h : EV X E e f) (hs : swapsWith e none pos.line X.env = pure false := by rfl) : SV X E (.Expr e pos) (sExpr f) := PS.imp (ps_expr h hs) fun D σ H ⟨env, cs, ω, hs, hk, h⟩ =>
  ⟨env, cs, ω, hs, hk, h.bind.imp fun w ω1 cs1 H1 l1 k1 h1 v rv => h1.now k1 σ (hs.mono l1)⟩
def sIf (c : EvT) (f g : Sv) : Sv := fun env => M.bind (c env) fun b => if b = true then f env else g env
theorem sv_if {c : Expr} {a b : List Stmt} {fc : EvT} {f g : Sv} (hc : EVT X E c fc) (ha : SVs X E a f) (hb : SVs X E b g) : SV X E (.If c a b pos) (sIf fc f g) := PS.imp (ps_if hc ha hb) fun D σ H ⟨env, cs, ω, hs, hk, h⟩ =>
  ⟨env, cs, ω, hs, hk, h.bind.imp fun b ω1 cs1 H1 l1 k1 h1 => by
    cases b with
    | true => exact ⟨env, cs1, ω1, hs.mono l1, k1, h1⟩
    | false => exact ⟨env, cs1, ω1, hs.mono l1, k1, h1⟩⟩
/-! assignment -/
def sSet (i : Nat) (f : Ev) : Sv := fun env => M.bind (f env) fun w => M.ret (.nx (env.set i (some w)))
theorem set_use {i : Nat} {f : Ev} {σ : L2.St} {H : Hp} {D : Ends} (h : tEvS X.K X.mg E (sSet i f) D σ H) : tAsg (tEv X.K X.mg E f) (gName i) D σ H :=
  let ⟨env, cs, ω, hs, hk, h⟩ := h
  ⟨env, cs, ω, hs, hk, h.bind.imp fun w ω1 cs1 H1 l1 k1 h1 v rv => h1.now k1 _ ((hs.mono l1).set i rv)⟩
theorem sv_set {i : Nat} {x : Str} {f : Ev} {pos' : Pos} (hN : X.N.Nodup) (hi : X.N[i]? = some x) (hx : Loc X.env.scope x) (he : EV X E e f) (hs : swapsWith e (some (.Name x pos')) pos.line X.env = pure false := by rfl) (hf : X.fn x = true ∨ X.env.scope.names.lookup x = some .local := by first | exact .inl rfl | exact .inr rfl | assumption) :
    SV X E (.Assign [.Name x pos'] e pos) (sSet i f) := PS.imp (ps_set hN hi hx he hs hf) fun D σ H h => set_use h
def sAsg (t : Tg) (f : Ev) : Sv := fun env => M.bind (f env) fun w => M.bind (M.opt (t w env)) fun env' => M.ret (.nx env')
theorem sv_asg {t : Tg} {ts : List Nat} {f : Ev} (he : EV X E e f) (hg : GV X tg t ts) (hs : swapsWithSole [tg] e pos.line X.env = pure false := by rfl) (hw : swappedStores [tg] e X.env = pure none := by rfl)
    (h1 : (assignEach [tg] X.env).map (·.2) = [assign tg X.env] := by rfl) : SV X E (.Assign [tg] e pos) (sAsg t f) := PS.imp (ps_asg he hg hs hw h1) fun D σ H ⟨env, cs, ω, hs, hk, h⟩ =>
  ⟨env, cs, ω, hs, hk, h.bind.imp fun w ω1 cs1 H1 l1 k1 h1 v rv => by
    obtain ⟨env', e, h2⟩ := Out.opt h1.bind
    exact ⟨env, cs1, ω1, w, env', hs.mono l1, k1, rv, e, fun σ' hs' _ => (h2.now k1).now k1 σ' hs'⟩⟩
theorem sv_setLc {elt iter : Expr} {ifs : List Expr} {scope : Scope} {own : List (Str × Nat)} {fi : EvI} {t : Tg} {ts : List Nat} {p : EvT} {f : Ev} {i : Nat} {y : Str} {py lpos : Pos} (g : EvF → Ev)
    (hgu : ∀ (f : EvF) (σ : L2.St) (H : Hp) (Q : VK), tEv X.K X.mg E (g f) σ H Q → tEvF X.K X.mg E f σ H Q)
    (hc : X.calm = true) (hN : X.N.Nodup) (hy : X.N[i]? = some y) (hyl : X.env.scope.names.lookup y = some .local) (hsw : swapsWith (.ListComp elt [⟨tg, iter, ifs, 0⟩] scope lpos) (some (.Name y py)) pos.line X.env = pure true)
    (hi : EVI X E tg iter fi) (ok : BlkOk X.N X.env.scope scope own)
    (hg : ∀ (s : Shared) (H : Hp) (C : Addr) (cl : List (Str × Addr)) (fp : List Addr), GV (X.blk s H scope (compEnvC scope cl C X.env) fp) tg t ts)
    (ht : ∀ (s : Shared) (H : Hp) (C : Addr) (cl : List (Str × Addr)) (fp : List Addr), EVTs (X.blk s H scope (compEnvC scope cl C X.env) fp) E0 ifs p)
    (he : ∀ (s : Shared) (H : Hp) (C : Addr) (cl : List (Str × Addr)) (fp : List Addr), EV (X.blk s H scope (compEnvC scope cl C X.env) fp) E0 elt f)
    (hsub : ∀ i ∈ ts, i ∈ own.map (·.2)) (hs : ∀ x, foldedSetIterable iter X.env x = pure x := by intro _; rfl) :
    SV X E (.Assign [.Name y py] (.ListComp elt [⟨tg, iter, ifs, 0⟩] scope lpos) pos) (sSet i (g (fLc fi t p f (own.map (·.2))))) :=
  PS.imp (ps_setLc (g := tEvG X.K t ts) (tt := tEvT X.K X.mg E0 p) (te := tEv X.K X.mg E0 f) hc hN hy hyl hsw hi ok hg ht he hs) fun D σ H h => by
    have h2 : tAsg (tEv X.K X.mg E (g (fLc fi t p f (own.map (·.2))))) (gName i) D σ H := set_use h
    exact lc_use hsub (hgu _ _ _ _ h2)
def sPar (i j : Nat) (g : EvA) : Sv := fun env => M.bind (g env) fun ws => match ws with
  | [a, b] => M.ret (.nx ((env.set i (some a)).set j (some b)))
  | _ => M.bad
theorem RepWs.two' {K : Frag} {ω : Wo} {vs : List V} {a b : Wv} (h : RepWs K ω vs [a, b]) : ∃ u v, vs = [u, v] ∧ RepW K ω u a ∧ RepW K ω v b := by
  cases h with
  | cons h1 h2 => cases h2 with
    | cons h2 h3 => cases h3; exact ⟨_, _, rfl, h1, h2⟩
theorem RepWs.three' {K : Frag} {ω : Wo} {vs : List V} {a b c : Wv} (h : RepWs K ω vs [a, b, c]) : ∃ u v w, vs = [u, v, w] ∧ RepW K ω u a ∧ RepW K ω v b ∧ RepW K ω w c := by
  cases h with
  | cons h1 h2 =>
    obtain ⟨u, v, e, q1, q2⟩ := h2.two'
    subst e
    exact ⟨_, _, _, rfl, h1, q1, q2⟩
theorem sv_par {i j : Nat} {x y : Str} {a b : Expr} {g : EvA} {px py pt : Pos} {kt k2 pt2} (hc : X.calm = true) (hN : X.N.Nodup) (hi : X.N[i]? = some x) (hj : X.N[j]? = some y) (hij : i ≠ j)
    (hx : X.env.scope.names.lookup x = some .local) (hy : X.env.scope.names.lookup y = some .local) (ha : EVA X E [a, b] g)
    (hw : swappedStores [.Tuple [.Name x px, .Name y py] kt pt] (.Tuple [a, b] k2 pt2) X.env = pure (some [x, y]))
    (hs : swapsWithSole [.Tuple [.Name x px, .Name y py] kt pt] (.Tuple [a, b] k2 pt2) pos.line X.env = pure false := by rfl) :
    SV X E (.Assign [.Tuple [.Name x px, .Name y py] kt pt] (.Tuple [a, b] k2 pt2) pos) (sPar i j g) := PS.imp (ps_par hc hN hi hj hij hx hy ha hw hs) fun D σ H ⟨env, cs, ω, hs, hk, h⟩ =>
  ⟨env, cs, ω, hs, hk, h.bind.imp fun ws ω1 cs1 H1 l1 k1 h1 vs rv => by
    match ws, h1, rv with
    | [a, b], h1, rv =>
      obtain ⟨u, v, e, q1, q2⟩ := rv.two'
      exact ⟨u, v, e, h1.now k1 _ (((hs.mono l1).set i q1).set j q2)⟩
    | [], h1, rv => exact (show False from h1).elim
    | [_], h1, rv => exact (show False from h1).elim
    | _ :: _ :: _ :: _, h1, rv => exact (show False from h1).elim⟩
def sPar3 (i j l : Nat) (g : EvA) : Sv := fun env => M.bind (g env) fun ws => match ws with
  | [a, b, c] => M.ret (.nx (((env.set i (some a)).set j (some b)).set l (some c)))
  | _ => M.bad
theorem sv_par3 {i j l : Nat} {x y z : Str} {a b c : Expr} {g : EvA} {px py pz pt : Pos} {kt k2 pt2} (hc : X.calm = true) (hN : X.N.Nodup) (hi : X.N[i]? = some x) (hj : X.N[j]? = some y) (hl : X.N[l]? = some z) (hij : i ≠ j) (hil : i ≠ l) (hjl : j ≠ l)
    (hx : X.env.scope.names.lookup x = some .local) (hy : X.env.scope.names.lookup y = some .local) (hz : X.env.scope.names.lookup z = some .local) (ha : EVA X E [a, b, c] g)
    (hw : swappedStores [.Tuple [.Name x px, .Name y py, .Name z pz] kt pt] (.Tuple [a, b, c] k2 pt2) X.env = pure (some [x, y, z]))
    (hs : swapsWithSole [.Tuple [.Name x px, .Name y py, .Name z pz] kt pt] (.Tuple [a, b, c] k2 pt2) pos.line X.env = pure false := by rfl) :
    SV X E (.Assign [.Tuple [.Name x px, .Name y py, .Name z pz] kt pt] (.Tuple [a, b, c] k2 pt2) pos) (sPar3 i j l g) := PS.imp (ps_par3 hc hN hi hj hl hij hil hjl hx hy hz ha hw hs) fun D σ H ⟨env, cs, ω, hs, hk, h⟩ =>
  ⟨env, cs, ω, hs, hk, h.bind.imp fun ws ω1 cs1 H1 l1 k1 h1 vs rv => by
    match ws, h1, rv with
    | [a, b, c], h1, rv =>
      obtain ⟨u, v, w, e, q1, q2, q3⟩ := rv.three'
      exact ⟨u, v, w, e, h1.now k1 _ ((((hs.mono l1).set i q1).set j q2).set l q3)⟩
    | [], h1, rv => exact (show False from h1).elim
    | [_], h1, rv => exact (show False from h1).elim
    | [_, _], h1, rv => exact (show False from h1).elim
    | _ :: _ :: _ :: _ :: _, h1, rv => exact (show False from h1).elim⟩
/-! raise -/
def sRaise (x : Str) : Sv := fun _ cs => .exc x cs
theorem sv_raise {x : Str} (hc : X.calm = true) (tk : Takes X fun cls d _ H => E cls d H) {C : Addr} (hm : X.mg x = some (.ref C)) (he : PMk X e fun _ H Q => Q (.ref C) none H) : SV X E (.Raise (some e) none pos) (sRaise x) :=
  PS.imp (ps_raise hc tk he) fun D σ H ⟨env, cs, ω, hs, hk, h⟩ => (show ∀ C ω' H', X.mg x = some (.ref C) → Le ω ω' → Ok X.K ω' H' cs → E (.ref C) none H' from h) C ω H hm (Le.refl ω) hk
/-! for -/
def loopS (t : Tg) (b : Sv) : List Wv → En → M Fl
  | [], env => M.ret (.nx env)
  | w :: ws, env => M.bind (M.opt (t w env)) fun env' => M.bind (b env') fun fl => match fl with
    | .nx e => loopS t b ws e
    | .ct e => loopS t b ws e
    | .bk e => M.ret (.nx e)
    | .rt w => M.ret (.rt w)
def sFor (fi : EvI) (t : Tg) (b : Sv) : Sv := fun env => M.bind (fi env) fun ws => loopS t b ws env
theorem sv_for {iter : Expr} {body : List Stmt} {fi : EvI} {t : Tg} {ts : List Nat} {b : Sv} (hp : PassesOwn (model X.prog X.w) X.A X.env X.xe) (hc : X.calm = true) (hi : EVI X E tg iter fi) (hg : GV X tg t ts) (hb : SVs X E body b)
    (hs : ∀ x, foldedSetIterable iter X.env x = pure x := by intro _; rfl) : SV X E (.For tg iter body [] pos) (sFor fi t b) := PS.imp (ps_for hp hc hi hg hb hs) fun D σ H ⟨env, cs, ω, hst, hk, h⟩ =>
  ⟨env, cs, ω, hst, hk, h.bind.imp fun ws ω1 cs1 H1 l1 k1 h1 J wk => by
    refine ⟨fun i m σx Hx => m = ws.length - i ∧ i ≤ ws.length ∧ ∃ (ωi : Wo) (csi : List Cell) (envi : En), Lf ω1 ωi ∧ Ok X.K ωi Hx csi ∧ StRep X.K ωi σx envi ∧ Out X.K X.mg E ωi (loopS t b (ws.drop i) envi csi) fun fl ω' _ H' => EndAt X.K D fl ω' H',
      ⟨_, rfl, Nat.zero_le _, ω1, cs1, env, (Le.refl ω1).lf, k1, hst.mono l1, by rw [List.drop_zero]; exact h1⟩, ?_⟩
    rintro i m σx Hx ⟨rfl, hi, ωi, csi, envi, lf, kI, sI, hO⟩
    by_cases hlt : i < ws.length
    · refine .inr ⟨wk.goes i ωi Hx csi hlt lf kI, fun σn Hn => ∃ m', m' < ws.length - i ∧ (m' = ws.length - (i + 1) ∧ i + 1 ≤ ws.length ∧ ∃ (ωj : Wo) (csj : List Cell) (envj : En), Lf ω1 ωj ∧ Ok X.K ωj Hn csj ∧ StRep X.K ωj σn envj ∧ Out X.K X.mg E ωj (loopS t b (ws.drop (i + 1)) envj csj) fun fl ω' _ H' => EndAt X.K D fl ω' H'),
        fun σ' H' z => z, fun x Hy y => ?_⟩
      obtain ⟨ω2, l2, k2, w, ew, rw'⟩ := wk.yields i ωi Hx csi x Hy hlt lf kI y
      have ed : ws.drop i = w :: ws.drop (i + 1) := by
        obtain ⟨_, e⟩ := List.getElem?_eq_some_iff.mp ew
        rw [← e]
        exact List.drop_eq_getElem_cons hlt
      rw [ed] at hO
      obtain ⟨env', et, hO3⟩ := Out.opt (Out.le l2 hO).bind
      refine ⟨envi, csi, ω2, w, env', sI.mono l2, k2, rw', et, fun σ2 hs2 _ => ⟨env', csi, ω2, hs2, k2, (hO3.now k2).bind.imp fun fl ω3 cs3 H3 l3 k3 hO5 => ?_⟩⟩
      have lf3 : Lf ω1 ω3 := ⟨lf.ex.trans (l2.trans l3).ex, lf.ad.trans (l2.trans l3).ad, (l2.trans l3).tb.trans lf.tb⟩
      cases fl with
      | nx e => exact fun σ' hs' => ⟨_, by omega, rfl, hlt, ω3, cs3, e, lf3, k3, hs', hO5⟩
      | ct e => exact fun σ' hs' => ⟨_, by omega, rfl, hlt, ω3, cs3, e, lf3, k3, hs', hO5⟩
      | bk e => exact fun σ' hs' => hO5.now k3 σ' hs'
      | rt w => exact fun v rv => hO5.now k3 v rv
    · have e : i = ws.length := by omega
      subst e
      refine .inl ⟨wk.stops ωi Hx csi lf kI, ?_⟩
      rw [List.drop_length] at hO
      exact hO.now kI σx sI⟩
/-! while: by a bound of its own, told by what stands at the head -/
def loopW (c : EvT) (b : Sv) : Nat → En → M Fl
  | 0, _ => M.bad
  | n + 1, env => M.bind (c env) fun k => if k = true then M.bind (b env) fun fl => match fl with
      | .nx e => loopW c b n e
      | .ct e => loopW c b n e
      | .bk e => M.ret (.nx e)
      | .rt w => M.ret (.rt w)
    else M.ret (.nx env)
/-- the bound is read off the slots and the cells -/
def sWhile (μ : En → List Cell → Nat) (c : EvT) (b : Sv) : Sv := fun env cs => loopW c b (μ env cs) env cs
theorem sv_while {c : Expr} {body : List Stmt} {fc : EvT} {b : Sv} (μ : En → List Cell → Nat) (hp : PassesOwn (model X.prog X.w) X.A X.env X.xe) (hc : EVT X E c fc) (hb : SVs X E body b) : SV X E (.While c body [] pos) (sWhile μ fc b) := PS.imp (ps_while hp hc hb) fun D σ H ⟨env, cs, ω, hst, hk, h⟩ => by
  refine ⟨fun m σx Hx => ∃ (ωi : Wo) (csi : List Cell) (envi : En), Ok X.K ωi Hx csi ∧ StRep X.K ωi σx envi ∧ Out X.K X.mg E ωi (loopW fc b m envi csi) fun fl ω' _ H' => EndAt X.K D fl ω' H', ⟨μ env cs, ω, cs, env, hk, hst, h⟩, ?_⟩
  rintro m σx Hx ⟨ωi, csi, envi, kI, sI, hO⟩
  cases m with
  | zero => exact (show False from hO).elim
  | succ n =>
    refine ⟨envi, csi, ωi, sI, kI, (Out.bind hO).imp fun k ω1 cs1 H1 l1 k1 h1 => ?_⟩
    cases k with
    | false => exact h1.now k1 σx (sI.mono l1)
    | true =>
      refine ⟨fun σn Hn => ∃ (ωi : Wo) (csi : List Cell) (envi : En), Ok X.K ωi Hn csi ∧ StRep X.K ωi σn envi ∧ Out X.K X.mg E ωi (loopW fc b n envi csi) fun fl ω' _ H' => EndAt X.K D fl ω' H', fun σ' H' z => ⟨n, Nat.lt_succ_self _, z⟩, ?_⟩
      refine ⟨envi, cs1, ω1, sI.mono l1, k1, (Out.bind h1).imp fun fl ω2 cs2 H2 l2 k2 h2 => ?_⟩
      cases fl with
      | nx e => exact fun σ' hs' => ⟨ω2, cs2, e, k2, hs', h2⟩
      | ct e => exact fun σ' hs' => ⟨ω2, cs2, e, k2, hs', h2⟩
      | bk e => exact fun σ' hs' => h2.now k2 σ' hs'
      | rt w => exact fun v rv => h2.now k2 v rv
end
end DX

set_option Elab.async false
set_option linter.all false
set_option maxRecDepth 100000
set_option maxHeartbeats 2000000
/-! D8: functions and their calls, dicts, methods. -/
namespace DX
variable [TabT]
open PySem PySem.Spec PyProof.Rows L2
/-! ### functions -/
abbrev Fn := List Wv → M Wv
def startE (n : Nat) (ws : List Wv) : En := ws.map some ++ List.replicate (n - ws.length) none
def fin : Fl → M Wv
  | .rt w => M.ret w
  | .nx _ => M.ret (.dat .non)
  | _ => M.bad
def fnOf (n : Nat) (b : Sv) : Fn := fun ws => M.bind (b (startE n ws)) fin
theorem RepWs.at {K : Frag} {ω : Wo} {vs : List V} {ws : List Wv} (r : RepWs K ω vs ws) : ∀ {i : Nat} {w : Wv}, ws[i]? = some w → ∃ v, vs[i]? = some v ∧ RepW K ω v w := by
  induction r with
  | nil => intro i w e; simp at e
  | cons h1 _ ih =>
    intro i w e
    cases i with
    | zero => simp at e; subst e; exact ⟨_, rfl, h1⟩
    | succ i => simp at e; simpa using ih e
theorem startRep {K : Frag} {ω : Wo} {N : List Str} {vs : List V} {ws : List Wv} (r : RepWs K ω vs ws) : StRep K ω (L2.start N vs) (startE N.length ws) := by
  have hl := r.len
  refine ⟨by simp [L2.start, startE, hl], fun i w e => ?_⟩
  unfold startE at e
  unfold L2.start
  by_cases hi : i < ws.length
  · rw [List.getElem?_append_left (by simpa using hi), List.getElem?_map] at e
    cases q : ws[i]? with
    | none => rw [q] at e; cases e
    | some w' =>
      rw [q] at e
      cases e
      obtain ⟨v, e1, r1⟩ := r.at q
      exact ⟨v, by rw [List.getElem?_append_left (by simp; omega), List.getElem?_map, e1]; rfl, r1⟩
  · rw [List.getElem?_append_right (by simp; omega), List.getElem?_replicate] at e
    split at e <;> cases e
structure FnG (P : Program) (w : World) (K : Frag) (mg : MG) (base : Heap) (gd : Bool) (k : Nat) (f : Addr) (fd : FuncData) (ps : List Str) (m : Fn) : Prop where
  run : ∀ (A : Around) (outer : List Env) (s : Shared) (H : Hp) (args : Args) (us : List Value) (vs : List V) (Q : VK) (E : XK) (ω : Wo) (cs : List Cell) (ws : List Wv), Room k A → (gd = true → A.guards = some []) → Env0 P w K mg base A outer s H → BindsTo s fd args (ps.zip us) → Vals vs us →
    ws.length = ps.length → Ok K ω H cs → RepWs K ω vs ws → Out K mg E ω (m ws cs) (fun w ω' _ H' => ∀ v, RepW K ω' v w → Q v H') → codeAny (model P w) A (.call (.ref f) args) (CR (L2.CX P w) outer P w H s Q E) s
theorem FnG.mono {P : Program} {w : World} {K : Frag} {mg : MG} {base : Heap} {gd : Bool} {j k : Nat} {f : Addr} {fd : FuncData} {ps : List Str} {m : Fn} (F : FnG P w K mg base gd j f fd ps m) (h : j ≤ k) : FnG P w K mg base gd k f fd ps m :=
  ⟨fun A outer s H args us vs Q E ω cs ws hr => F.run A outer s H args us vs Q E ω cs ws (hr.mono h)⟩
theorem fng_of {P : Program} {w : World} {K : Frag} {mg : MG} {base : Heap} {gd : Bool} {k : Nat} {x qual : Str} {st : Stmt} {f : Addr} {fd : FuncData} {N ps : List Str} {b : Sv} (F : Fun K x qual st f fd) (S : FnScope N ps (defScope st))
    (hb : ∀ (cdv : Value) (A : Around) (outer : List Env) (s : Shared) (H : Hp) (E : XK), fd.code = cdv → Room k (A.deeper (envOfC qual (defScope st) s.heap.objs.size f cdv)) → (gd = true → A.guards = some []) → SVs (cxOf (L2.CX P w) P w K mg base N qual (defScope st) f cdv A outer s H E) E (defBody st) b) :
    FnG P w K mg base gd (k + 1) f fd ps (fnOf N.length b) := by
  refine ⟨fun A outer s H args us vs Q E ω cs ws hr hgd e0 bt r hl hk rw' hO => ?_⟩
  obtain ⟨oc, od, kV, doc, pm, an, cdv, ct, osl, rfl, lk, hcd⟩ := F.ex
  refine LamX.run_ofS (N := N) lk hcd S hr e0 bt r (rw'.len.trans hl) fun hr2 => ⟨_, hb cdv A outer s H E rfl hr2 hgd, startE N.length ws, cs, ω, startRep rw', hk, ?_⟩
  refine (Out.bind hO).imp fun fl ω1 cs1 H1 l1 k1 h1 => ?_
  cases fl with
  | nx env => exact fun _ _ => h1.now k1 .non .non
  | rt w => exact fun v rv => h1.now k1 v rv
  | bk env => exact (show False from h1).elim
  | ct env => exact (show False from h1).elim
section
variable {X : Cx} {E : XK} {gd : Bool} {k : Nat} {f : Addr} {fd : FuncData} {ps ks : List Str} {m : Fn} {x : Str} {p pos : Pos} {e : Expr} {es : List Expr} {g g2 : EvA} {kws : List Keyword}
theorem pass_never {X : Cx} : Passes (L2.CX X.prog X.w) X E0 := fun _ _ _ _ _ _ _ ⟨_, _, _, _, _, _, _, _, _, _, _, _, h⟩ => h.elim
def eFn (n : Nat) (m : Fn) (g : EvA) : Ev := fun env => M.bind (g env) fun ws => if ws.length = n then m ws else M.bad
theorem run_g {args : List Value} {kw : List (Str × Value)} {ω : Wo} {cs : List Cell} {ws : List Wv} {pins : List (Addr × Obj)} {σ : L2.St} {H : Hp} {s : Shared} {Q : VK} {us : List Value} {vs : List V} (F : FnG X.prog X.w X.K X.mg X.base gd k f fd ps m) (hr : Room k X.A) (hgd : gd = true → X.A.guards = some []) (hx : Passes (L2.CX X.prog X.w) X E)
    (hb : BindsTo s fd ⟨args, kw⟩ (ps.zip us)) (I : Inv X pins σ H s) (r : Vals vs us) (hl : ws.length = ps.length) (hk : Ok X.K ω H cs) (rw' : RepWs X.K ω vs ws) (h : Out X.K X.mg E ω (m ws cs) (fun w ω' _ H' => ∀ v, RepW X.K ω' v w → Q v H')) :
    wpAny (model X.prog X.w) X.A (call (.ref f) args kw) (EP X pins σ Q) X.xe s := by
  refine wpAny_call (codeAny_mono (F.run X.A X.stack s H ⟨args, kw⟩ us vs Q E ω cs ws hr hgd I.env0 hb r hl hk rw' h) fun r s' hq => ?_)
  cases r with
  | error e => exact hx pins σ H s e s' I hq
  | ok fl =>
    cases fl with
    | ret u => exact I.after hq
    | next => exact False.elim hq
    | brk => exact False.elim hq
    | cont => exact False.elim hq
theorem ev_callF (F : FnG X.prog X.w X.K X.mg X.base gd k f fd ps m) (hr : Room k X.A) (hgd : gd = true → X.A.guards = some []) (hx : Passes (L2.CX X.prog X.w) X E) (hg : Gl X x) (hm : X.mg x = some (.ref f)) (hkp : PySem.W.keepIn X.K (.ref f) = true) (hb : L2.Binds X.K fd ps [])
    (ha : EVA X E (e :: es) g) (hdb : (x == ("__debug__" : Str)) = false := by decide) (he : starEach (e :: es) X.env = (false, eval e X.env) :: starEach es X.env := by rfl) (hpl : (backTo pos (starEach es X.env)).any (·.1) = false := by rfl) :
    EV X E (.Call (.Name x p) (e :: es) [] pos) (eFn ps.length m g) := by
  refine ⟨fun pins s σ H Q I h => ?_⟩
  obtain ⟨env, cs, ω, hs, hk, h⟩ := h
  refine wpAny_Call_Name_kw (ld_glob I hg hm ?_ hdb)
  refine PySem.W.callWith_K (h₀ := X.base) I.ok.mod.kin hkp (thn (ha.run pos pins s σ H (fun vs H1 => ∃ ω1 cs1 ws, Ok X.K ω1 H1 cs1 ∧ RepWs X.K ω1 vs ws ∧ Out X.K X.mg E ω1 ((if ws.length = ps.length then m ws else M.bad) cs1) (fun w ω' _ H' => ∀ v, RepW X.K ω' v w → Q v H')) I ⟨env, cs, ω, hs, hk, h.bind.imp fun ws ω1 cs1 H1 l1 k1 h1 vs rv => ⟨ω1, cs1, ws, k1, rv, h1⟩⟩) fun us s1 ⟨vs, H1, I1, r, ω1, cs1, ws, k1, rv, h1⟩ => ⟨I1.kIn, ?_⟩) he hpl
  split at h1
  · rename_i hl
    exact run_g F hr hgd hx (by have q := hb s1 us I1.kIn (by rw [List.append_nil, ← r.length, rv.len]; exact hl); rwa [List.append_nil] at q) I1 r hl k1 rv h1
  · exact (show False from h1).elim
theorem ev_callF0 (F : FnG X.prog X.w X.K X.mg X.base gd k f fd [] m) (hr : Room k X.A) (hgd : gd = true → X.A.guards = some []) (hx : Passes (L2.CX X.prog X.w) X E) (hg : Gl X x) (hm : X.mg x = some (.ref f)) (hkp : PySem.W.keepIn X.K (.ref f) = true) (hb : L2.Binds X.K fd [] [])
    (hdb : (x == ("__debug__" : Str)) = false := by decide) : EV X E (.Call (.Name x p) [] [] pos) (fun _ => m []) := by
  refine ⟨fun pins s σ H Q I h => ?_⟩
  obtain ⟨env, cs, ω, hs, hk, h⟩ := h
  refine wpAny_Call_Name_kw (ld_glob I hg hm ?_ hdb)
  exact PySem.W.callWith_K0 I.kIn hkp (run_g (ws := []) (us := []) (vs := []) F hr hgd hx (hb s [] I.kIn rfl) I .nil rfl hk .nil h)
/-! keywords alone: given in the parameters' order by π -/
def tEvAk (X : Cx) (E : XK) (kws : List Keyword) (f : EvA) : Prop := PK X kws (tEvA X.K X.mg E f)
theorem PK.imp {kws : List Keyword} {t u : TA} (h : PK X kws t) (i : ∀ σ H Q, u σ H Q → t σ H Q) : PK X kws u := ⟨fun pos pins s σ H Q I q => h.run pos pins s σ H Q I (i σ H Q q)⟩
theorem ek_nil : tEvAk X E [] aNil := PK.imp pk_nil fun σ H Q ⟨env, cs, ω, hs, hk, h⟩ => h.now hk [] .nil
theorem ek_cons {f : Ev} {nm : Option Str} {kpos : Pos} (h1 : EV X E e f) (h2 : tEvAk X E kws g) : tEvAk X E (⟨nm, e, kpos⟩ :: kws) (aCons f g) := PK.imp (pk_cons h1 h2) fun σ H Q ⟨env, cs, ω, hs, hk, h⟩ =>
  ⟨env, cs, ω, hs, hk, h.bind.imp fun w ω1 cs1 H1 l1 k1 h1 v rv => ⟨env, cs1, ω1, hs.mono l1, k1, h1.bind.imp fun ws ω2 cs2 H2 l2 k2 h2 vs rvs => h2.now k2 (v :: vs) (.cons (rv.mono l2) rvs)⟩⟩
def pickL {α : Type} (π : List Nat) (xs : List α) : List α := π.filterMap fun i => xs[i]?
theorem RepWs.pick {K : Frag} {ω : Wo} {vs : List V} {ws : List Wv} (r : RepWs K ω vs ws) : ∀ π : List Nat, RepWs K ω (pickL π vs) (pickL π ws)
  | [] => .nil
  | i :: π => by
    have ih := r.pick π
    have hl := r.len
    unfold pickL at ih ⊢
    cases e : ws[i]? with
    | none =>
      have e2 : vs[i]? = none := by
        rw [List.getElem?_eq_none_iff] at e ⊢
        omega
      rw [List.filterMap_cons_none e, List.filterMap_cons_none e2]
      exact ih
    | some w =>
      obtain ⟨v, e2, r1⟩ := r.at e
      rw [List.filterMap_cons_some e, List.filterMap_cons_some e2]
      exact .cons r1 ih
theorem vals_pick {vs : List V} {us : List Value} (r : Vals vs us) : ∀ π : List Nat, Vals (pickL π vs) (pickL π us)
  | [] => .nil
  | i :: π => by
    have ih := vals_pick r π
    have hl := r.length
    unfold pickL at ih ⊢
    cases e : vs[i]? with
    | none =>
      have e2 : us[i]? = none := by
        rw [List.getElem?_eq_none_iff] at e ⊢
        omega
      rw [List.filterMap_cons_none e, List.filterMap_cons_none e2]
      exact ih
    | some w =>
      obtain ⟨v, e2, r1⟩ := r.get e
      rw [List.filterMap_cons_some e, List.filterMap_cons_some e2]
      exact .cons r1 ih
def eFnP (n : Nat) (π : List Nat) (m : Fn) (g : EvA) : Ev := fun env => M.bind (g env) fun ws => if ws.length = n ∧ (pickL π ws).length = n then m (pickL π ws) else M.bad
theorem ev_callK {π : List Nat} (F : FnG X.prog X.w X.K X.mg X.base gd k f fd ps m) (hr : Room k X.A) (hgd : gd = true → X.A.guards = some []) (hx : Passes (L2.CX X.prog X.w) X E) (hg : Gl X x) (hm : X.mg x = some (.ref f)) (hkp : PySem.W.keepIn X.K (.ref f) = true)
    (hb : ∀ (s : Shared) (us : List Value), us.length = ps.length → BindsTo s fd ⟨[], ks.zip us⟩ (ps.zip (pickL π us)))
    (ha : tEvAk X E kws g) (hall : (backToKw pos (keywordEach kws X.env)).all (·.1.isSome) = true := by rfl) (hks : (backToKw pos (keywordEach kws X.env)).filterMap (·.1) = ks := by rfl) (hdb : (x == ("__debug__" : Str)) = false := by decide)
    (hpl : ((backTo pos (starEach [] X.env)).any (·.1) || (backToKw pos (keywordEach kws X.env)).any (·.1.isNone)) = false := by rfl) :
    EV X E (.Call (.Name x p) [] kws pos) (eFnP ps.length π m g) := by
  refine ⟨fun pins s σ H Q I h => ?_⟩
  obtain ⟨env, cs, ω, hs, hk, h⟩ := h
  refine wpAny_Call_Name_kw (ld_glob I hg hm ?_ hdb)
  refine PySem.W.callWith_KW0 (h₀ := X.base) I.ok.mod.kin hkp hall (thn (ha.run pos pins s σ H (fun vs H1 => ∃ ω1 cs1 ws, Ok X.K ω1 H1 cs1 ∧ RepWs X.K ω1 vs ws ∧ Out X.K X.mg E ω1 ((if ws.length = ps.length ∧ (pickL π ws).length = ps.length then m (pickL π ws) else M.bad) cs1) (fun w ω' _ H' => ∀ v, RepW X.K ω' v w → Q v H')) I ⟨env, cs, ω, hs, hk, h.bind.imp fun ws ω1 cs1 H1 l1 k1 h1 vs rv => ⟨ω1, cs1, ws, k1, rv, h1⟩⟩) fun us s1 ⟨vs, H1, I1, r, ω1, cs1, ws, k1, rv, h1⟩ => ⟨I1.kIn, ?_⟩) hpl
  rw [hks]
  split at h1
  · rename_i hl
    exact run_g F hr hgd hx (hb s1 us (by rw [← r.length, rv.len]; exact hl.1)) I1 (vals_pick r π) hl.2 k1 (rv.pick π) h1
  · exact (show False from h1).elim
end
end DX

set_option Elab.async false
set_option linter.all false
set_option maxRecDepth 100000
set_option maxHeartbeats 2000000
/-! D9: comparisons of cells, dicts, methods. -/
namespace DX
variable [TabT]
open PySem PySem.Spec PyProof.Rows L2
section
variable {X : Cx} {E : XK} {a b c e : Expr} {es : List Expr} {pos p apos cpos : Pos} {f g h : Ev} {ga : EvA}
/-! ### comparisons that look into cells -/
def snap (cs : List Cell) : Wv → Option PyData
  | .dat d => py d
  | .cel k => match cs[k]? with
    | some (.lst ws) => ((dats ws).bind pys).map .list
    | _ => none
theorem snap_of {K : Frag} {ω : Wo} {H : Hp} {cs : List Cell} {v : V} {w : Wv} {q : PyData} (k : Ok K ω H cs) (r : RepW K ω v w) (e : snap cs w = some q) : Dp K H v q := by
  cases w with
  | dat d => exact dp_of d v q (RepD.mono k.ex d v r) e
  | cel i =>
    obtain ⟨a, e1, rfl⟩ := r
    unfold snap at e
    dsimp only at e
    cases hc : cs[i]? with
    | none => rw [hc] at e; cases e
    | some c =>
      rw [hc] at e
      have qc := k.cell e1 hc
      cases c with
      | lst ws =>
        obtain ⟨_, vs, h1, h2⟩ := qc
        have e : ((dats ws).bind pys).map PyData.list = some q := e
        cases hd : dats ws with
        | none => rw [hd] at e; cases e
        | some ds =>
          rw [hd] at e
          have e : (pys ds).map PyData.list = some q := e
          cases hp : pys ds with
          | none => rw [hp] at e; cases e
          | some ps =>
            rw [hp] at e
            cases e
            exact .lst (SqL.of h1) (dps_of ds vs ps (RepL.mono k.ex ds vs (h2.dats hd)) hp)
      | dic l => cases e
      | ins C l => cases e
      | dead => cases e
def eqS : Wv → Wv → Option Bool
  | .dat (.int i), .dat (.int j) => some (i == j)
  | .dat (.str i), .dat (.str j) => some (i == j)
  | .dat (.bl i), .dat (.bl j) => some (i == j)
  | _, _ => none
def eqL (x y : Wv) (cs : List Cell) : Option Bool := match snap cs x, snap cs y with
  | some p, some q => if (SeqAt.shaped p && SeqAt.shaped q) = true then some (PyData.eqv p q) else none
  | _, _ => none
def eqB (x y : Wv) (cs : List Cell) : Option Bool := match eqS x y with
  | some b => some b
  | none => eqL x y cs
def eqC (neg : Bool) (x y : Wv) (cs : List Cell) : Option Dt := (eqB x y cs).map fun b => .bl (if neg then !b else b)
theorem eqL_of {x y : Wv} {cs : List Cell} {b : Bool} (h : eqL x y cs = some b) : ∃ p q, snap cs x = some p ∧ snap cs y = some q ∧ SeqAt.shaped p = true ∧ SeqAt.shaped q = true ∧ b = PyData.eqv p q := by
  unfold eqL at h
  split at h
  · rename_i p q e1 e2
    split at h
    · rename_i hh
      simp only [Bool.and_eq_true] at hh
      exact ⟨p, q, e1, e2, hh.1, hh.2, (Option.some.inj h).symm⟩
    · cases h
  · cases h
def eEqC (neg : Bool) (f g : Ev) : Ev := fun env => M.bind (f env) fun x => M.bind (g env) fun y => fun cs => M.opt ((eqC neg x y cs).map .dat) cs
def rEqN (K : Frag) (neg : Bool) : R2 := fun x y H Q => (if neg then rNe x y H Q else rEq x y H Q) ∨ (if neg then rNeD K x y H Q else rEqD K x y H Q)
theorem eqB_use {K : Frag} {ω : Wo} {H : Hp} {cs : List Cell} {neg : Bool} {u v : V} {x y : Wv} {b : Bool} {Q : VK} (k : Ok K ω H cs) (ru : RepW K ω u x) (rv : RepW K ω v y) (e : eqB x y cs = some b) (q : Q (.bl (if neg then !b else b)) H) : rEqN K neg u v H Q := by
  unfold eqB at e
  split at e
  · rename_i b' e1
    cases e
    have key : scal u v = true ∧ b = decide (u = v) := by
      unfold eqS at e1
      split at e1
      · rename_i i j
        cases (show RepD K ω.Hs u (.int i) from ru)
        cases (show RepD K ω.Hs v (.int j) from rv)
        cases e1
        exact ⟨rfl, dec_int.symm⟩
      · rename_i i j
        cases (show RepD K ω.Hs u (.str i) from ru)
        cases (show RepD K ω.Hs v (.str j) from rv)
        cases e1
        exact ⟨rfl, dec_str.symm⟩
      · rename_i i j
        cases (show RepD K ω.Hs u (.bl i) from ru)
        cases (show RepD K ω.Hs v (.bl j) from rv)
        cases e1
        exact ⟨rfl, dec_bl.symm⟩
      · cases e1
    obtain ⟨h1, rfl⟩ := key
    cases neg with
    | true => exact .inl ⟨h1, q⟩
    | false => exact .inl ⟨h1, q⟩
  · obtain ⟨p, p', e1, e2, s1, s2, rfl⟩ := eqL_of e
    cases neg with
    | true => exact .inr ⟨p, p', snap_of k ru e1, snap_of k rv e2, s1, s2, q⟩
    | false => exact .inr ⟨p, p', snap_of k ru e1, snap_of k rv e2, s1, s2, q⟩
theorem eqC_use {neg : Bool} {σ : L2.St} {H : Hp} {Q : VK} (hh : tEv X.K X.mg E (eEqC neg f g) σ H Q) : tOp (rEqN X.K neg) (tEv X.K X.mg E f) (tEv X.K X.mg E g) σ H Q := by
  obtain ⟨env, cs, ω, hs, hk, h⟩ := hh
  refine ⟨env, cs, ω, hs, hk, h.bind.imp fun x ω1 cs1 H1 l1 k1 h1 u ru => ⟨env, cs1, ω1, hs.mono l1, k1, h1.bind.imp fun y ω2 cs2 H2 l2 k2 h2 v rv => ?_⟩⟩
  obtain ⟨z, e, h3⟩ := Out.map_some (show Out X.K X.mg E ω2 (M.opt ((eqC neg x y cs2).map Wv.dat) cs2) _ from h2)
  unfold eqC at e
  cases hb : eqB x y cs2 with
  | none => rw [hb] at e; cases e
  | some b =>
    rw [hb] at e
    cases e
    exact eqB_use k2 (ru.mono l2) rv hb (h3.now k2 _ (RepD.bl _))
theorem op_eqN (hu : X.A.units + 64 < cLine) : OpR X (compareOp .Eq) (rEqN X.K false) := OpR.or op_eq (op_eqD hu)
theorem op_neN (hu : X.A.units + 64 < cLine) : OpR X (compareOp .NotEq) (rEqN X.K true) := OpR.or op_ne (op_neD hu)
theorem ev_eqC (hu : X.A.units + 64 < cLine) (ha : EV X E a f) (hb : EV X E b g) : EV X E (.Compare a [.Eq] [b] pos) (eEqC false f g) := PE.imp (pe_cmpR (op_eqN hu) ha hb (nomark _)) fun _ _ _ h => eqC_use (neg := false) h
theorem ev_neC (hu : X.A.units + 64 < cLine) (ha : EV X E a f) (hb : EV X E b g) : EV X E (.Compare a [.NotEq] [b] pos) (eEqC true f g) := PE.imp (pe_cmpR (op_neN hu) ha hb (nomark _)) fun _ _ _ h => eqC_use (neg := true) h
theorem et_eqC (hu : X.A.units + 64 < cLine) (ha : EV X E a f) (hb : EV X E b g) : EVT X E (.Compare a [.Eq] [b] pos) (tCmpE (eEqC false f g)) := PT.imp (pt_cmpR (op_eqN hu) ha hb (nomark _)) fun _ _ _ h => tEv_test (fun _ _ _ h => eqC_use (neg := false) h) h
theorem et_neC (hu : X.A.units + 64 < cLine) (ha : EV X E a f) (hb : EV X E b g) : EVT X E (.Compare a [.NotEq] [b] pos) (tCmpE (eEqC true f g)) := PT.imp (pt_cmpR (op_neN hu) ha hb (nomark _)) fun _ _ _ h => tEv_test (fun _ _ _ h => eqC_use (neg := true) h) h
/-! ### a cell changes -/
theorem Ok.setCell {K : Frag} {ω : Wo} {H : Hp} {cs : List Cell} {i : Nat} {a : Addr} {o o' : HO} {c : Cell} (k : Ok K ω H cs) (e : ω.ad[i]? = some a) (hn : ω.Hs a = none ∧ ω.fr a = none) (ho : H a = some o) (hp : (∀ ps, o ≠ .tbl ps) ∧ ∀ b q, o ≠ LamX.CodeO b q) (hc : CellAt K ω (upd H a o') a c) : Ok K ω (upd H a o') (cs.set i c) := by
  refine ⟨fun b u hb => ?_, by rw [List.length_set]; exact k.len, k.nd, fun j b c' e1 e2 => ?_, fun q hq => ?_, fun b u hb => ?_, k.dj, k.nt, k.nf⟩
  · rw [upd_ne (ne_of_none hb hn.1)]
    exact k.ex b u hb
  · by_cases hj : i = j
    · subst hj
      rw [e] at e1
      cases e1
      have hl : i < cs.length := by
        rw [k.len]
        exact (List.getElem?_eq_some_iff.mp e).1
      rw [List.getElem?_set_self hl] at e2
      cases e2
      exact hc
    · rw [List.getElem?_set_ne hj] at e2
      have q := k.cel j b c' e1 e2
      have ne : b ≠ a := fun z => by
        subst z
        obtain ⟨h1, g1⟩ := List.getElem?_eq_some_iff.mp e
        obtain ⟨h2, g2⟩ := List.getElem?_eq_some_iff.mp e1
        exact hj ((List.getElem_inj k.nd).mp (g1.trans g2.symm))
      exact q.mono (Le.refl ω) id fun u z => by rw [upd_ne ne]; exact z
  · obtain ⟨ps, h1, h2, h3⟩ := k.tab q hq
    have ne : ∀ {b u}, H b = some u → o ≠ u → b ≠ a := fun {b u} e d z => by
      rw [z, ho] at e
      exact d (Option.some.inj e)
    refine ⟨ps, by rw [upd_ne (ne h1 (hp.1 _))]; exact h1, h2, fun pos cv hc => ?_⟩
    obtain ⟨c, e1, e2⟩ := h3 pos cv hc
    exact ⟨c, e1, by rw [upd_ne (ne e2 (hp.2 _ _))]; exact e2⟩
  · rw [upd_ne (ne_of_none hb hn.2)]
    exact k.frx b u hb
theorem lst_plain {xs : List V} : (∀ ps, HO.lst xs ≠ .tbl ps) ∧ ∀ b q, HO.lst xs ≠ LamX.CodeO b q := ⟨fun ps z => (nomatch z), fun b q z => by unfold LamX.CodeO at z; cases z⟩
theorem dK_plain {xs : List (Key × V)} : (∀ ps, HO.dK xs ≠ .tbl ps) ∧ ∀ b q, HO.dK xs ≠ LamX.CodeO b q := ⟨fun ps z => (nomatch z), fun b q z => by unfold LamX.CodeO at z; cases z⟩
/-! ### methods of built-in types -/
def MethO (K : Frag) (mg : MG) (E : XK) (r : V → List V → Hp → VK → Prop) (o : Wv → List Wv → M Wv) : Prop := ∀ (ω : Wo) (H : Hp) (cs : List Cell) (v : V) (x : Wv) (vs : List V) (ws : List Wv), Ok K ω H cs → RepW K ω v x → RepWs K ω vs ws →
  ∀ Q : VK, Out K mg E ω (o x ws cs) (fun w ω' _ H' => ∀ v, RepW K ω' v w → Q v H') → r v vs H Q
def okStr (x : Wv) (_ : List Cell) : Bool := match x with
  | .dat (.str _) => true
  | _ => false
def okLst (x : Wv) (cs : List Cell) : Bool := match x with
  | .cel k => match cs[k]? with
    | some (.lst _) => true
    | _ => false
  | _ => false
def TyO (K : Frag) (T : String) (ok : Wv → List Cell → Bool) : Prop := ∀ (ω : Wo) (H : Hp) (cs : List Cell) (v : V) (x : Wv), Ok K ω H cs → RepW K ω v x → ok x cs = true → tyV K T v H
theorem ty_str {K : Frag} : TyO K "str" okStr := fun ω H cs v x k r e => by
  cases x with
  | cel i => cases e
  | dat d =>
    cases d with
    | str s =>
      cases (show RepD K ω.Hs v (.str s) from r)
      exact rfl
    | _ => cases e
theorem ty_lst {K : Frag} : TyO K "list" okLst := fun ω H cs v x k r e => by
  cases x with
  | dat d => cases e
  | cel i =>
    obtain ⟨a, e1, rfl⟩ := r
    unfold okLst at e
    dsimp only at e
    cases hc : cs[i]? with
    | none => rw [hc] at e; cases e
    | some c =>
      rw [hc] at e
      have q := k.cell e1 hc
      cases c with
      | lst ws => obtain ⟨_, vs, h1, _⟩ := q; exact .inl ⟨rfl, vs, SqL.of h1⟩
      | dic l => cases e
      | ins C l => cases e
      | dead => cases e
def eMeth (ok : Wv → List Cell → Bool) (o : Wv → List Wv → M Wv) (f : Ev) (g : EvA) : Ev := fun env => M.bind (f env) fun x => fun cs => if ok x cs = true then M.bind (g env) (fun ws => o x ws) cs else .bad
theorem meth_use {T : String} {ok : Wv → List Cell → Bool} {o : Wv → List Wv → M Wv} {r : V → List V → Hp → VK → Prop} (ht : TyO X.K T ok) (hr : MethO X.K X.mg E r o) {σ : L2.St} {H : Hp} {Q : VK} (hh : tEv X.K X.mg E (eMeth ok o f ga) σ H Q) : tBM X.K T r (tEv X.K X.mg E f) (tEvA X.K X.mg E ga) σ H Q := by
  obtain ⟨env, cs, ω, hs, hk, h⟩ := hh
  refine ⟨env, cs, ω, hs, hk, h.bind.imp fun x ω1 cs1 H1 l1 k1 h1 v rv => ?_⟩
  have h1 : Out X.K X.mg E ω1 (if ok x cs1 = true then M.bind (ga env) (fun ws => o x ws) cs1 else .bad) _ := h1
  split at h1
  · rename_i hok
    exact ⟨ht ω1 H1 cs1 v x k1 rv hok, env, cs1, ω1, hs.mono l1, k1, h1.bind.imp fun ws ω2 cs2 H2 l2 k2 h2 vs rvs => hr ω2 H2 cs2 v x vs ws k2 (rv.mono l2) rvs Q h2⟩
  · exact (show False from h1).elim
theorem ev_bm {T id : String} {name : Str} {ok : Wv → List Cell → Bool} {o : Wv → List Wv → M Wv} {r : V → List V → Hp → VK → Prop} (pa : PlainAttrs T) (slot : Slot T name id) (hty : typeOf (.builtin id) = pure (.type "method_descriptor")) (hm : MtR X id r) (ht : TyO X.K T ok) (hr : MethO X.K X.mg E r o) (ho : EV X E a f) (ha : EVA X E (e :: es) ga)
    (hbase : attributeBase a name X.env (eval a X.env) = eval a X.env := by rfl)
    (hfew : ((backTo cpos (starEach (e :: es) X.env)).all (fun x => !x.1) && (backToKw cpos (keywordEach [] X.env)).all (fun x => x.1.isSome)
      && decide ((e :: es).length + ([] : List Keyword).length + (if ([] : List Keyword).isEmpty then 0 else 1) < 30)) = true := by rfl)
    (hline : (apos.endLine == cpos.line) = true := by rfl) (hs : starEach (e :: es) X.env = (false, eval e X.env) :: starEach es X.env := by rfl) (hplain : (backTo cpos (starEach es X.env)).any (·.1) = false := by rfl) :
    EV X E (.Call (.Attribute a name apos) (e :: es) [] cpos) (eMeth ok o f ga) := PE.imp (pe_bm pa slot hty hm ho ha hbase hfew hline hs hplain) fun _ _ _ h => meth_use ht hr h
theorem ev_bmS {T id : String} {name : Str} {ok : Wv → List Cell → Bool} {o : Wv → List Wv → M Wv} {r : L2.St → V → List V → Hp → VK → Prop} (pa : PlainAttrs T) (slot : Slot T name id) (hty : typeOf (.builtin id) = pure (.type "method_descriptor")) (hm : MtS X id r) (ht : TyO X.K T ok) (hr : ∀ σ, MethO X.K X.mg E (r σ) o) (ho : EV X E a f) (ha : EVA X E (e :: es) ga)
    (hbase : attributeBase a name X.env (eval a X.env) = eval a X.env := by rfl)
    (hfew : ((backTo cpos (starEach (e :: es) X.env)).all (fun x => !x.1) && (backToKw cpos (keywordEach [] X.env)).all (fun x => x.1.isSome)
      && decide ((e :: es).length + ([] : List Keyword).length + (if ([] : List Keyword).isEmpty then 0 else 1) < 30)) = true := by rfl)
    (hline : (apos.endLine == cpos.line) = true := by rfl) (hs : starEach (e :: es) X.env = (false, eval e X.env) :: starEach es X.env := by rfl) (hplain : (backTo cpos (starEach es X.env)).any (·.1) = false := by rfl) :
    EV X E (.Call (.Attribute a name apos) (e :: es) [] cpos) (eMeth ok o f ga) := PE.imp (pe_bmS pa slot hty hm ho ha hbase hfew hline hs hplain) fun σ _ _ h => meth_use ht (hr σ) h
/-! texts -/
def oStr1 (k : Str → Str → Option Dt) (x : Wv) (ws : List Wv) : M Wv := match x, ws with
  | .dat (.str a), [.dat (.str b)] => M.opt ((k a b).map .dat)
  | _, _ => M.bad
theorem mo_str1 {K : Frag} {mg : MG} {E : XK} {r : V → List V → Hp → VK → Prop} {k : Str → Str → Option Dt} (hr : ∀ a b z, k a b = some z → ∃ v, (∀ K Hs, RepD K Hs v z) ∧ ∀ H (Q : VK), Q v H → r (.str a) [.str b] H Q) : MethO K mg E r (oStr1 k) := fun ω H cs v x vs ws ok rx rs Q h => by
  unfold oStr1 at h
  split at h
  · rename_i a b
    obtain ⟨z, e, h1⟩ := Out.map_some h
    cases (show RepD K ω.Hs v (.str a) from rx)
    obtain ⟨u, rfl, r1⟩ := rs.one
    cases r1
    obtain ⟨v, r2, h2⟩ := hr a b z e
    exact h2 H Q (h1.now ok v (r2 _ _))
  · exact (show False from h).elim
def kCount (a b : Str) : Option Dt := some (.int (Txt.count a b))
def kIndex (a b : Str) : Option Dt := (Txt.index0 a b).map fun k => .int (k : Nat)
def W0 : WX := fun _ _ _ _ => False
theorem takes0 : Takes X W0 := fun u s' x => by
  obtain ⟨a, B, sI, pins, σ', H', cls, d, e, I, nb, up, sky, na, os, ag, w⟩ := x
  exact w.elim
theorem ev_count (ho : EV X E a f) (ha : EVA X E [e] ga) (hbase : attributeBase a "count" X.env (eval a X.env) = eval a X.env := by rfl)
    (hfew : ((backTo cpos (starEach [e] X.env)).all (fun x => !x.1) && (backToKw cpos (keywordEach [] X.env)).all (fun x => x.1.isSome) && decide (([e] : List Expr).length + ([] : List Keyword).length + (if ([] : List Keyword).isEmpty then 0 else 1) < 30)) = true := by rfl)
    (hline : (apos.endLine == cpos.line) = true := by rfl) (hs : starEach [e] X.env = (false, eval e X.env) :: starEach [] X.env := by rfl) :
    EV X E (.Call (.Attribute a "count" apos) [e] [] cpos) (eMeth okStr (oStr1 kCount) f ga) :=
  ev_bm PySem.F.plainAttrs_str PySem.F.slot_str_count PySem.F.type_str_count mt_count ty_str (mo_str1 fun a b z e => by cases e; exact ⟨_, fun _ _ => .int _, fun H Q q => ⟨a, b, rfl, rfl, q⟩⟩) ho ha hbase hfew hline hs rfl
theorem ev_index (hc : X.calm = true) (ho : EV X E a f) (ha : EVA X E [e] ga) (hbase : attributeBase a "index" X.env (eval a X.env) = eval a X.env := by rfl)
    (hfew : ((backTo cpos (starEach [e] X.env)).all (fun x => !x.1) && (backToKw cpos (keywordEach [] X.env)).all (fun x => x.1.isSome) && decide (([e] : List Expr).length + ([] : List Keyword).length + (if ([] : List Keyword).isEmpty then 0 else 1) < 30)) = true := by rfl)
    (hline : (apos.endLine == cpos.line) = true := by rfl) (hs : starEach [e] X.env = (false, eval e X.env) :: starEach [] X.env := by rfl) :
    EV X E (.Call (.Attribute a "index" apos) [e] [] cpos) (eMeth okStr (oStr1 kIndex) f ga) :=
  ev_bmS PySem.F.plainAttrs_str PySem.F.slot_str_index PySem.F.type_str_index (mt_indexX hc takes0) ty_str (fun σ => mo_str1 fun a b z e => by
    unfold kIndex at e
    cases h : Txt.index0 a b with
    | none => rw [h] at e; cases e
    | some k =>
      rw [h] at e
      cases e
      exact ⟨_, fun _ _ => .int _, fun H Q q => ⟨a, b, rfl, rfl, fun j ej => by rw [h] at ej; cases ej; exact q, fun ej => by rw [h] at ej; cases ej⟩⟩) ho ha hbase hfew hline hs rfl
def strsOf : List Dt → Option (List Str)
  | [] => some []
  | .str s :: l => (strsOf l).map (s :: ·)
  | _ => none
theorem RepL.strs {K : Frag} {H : Hp} : ∀ {vs : List V} {ds : List Dt} {ys : List Str}, RepL K H vs ds → strsOf ds = some ys → vs = ys.map V.str
  | _, [], _, h, e => by cases h; cases e; rfl
  | _, d :: ds, _, h, e => by
    cases h with
    | cons h1 h2 =>
      cases d with
      | str s =>
        have e : (strsOf ds).map (s :: ·) = some _ := e
        cases q : strsOf ds with
        | none => rw [q] at e; cases e
        | some zs =>
          rw [q] at e
          cases e
          cases h1
          rw [RepL.strs h2 q]
          rfl
      | _ => cases e
def kJoin (a : Str) (ds : List Dt) : Option Dt := (strsOf ds).bind fun ys => if decide ((ys.map (·.length)).sum + ys.length * a.length ≤ 16777216) = true then some (.str (Txt.join a ys)) else none
def oJoin (x : Wv) (ws : List Wv) : M Wv := match x, ws with
  | .dat (.str a), [.dat (.lst ds)] => M.opt ((kJoin a ds).map .dat)
  | .dat (.str a), [.dat (.tup ds)] => M.opt ((kJoin a ds).map .dat)
  | _, _ => M.bad
theorem kJoin_of {a : Str} {ds : List Dt} {z : Dt} (h : kJoin a ds = some z) : ∃ ys, strsOf ds = some ys ∧ (ys.map (·.length)).sum + ys.length * a.length ≤ 16777216 ∧ z = .str (Txt.join a ys) := by
  unfold kJoin at h
  cases q : strsOf ds with
  | none => rw [q] at h; cases h
  | some ys =>
    rw [q] at h
    have h : (if decide ((ys.map (·.length)).sum + ys.length * a.length ≤ 16777216) = true then some (Dt.str (Txt.join a ys)) else none) = some z := h
    split at h
    · rename_i hh
      exact ⟨ys, rfl, of_decide_eq_true hh, (Option.some.inj h).symm⟩
    · cases h
theorem mo_join : MethO X.K X.mg E (fun x xs H Q => ∃ a p, ∃ ys : List Str, x = .str a ∧ xs = [.ref p] ∧ (SqL X.K H p (ys.map V.str) ∨ SqT X.K H p (ys.map V.str)) ∧
    (ys.map (·.length)).sum + ys.length * a.length ≤ 16777216 ∧ Q (.str (Txt.join a ys)) H) oJoin := fun ω H cs v x vs ws ok rx rs Q h => by
  unfold oJoin at h
  split at h
  · rename_i a ds
    obtain ⟨z, e, h1⟩ := Out.map_some h
    obtain ⟨ys, e1, e2, rfl⟩ := kJoin_of e
    cases (show RepD X.K ω.Hs v (.str a) from rx)
    obtain ⟨u, rfl, r1⟩ := rs.one
    cases r1 with
    | lst h2 h3 => exact ⟨a, _, ys, rfl, rfl, .inl (by rw [← h3.strs e1]; exact SqL.of (ok.ex _ _ h2)), e2, h1.now ok _ (RepD.str _)⟩
  · rename_i a ds
    obtain ⟨z, e, h1⟩ := Out.map_some h
    obtain ⟨ys, e1, e2, rfl⟩ := kJoin_of e
    cases (show RepD X.K ω.Hs v (.str a) from rx)
    obtain ⟨u, rfl, r1⟩ := rs.one
    cases r1 with
    | tup h2 h3 => exact ⟨a, _, ys, rfl, rfl, .inr (by rw [← h3.strs e1]; exact (ex_t ok.ex h2).sq), e2, h1.now ok _ (RepD.str _)⟩
  · exact (show False from h).elim
theorem ev_join (ho : EV X E a f) (ha : EVA X E [e] ga) (hbase : attributeBase a "join" X.env (eval a X.env) = eval a X.env := by rfl)
    (hfew : ((backTo cpos (starEach [e] X.env)).all (fun x => !x.1) && (backToKw cpos (keywordEach [] X.env)).all (fun x => x.1.isSome) && decide (([e] : List Expr).length + ([] : List Keyword).length + (if ([] : List Keyword).isEmpty then 0 else 1) < 30)) = true := by rfl)
    (hline : (apos.endLine == cpos.line) = true := by rfl) (hs : starEach [e] X.env = (false, eval e X.env) :: starEach [] X.env := by rfl) :
    EV X E (.Call (.Attribute a "join" apos) [e] [] cpos) (eMeth okStr oJoin f ga) :=
  ev_bm PySem.F.plainAttrs_str PySem.F.slot_str_join PySem.F.type_str_join mt_join ty_str mo_join ho ha hbase hfew hline hs rfl
/-! lists that are cells -/
def oAppend (x : Wv) (ws : List Wv) : M Wv := fun cs => match x, ws with
  | .cel k, [w] => match cs[k]? with
    | some (.lst l) => if decide (l.length < 16777216) = true then .ok (.dat .non) (cs.set k (.lst (l ++ [w]))) else .bad
    | _ => .bad
  | _, _ => .bad
theorem RepWs.one' {K : Frag} {ω : Wo} {vs : List V} {w : Wv} (h : RepWs K ω vs [w]) : ∃ v, vs = [v] ∧ RepW K ω v w := by
  cases h with
  | cons h1 h2 => cases h2; exact ⟨_, rfl, h1⟩
theorem Out.okk {K : Frag} {mg : MG} {E : XK} {α : Type} {ω : Wo} {F : α → Wo → List Cell → Hp → Prop} {a : α} {cs : List Cell} {H : Hp} (h : Out K mg E ω (.ok a cs) F) (k : Ok K ω H cs) : F a ω cs H := h ω H (Le.refl ω) k
theorem mo_append : MethO X.K X.mg E rAppend oAppend := fun ω H cs v x vs ws ok rx rs Q h => by
  unfold oAppend at h
  split at h
  · rename_i x ws i w
    cases hc : cs[i]? with
    | none => rw [hc] at h; exact (show False from h).elim
    | some c =>
      rw [hc] at h
      obtain ⟨a, e1, rfl⟩ := rx
      have q := ok.cell e1 hc
      cases c with
      | lst l =>
        have h : Out X.K X.mg E ω (if decide (l.length < 16777216) = true then R.ok (Wv.dat Dt.non) (cs.set i (Cell.lst (l ++ [w]))) else R.bad) _ := h
        split at h
        · rename_i hl
          have hl := of_decide_eq_true hl
          obtain ⟨hn, xs, h1, h2⟩ := q
          obtain ⟨u, rfl, r1⟩ := rs.one'
          have r3 : RepWs X.K ω (xs ++ [u]) (l ++ [w]) := h2.app (.cons r1 .nil)
          exact ⟨a, xs, u, rfl, rfl, h1, by rw [sizeLine_eq, h2.len]; exact hl, h.okk (ok.setCell e1 hn h1 lst_plain ⟨hn, _, upd_same, r3⟩) _ (.non)⟩
        · exact (show False from h).elim
      | dic l => exact (show False from h).elim
      | ins C l => exact (show False from h).elim
      | dead => exact (show False from h).elim
  · exact (show False from h).elim
def oPopAt (x : Wv) (ws : List Wv) : M Wv := fun cs => match x, ws with
  | .cel k, [.dat (.int i)] => match cs[k]? with
    | some (.lst l) => if (decide (-9223372036854775808 ≤ i) && decide (i < 9223372036854775808)) = true then match seqIndex? i l.length with
      | some j => match l[j]? with
        | some w => .ok w (cs.set k (.lst (l.eraseIdx j)))
        | none => .bad
      | none => .bad
      else .bad
    | _ => .bad
  | _, _ => .bad
theorem RepWs.erase {K : Frag} {ω : Wo} {vs : List V} {ws : List Wv} (r : RepWs K ω vs ws) : ∀ j : Nat, RepWs K ω (vs.eraseIdx j) (ws.eraseIdx j) := by
  induction r with
  | nil => intro j; exact .nil
  | cons h1 h2 ih =>
    intro j
    cases j with
    | zero => exact h2
    | succ j => exact .cons h1 (ih j)
theorem mo_popAt : MethO X.K X.mg E rPopAt oPopAt := fun ω H cs v x vs ws ok rx rs Q h => by
  unfold oPopAt at h
  split at h
  · rename_i x ws i z
    cases hc : cs[i]? with
    | none => rw [hc] at h; exact (show False from h).elim
    | some c =>
      rw [hc] at h
      obtain ⟨a, e1, rfl⟩ := rx
      have q := ok.cell e1 hc
      cases c with
      | lst l =>
        dsimp only at h
        split at h
        · rename_i hz
          simp only [Bool.and_eq_true] at hz
          obtain ⟨hn, xs, h1, h2⟩ := q
          obtain ⟨u, rfl, r1⟩ := rs.one
          cases r1
          cases hj : seqIndex? z l.length with
          | none => rw [hj] at h; exact (show False from h).elim
          | some j =>
            rw [hj] at h
            dsimp only at h
            cases hw : l[j]? with
            | none => rw [hw] at h; exact (show False from h).elim
            | some w =>
              rw [hw] at h
              obtain ⟨y, hy, r2⟩ := h2.at hw
              refine ⟨a, xs, z, j, y, rfl, rfl, h1, of_decide_eq_true hz.1, of_decide_eq_true hz.2, by rw [h2.len]; exact hj, hy, ?_⟩
              exact h.okk (ok.setCell e1 hn h1 lst_plain ⟨hn, _, upd_same, h2.erase j⟩) _ r2
        · exact (show False from h).elim
      | dic l => exact (show False from h).elim
      | ins C l => exact (show False from h).elim
      | dead => exact (show False from h).elim
  · exact (show False from h).elim
theorem ev_append (ho : EV X E a f) (ha : EVA X E [e] ga) (hbase : attributeBase a "append" X.env (eval a X.env) = eval a X.env := by rfl)
    (hfew : ((backTo cpos (starEach [e] X.env)).all (fun x => !x.1) && (backToKw cpos (keywordEach [] X.env)).all (fun x => x.1.isSome) && decide (([e] : List Expr).length + ([] : List Keyword).length + (if ([] : List Keyword).isEmpty then 0 else 1) < 30)) = true := by rfl)
    (hline : (apos.endLine == cpos.line) = true := by rfl) (hs : starEach [e] X.env = (false, eval e X.env) :: starEach [] X.env := by rfl) :
    EV X E (.Call (.Attribute a "append" apos) [e] [] cpos) (eMeth okLst oAppend f ga) :=
  ev_bm PySem.F.plainAttrs_list PySem.F.slot_list_append PySem.F.type_list_append mt_append ty_lst mo_append ho ha hbase hfew hline hs rfl
theorem ev_popAt (ho : EV X E a f) (ha : EVA X E [e] ga) (hbase : attributeBase a "pop" X.env (eval a X.env) = eval a X.env := by rfl)
    (hfew : ((backTo cpos (starEach [e] X.env)).all (fun x => !x.1) && (backToKw cpos (keywordEach [] X.env)).all (fun x => x.1.isSome) && decide (([e] : List Expr).length + ([] : List Keyword).length + (if ([] : List Keyword).isEmpty then 0 else 1) < 30)) = true := by rfl)
    (hline : (apos.endLine == cpos.line) = true := by rfl) (hs : starEach [e] X.env = (false, eval e X.env) :: starEach [] X.env := by rfl) :
    EV X E (.Call (.Attribute a "pop" apos) [e] [] cpos) (eMeth okLst oPopAt f ga) :=
  ev_bm PySem.F.plainAttrs_list PySem.F.slot_list_pop PySem.F.type_list_pop mt_popAt ty_lst mo_popAt ho ha hbase hfew hline hs rfl
/-! dict cells -/
def putW {α : Type} (l : List (Key × α)) (k : Key) (w : α) : List (Key × α) := if (l.any fun p => decide (p.1 = k)) = true then l.map (fun p => if p.1 = k then (p.1, w) else p) else l ++ [(k, w)]
theorem RepWk.any {K : Frag} {ω : Wo} {vs : List (Key × V)} {ws : List (Key × Wv)} (r : RepWk K ω vs ws) (k : Key) : (vs.any fun p => decide (p.1 = k)) = ws.any fun p => decide (p.1 = k) := by
  induction r with
  | nil => rfl
  | cons _ _ ih => simp only [List.any_cons, ih]
theorem RepWk.map {K : Frag} {ω : Wo} {k : Key} {v : V} {w : Wv} {vs : List (Key × V)} {ws : List (Key × Wv)} (r : RepWk K ω vs ws) (h : RepW K ω v w) : RepWk K ω (vs.map fun p => if p.1 = k then (p.1, v) else p) (ws.map fun p => if p.1 = k then (p.1, w) else p) := by
  induction r with
  | nil => exact .nil
  | @cons k' v' vs' w' ws' h1 _ ih =>
    simp only [List.map_cons]
    by_cases e : k' = k
    · simp only [e, if_true]
      exact .cons h ih
    · simp only [e, if_false]
      exact .cons h1 ih
theorem RepWk.app {K : Frag} {ω : Wo} {vs us : List (Key × V)} {ws zs : List (Key × Wv)} (r : RepWk K ω vs ws) (q : RepWk K ω us zs) : RepWk K ω (vs ++ us) (ws ++ zs) := by
  induction r with
  | nil => exact q
  | cons h1 _ ih => exact .cons h1 ih
theorem RepWk.put {K : Frag} {ω : Wo} {k : Key} {v : V} {w : Wv} {vs : List (Key × V)} {ws : List (Key × Wv)} (r : RepWk K ω vs ws) (h : RepW K ω v w) : RepWk K ω (putK vs k v) (putW ws k w) := by
  unfold putK putW
  rw [r.any k]
  split
  · exact r.map h
  · exact r.app (.cons h .nil)
def mPut (x y w : Wv) : M Unit := fun cs => match x, y with
  | .cel k, .dat y => match cs[k]?, keyOf y with
    | some (.dic l), some key => if decide (l.length < 16777216) = true then .ok () (cs.set k (.dic (putW l key w))) else .bad
    | _, _ => .bad
  | _, _ => .bad
def sPut (fo fi fv : Ev) : Sv := fun env => M.bind (fv env) fun w => M.bind (fo env) fun x => M.bind (fi env) fun y => M.bind (mPut x y w) fun _ => M.ret (.nx env)
theorem sv_put {o i value : Expr} {fo fi fv : Ev} {pos' : Pos} (hu : X.A.units + 1 < cLine) (ho : EV X E o fo) (hi : EV X E i fi) (hv : EV X E value fv) (hs : swapsWith value (some (.Subscript o i pos')) pos.line X.env = pure false := by rfl) :
    SV X E (.Assign [.Subscript o i pos'] value pos) (sPut fo fi fv) := PS.imp (ps_dput hu ho hi hv hs) fun D σ H ⟨env, cs, ω, hst, hk, h⟩ =>
  ⟨env, cs, ω, hst, hk, h.bind.imp fun w ω1 cs1 H1 l1 k1 h1 v rv => ⟨env, cs1, ω1, hst.mono l1, k1, h1.bind.imp fun x ω2 cs2 H2 l2 k2 h2 u ru => ⟨env, cs2, ω2, hst.mono (l1.trans l2), k2, h2.bind.imp fun y ω3 cs3 H3 l3 k3 h3 t rt => by
    have h4 := h3.bind
    unfold mPut at h4
    split at h4
    · rename_i x y j d
      split at h4
      · rename_i l key hc hkey
        split at h4
        · rename_i hl
          have hl := of_decide_eq_true hl
          obtain ⟨a, e1, rfl⟩ := (ru.mono l3)
          obtain ⟨hn, xs, q1, q2⟩ := k3.cell e1 hc
          have et := keyOf_rep rt hkey
          subst et
          have rv3 : RepW X.K ω3 v w := rv.mono (l2.trans l3)
          have z := h4.okk (k3.setCell e1 hn q1 dK_plain ⟨hn, _, upd_same, q2.put (k := key) rv3⟩)
          exact ⟨a, _, rfl, DPut.k q1 (by rw [sizeLine_eq, q2.len]; exact hl), (z.now (k3.setCell e1 hn q1 dK_plain ⟨hn, _, upd_same, q2.put (k := key) rv3⟩)) σ (hst.mono ((l1.trans l2).trans l3))⟩
        · exact (show False from h4).elim
      · exact (show False from h4).elim
    · exact (show False from h4).elim⟩⟩⟩
/-! key in dict -/
theorem RepK.isS {K : Frag} {H : Hp} {k : Key} : ∀ {vs : List (Key × V)} {ds : List (Key × Dt)}, RepK K H vs ds → (valV vs k).isSome = (valK ds k).isSome
  | [], _, h => by cases h; rfl
  | (k0, v0) :: vs, _, h => by
    cases h with
    | @cons _ _ _ d0 ds0 h1 h2 =>
      have ih := h2.isS (k := k)
      unfold valV valK at ih ⊢
      rw [List.find?_cons, List.find?_cons]
      by_cases hk : k0 = k
      · simp [hk]
      · simp [hk]
        simpa using ih
theorem RepWk.isS {K : Frag} {ω : Wo} {k : Key} {vs : List (Key × V)} {ds : List (Key × Wv)} (h : RepWk K ω vs ds) : (valV vs k).isSome = (valK ds k).isSome := by
  induction h with
  | nil => rfl
  | @cons k0 v0 vs d0 ds h1 h2 ih =>
    unfold valV valK at ih ⊢
    rw [List.find?_cons, List.find?_cons]
    by_cases hk : k0 = k
    · simp [hk]
    · simp [hk]
      simpa using ih
def hasK (x y : Wv) (cs : List Cell) : Option Bool := match y, x with
  | .dat (.dic l), .dat d => (keyOf d).map fun k => (valK l k).isSome
  | .cel i, .dat d => match cs[i]? with
    | some (.dic l) => (keyOf d).map fun k => (valK l k).isSome
    | _ => none
  | _, _ => none
theorem hasK_use {K : Frag} {ω : Wo} {H : Hp} {cs : List Cell} {u v : V} {x y : Wv} {b : Bool} (k : Ok K ω H cs) (ru : RepW K ω u x) (rv : RepW K ω v y) (e : hasK x y cs = some b) : ∃ a o, v = .ref a ∧ DGet H a u o ∧ o.isSome = b := by
  unfold hasK at e
  split at e
  · rename_i l d
    cases hk : keyOf d with
    | none => rw [hk] at e; cases e
    | some key =>
      rw [hk] at e
      cases e
      cases (show RepD K ω.Hs v (.dic l) from rv) with
      | dic h1 h2 =>
        have et := keyOf_rep (show RepD K ω.Hs u d from ru) hk
        subst et
        exact ⟨_, _, rfl, DGet.k (k.ex _ _ h1), h2.isS⟩
  · rename_i i d
    cases hc : cs[i]? with
    | none => rw [hc] at e; cases e
    | some c =>
      rw [hc] at e
      cases c with
      | dic l =>
        cases hk : keyOf d with
        | none => rw [hk] at e; cases e
        | some key =>
          rw [hk] at e
          cases e
          obtain ⟨a, e1, rfl⟩ := rv
          obtain ⟨_, vs, h1, h2⟩ := k.cell e1 hc
          have et := keyOf_rep (show RepD K ω.Hs u d from ru) hk
          subst et
          exact ⟨_, _, rfl, DGet.k h1, h2.isS⟩
      | lst l => cases e
      | ins C l => cases e
      | dead => cases e
  · cases e
def eHas (neg : Bool) (f g : Ev) : Ev := fun env => M.bind (f env) fun x => M.bind (g env) fun y => fun cs => M.opt ((hasK x y cs).map fun b => .dat (.bl (if neg then !b else b))) cs
theorem has_use {σ : L2.St} {H : Hp} {Q : VK} (hh : tEv X.K X.mg E (eHas false f g) σ H Q) : tDIn (tEv X.K X.mg E f) (tEv X.K X.mg E g) σ H Q := by
  obtain ⟨env, cs, ω, hs, hk, h⟩ := hh
  refine ⟨env, cs, ω, hs, hk, h.bind.imp fun x ω1 cs1 H1 l1 k1 h1 u ru => ⟨env, cs1, ω1, hs.mono l1, k1, h1.bind.imp fun y ω2 cs2 H2 l2 k2 h2 v rv => ?_⟩⟩
  obtain ⟨b, e, h3⟩ := Out.map_some (h := fun b => Wv.dat (.bl (if false then !b else b))) (show Out X.K X.mg E ω2 (M.opt ((hasK x y cs2).map fun b => Wv.dat (.bl (if false then !b else b))) cs2) _ from h2)
  obtain ⟨a, o, ea, g, eo⟩ := hasK_use k2 (ru.mono l2) rv e
  exact ⟨a, o, ea, g, h3.now k2 _ (by rw [eo]; exact .bl b)⟩
theorem hasn_use {σ : L2.St} {H : Hp} {Q : VK} (hh : tEv X.K X.mg E (eHas true f g) σ H Q) : tDNotIn (tEv X.K X.mg E f) (tEv X.K X.mg E g) σ H Q := by
  obtain ⟨env, cs, ω, hs, hk, h⟩ := hh
  refine ⟨env, cs, ω, hs, hk, h.bind.imp fun x ω1 cs1 H1 l1 k1 h1 u ru => ⟨env, cs1, ω1, hs.mono l1, k1, h1.bind.imp fun y ω2 cs2 H2 l2 k2 h2 v rv => ?_⟩⟩
  obtain ⟨b, e, h3⟩ := Out.map_some (h := fun b => Wv.dat (.bl (if true then !b else b))) (show Out X.K X.mg E ω2 (M.opt ((hasK x y cs2).map fun b => Wv.dat (.bl (if true then !b else b))) cs2) _ from h2)
  obtain ⟨a, o, ea, g, eo⟩ := hasK_use k2 (ru.mono l2) rv e
  exact ⟨a, o, ea, g, h3.now k2 _ (by rw [eo]; exact .bl (!b))⟩
theorem ev_has (hu : X.A.units + 1 < cLine) (ha : EV X E a f) (hb : EV X E b g) (hm : behindInMarks .In b = false := by rfl) : EV X E (.Compare a [.In] [b] pos) (eHas false f g) := PE.imp (pe_cmp (pc_din hu ha hb) hm) fun _ _ _ h => has_use h
theorem ev_hasN (hu : X.A.units + 1 < cLine) (ha : EV X E a f) (hb : EV X E b g) (hm : behindInMarks .NotIn b = false := by rfl) : EV X E (.Compare a [.NotIn] [b] pos) (eHas true f g) := PE.imp (pe_cmp (pc_dnotin hu ha hb) hm) fun _ _ _ h => hasn_use h
theorem tB_test {t : TE} (i : ∀ σ H (Q : VK), tEv X.K X.mg E f σ H Q → t σ H Q) {σ : L2.St} {H : Hp} {Q : Bool → Hp → Prop} (h : tEvT X.K X.mg E (tCmpE f) σ H Q) : tB t σ H Q := by
  obtain ⟨env, cs, ω, hs, hk, h⟩ := h
  refine i σ H _ ⟨env, cs, ω, hs, hk, h.bind.imp fun x ω1 cs1 H1 l1 k1 h1 v rv => ?_⟩
  obtain ⟨b, rfl, h2⟩ := h1.asB
  cases (show RepD X.K ω1.Hs v (.bl b) from rv)
  exact ⟨b, rfl, h2.now k1⟩
theorem et_has (hu : X.A.units + 1 < cLine) (ha : EV X E a f) (hb : EV X E b g) (hm : behindInMarks .In b = false := by rfl) : EVT X E (.Compare a [.In] [b] pos) (tCmpE (eHas false f g)) := PT.imp (pt_cmp (pc_din hu ha hb) hm) fun _ _ _ h => tB_test (fun _ _ _ h => has_use h) h
theorem et_hasN (hu : X.A.units + 1 < cLine) (ha : EV X E a f) (hb : EV X E b g) (hm : behindInMarks .NotIn b = false := by rfl) : EVT X E (.Compare a [.NotIn] [b] pos) (tCmpE (eHas true f g)) := PT.imp (pt_cmp (pc_dnotin hu ha hb) hm) fun _ _ _ h => tB_test (fun _ _ _ h => hasn_use h) h
end
end DX

set_option Elab.async false
set_option linter.all false
set_option maxRecDepth 100000
set_option maxHeartbeats 2000000
/-! D10: dict displays; a caught exception kept; a call with a lambda. -/
namespace DX
open PySem PySem.Spec PyProof.Rows L2
variable [TabT]
/-! ### displays of dicts -/
section
variable {X : Cx} {E : XK} {e : Expr} {pos : Pos} {f : Ev}
def EVP (X : Cx) (E : XK) (pos : Pos) (ks : List (Option Expr)) (vs : List Expr) (l : List (Key × Ev)) : Prop := PPs X pos ks vs (l.map fun q => ((fun _ H Q => Q (kV q.1) H : TE), tEv X.K X.mg E q.2))
theorem ep_nil : EVP X E pos [] [] [] := pps_nil
theorem ep_str {ks : List (Option Expr)} {vs : List Expr} {l : List (Key × Ev)} {s : Str} {j : Nat} {p : Pos} (h : EV X E e f) (r : EVP X E pos ks vs l) : EVP X E pos (some (.Constant (.str s) j p) :: ks) (e :: vs) ((.inr s, f) :: l) := pps_cons pe_str h r
theorem ep_int {ks : List (Option Expr)} {vs : List Expr} {l : List (Key × Ev)} {s : Int} {j : Nat} {p : Pos} (h : EV X E e f) (r : EVP X E pos ks vs l) : EVP X E pos (some (.Constant (.int s) j p) :: ks) (e :: vs) ((.inl s, f) :: l) := pps_cons pe_int h r
def mVals : List (Key × Ev) → En → M (List (Key × Wv))
  | [], _ => M.ret []
  | (k, f) :: l, env => M.bind (f env) fun w => M.bind (mVals l env) fun r => M.ret ((k, w) :: r)
theorem pairs_use {K : Frag} {mg : MG} {σ : L2.St} {env : En} : ∀ (l : List (Key × Ev)) {ω : Wo} {H : Hp} {cs : List Cell} {G : List (Key × Wv) → Wo → List Cell → Hp → Prop} {R : List (V × V) → Hp → Prop}, StRep K ω σ env → Ok K ω H cs → Out K mg E ω (mVals l env cs) G →
    (∀ kws ω' cs' H', Le ω ω' → Ok K ω' H' cs' → kws.map (·.1) = l.map (·.1) → G kws ω' cs' H' → ∀ vs, RepWk K ω' vs kws → R (vs.map fun q => (kV q.1, q.2)) H') → tPairs (l.map fun q => ((fun _ H Q => Q (kV q.1) H : TE), tEv K mg E q.2)) σ H R
  | [], ω, H, cs, G, R, hs, hk, h, hr => hr [] ω cs H (Le.refl _) hk rfl (h.now hk) [] .nil
  | (k, f) :: l, ω, H, cs, G, R, hs, hk, h, hr => by
    refine ⟨env, cs, ω, hs, hk, (Out.bind h).imp fun w ω1 cs1 H1 l1 k1 h1 v rv => ?_⟩
    refine pairs_use l (hs.mono l1) k1 (Out.bind h1) fun kws ω2 cs2 H2 l2 k2 hk2 h2 vs rvs => ?_
    exact hr ((k, w) :: kws) ω2 cs2 H2 (l1.trans l2) k2 (by simp [hk2]) (h2.now k2) ((k, v) :: vs) (.cons (rv.mono l2) rvs)
theorem putK_newk {vs : List (Key × V)} {k : Key} {v : V} (h : k ∉ vs.map (·.1)) : putK vs k v = vs ++ [(k, v)] := by
  unfold putK
  have e : (vs.any fun q => decide (q.1 = k)) = false := by
    rw [List.any_eq_false]
    intro q hq
    simp only [decide_eq_true_eq]
    exact fun z => h (List.mem_map.mpr ⟨q, hq, z⟩)
  rw [e]
  rfl
theorem merge_nodup : ∀ (vs acc : List (Key × V)), ((acc ++ vs).map (·.1)).Nodup → mergeK acc vs = acc ++ vs
  | [], acc, _ => by simp [mergeK]
  | (k, v) :: vs, acc, h => by
    have nk : k ∉ acc.map (·.1) := fun z => by
      rw [List.map_append, List.nodup_append] at h
      exact h.2.2 k z k (by simp) rfl
    show mergeK (putK acc k v) vs = _
    rw [putK_newk nk, merge_nodup vs (acc ++ [(k, v)]) (by simpa using h)]
    simp
def keysOk (l : List (Key × Ev)) : Bool := decide ((l.map (·.1)).Nodup)
theorem RepWk.keys {K : Frag} {ω : Wo} {vs : List (Key × V)} {ws : List (Key × Wv)} (r : RepWk K ω vs ws) : vs.map (·.1) = ws.map (·.1) := by
  induction r with
  | nil => rfl
  | cons _ _ ih => simp [ih]
abbrev EvK := En → M (List (Key × Wv))
/-- a new dict -/
def tEvK (K : Frag) (mg : MG) (E : XK) (f : EvK) : TE := fun σ H Q => ∃ env cs ω, StRep K ω σ env ∧ Ok K ω H cs ∧ Out K mg E ω (f env cs) fun ws ω' _ H' => ∀ p vs, H' p = none → RepWk K ω' vs ws → Q (.ref p) (upd H' p (.dK vs))
theorem hide_upd {H : Hp} {p : Addr} {o : HO} : upd (hide H p) p o = upd H p o := by
  funext b
  by_cases hb : b = p
  · rw [hb, upd_same, upd_same]
  · rw [upd_ne hb, upd_ne hb, hide_ne hb]
theorem Out.underH {K : Frag} {mg : MG} {ω ω2 : Wo} {fr0 : Hp} {α : Type} {r : R α} {F : α → Wo → List Cell → Hp → Prop} (h : Out K mg E ω r F) (l : Le ω (ω2.back fr0)) (sub : ∀ a o, fr0 a = some o → ω2.fr a = some o) : Out K mg E ω2 r (fun a ω' cs' H' => ∀ H'', Ok K (ω'.back fr0) H'' cs' → F a (ω'.back fr0) cs' H'') := by
  have le : ∀ {ω'}, Le ω2 ω' → Le ω (ω'.back fr0) := fun {ω'} l2 => ⟨l.ex.trans l2.ex, l.ad.trans l2.ad, l2.tb.trans l.tb, l.fr⟩
  cases r with
  | ok a cs => exact fun ω' H' l2 k2 H'' k'' => h _ H'' (le l2) k''
  | exc x cs => exact fun C ω' H' m l2 k2 => h C _ H' m (le l2) (k2.back fun a o e => by rw [l2.fr]; exact sub a o e)
  | bad => exact h
theorem ek_dict {ks : List (Option Expr)} {vs : List Expr} {l : List (Key × Ev)} (h : EVP X E pos ks vs l) (hall : ks.all (·.isSome) = true) (hl : ks.length = vs.length) (h0 : ks ≠ []) (h15 : ks.length ≤ 15) (hl15 : l.length ≤ 15) (hn : keysOk l = true) : PE X (.Dict ks vs pos) (tEvK X.K X.mg E (mVals l)) :=
  PE.imp (pe_disp h hall hl h0 h15) fun σ H Q ⟨env, cs, ω, hs, hk, h⟩ p hp => by
    have hkp := hk.keep (o := .dK []) hp
    have fp : ω.fr p = none := hk.frx.back hp
    refine pairs_use l (hs.fr _ : StRep X.K (ω.keep p (.dK [])) σ env) hkp (Out.underH (ω := ω) (ω2 := ω.keep p (.dK [])) (fr0 := ω.fr) h (Le.refl _) fun a o e => by show upd _ _ _ a = _; rw [upd_ne (ne_of_none e fp)]; exact e) fun kws ω3 cs3 H3 l3 k3 hkk h3 vs rv => ?_
    have e3 : ω3.fr = upd ω.fr p (.dK []) := l3.fr
    have hfp : ω3.fr p = some (.dK []) := by rw [e3, upd_same]
    have hH : H3 p = some (.dK []) := k3.frx p _ hfp
    have kd := k3.drop hfp e3 fp
    have nd : (vs.map (·.1)).Nodup := by
      rw [rv.keys, hkk]
      exact of_decide_eq_true hn
    refine ⟨hH, vs, rfl, ?_, ?_⟩
    · have := rv.len
      have h2 := congrArg List.length hkk
      simp only [List.length_map] at h2
      omega
    · rw [merge_nodup vs [] (by simpa using nd)]
      have z := h3 (hide H3 p) kd p vs hide_same (rv.fr ω.fr)
      rw [hide_upd] at z
      simpa using z
def datK : List (Key × Wv) → Option (List (Key × Dt))
  | [] => some []
  | (k, .dat d) :: l => (datK l).map ((k, d) :: ·)
  | (_, .cel _) :: _ => none
theorem RepWk.datK {K : Frag} {ω : Wo} : ∀ {vs : List (Key × V)} {ws : List (Key × Wv)} {ds : List (Key × Dt)}, RepWk K ω vs ws → datK ws = some ds → RepK K ω.Hs vs ds
  | _, [], _, h, e => by cases h; cases e; exact .nil
  | _, (k, .dat d) :: ws, _, h, e => by
    cases h with
    | cons h1 h2 =>
      have e : (DX.datK ws).map ((k, d) :: ·) = some _ := e
      cases q : DX.datK ws with
      | none => rw [q] at e; cases e
      | some es =>
        rw [q] at e
        cases e
        exact .cons h1 (h2.datK q)
  | _, (k, .cel _) :: ws, _, h, e => by cases e
def eDicC (l : List (Key × Ev)) : Ev := fun env => M.bind (mVals l env) fun ws => mCell (.dic ws)
def eDic (l : List (Key × Ev)) : Ev := fun env => M.bind (mVals l env) fun ws => M.bind (M.opt (datK ws)) fun ds => M.ret (.dat (.dic ds))
theorem ev_dicC {ks : List (Option Expr)} {vs : List Expr} {l : List (Key × Ev)} (h : EVP X E pos ks vs l) (hall : ks.all (·.isSome) = true := by rfl) (hl : ks.length = vs.length := by rfl) (h0 : ks ≠ [] := by exact List.cons_ne_nil _ _) (h15 : ks.length ≤ 15 := by decide) (hl15 : l.length ≤ 15 := by exact of_decide_eq_true rfl) (hn : keysOk l = true := by decide +kernel) :
    EV X E (.Dict ks vs pos) (eDicC l) := PE.imp (ek_dict h hall hl h0 h15 hl15 hn) fun σ H Q ⟨env, cs, ω, hs, hk, h⟩ => ⟨env, cs, ω, hs, hk, h.bind.imp fun ws ω1 cs1 H1 l1 k1 h1 p vs hp rv => by
      have h1 : Out X.K X.mg E ω1 (.ok (Wv.cel cs1.length) (cs1 ++ [Cell.dic ws])) _ := h1
      have hc : CellAt X.K (ω1.more p) (upd H1 p (.dK vs)) p (.dic ws) := ⟨⟨k1.ex.back hp, k1.frx.back hp⟩, vs, upd_same, rv.mono Le.more⟩
      refine h1 _ _ Le.more (k1.more hp hc) _ ⟨p, ?_, rfl⟩
      show (ω1.ad ++ [p])[cs1.length]? = some p
      rw [k1.len, List.getElem?_append_right (Nat.le_refl _)]
      simp⟩
theorem RepK.mono' {K : Frag} {H H' : Hp} (e : Ex H H') {ds : List (Key × Dt)} {vs : List (Key × V)} (h : RepK K H vs ds) : RepK K H' vs ds := RepK.mono e ds vs h
theorem ev_dic {ks : List (Option Expr)} {vs : List Expr} {l : List (Key × Ev)} (h : EVP X E pos ks vs l) (hall : ks.all (·.isSome) = true := by rfl) (hl : ks.length = vs.length := by rfl) (h0 : ks ≠ [] := by exact List.cons_ne_nil _ _) (h15 : ks.length ≤ 15 := by decide) (hl15 : l.length ≤ 15 := by exact of_decide_eq_true rfl) (hn : keysOk l = true := by decide +kernel) :
    EV X E (.Dict ks vs pos) (eDic l) := PE.imp (ek_dict h hall hl h0 h15 hl15 hn) fun σ H Q ⟨env, cs, ω, hs, hk, h⟩ => ⟨env, cs, ω, hs, hk, h.bind.imp fun ws ω1 cs1 H1 l1 k1 h1 p vs hp rv => by
      obtain ⟨ds, e, h2⟩ := Out.opt h1.bind
      exact (h2.now k1) _ _ (Le.froze k1 hp) (k1.froze hp) _ (.dic upd_same ((rv.datK e).mono' (Le.froze (o := HO.dK vs) k1 hp).ex))⟩
theorem ev_dic0 : EV X E (.Dict [] [] pos) (fun _ => M.ret (.dat (.dic []))) := PE.imp pe_dnewK fun σ H Q ⟨env, cs, ω, hs, hk, h⟩ p hp => h _ _ (Le.froze hk hp) (hk.froze hp) _ (.dic upd_same .nil)
theorem ev_dic0C : EV X E (.Dict [] [] pos) (fun _ => mCell (.dic [])) := PE.imp pe_dnewK fun σ H Q ⟨env, cs, ω, hs, hk, h⟩ p hp => by
  have h : Out X.K X.mg E ω (.ok (Wv.cel cs.length) (cs ++ [Cell.dic []])) _ := h
  have hc : CellAt X.K (ω.more p) (upd H p (.dK [])) p (.dic []) := ⟨⟨hk.ex.back hp, hk.frx.back hp⟩, [], upd_same, .nil⟩
  refine h _ _ Le.more (hk.more hp hc) _ ⟨p, ?_, rfl⟩
  show (ω.ad ++ [p])[cs.length]? = some p
  rw [hk.len, List.getElem?_append_right (Nat.le_refl _)]
  simp
end
/-! ### a call with a lambda -/
theorem Ok.extN {K : Frag} {ω : Wo} {H H1 : Hp} {cs : List Cell} (k : Ok K ω H cs) (e : LamX.ExtN H H1) (t : LamX.Tabs TabT.T H1) : Ok K ω H1 cs := by
  have nt : ∀ {o : HO}, NoTbl o → ∀ ps, o ≠ .tbl ps := fun {o} h ps z => by rw [z] at h; exact h
  refine ⟨fun a o h => e a o (k.ex a o h) (nt (k.nt a o h)), k.len, k.nd, fun i a c e1 e2 => ?_, t, fun a o h => e a o (k.frx a o h) (nt (k.nf a o h)), k.dj, k.nt, k.nf⟩
  have q := k.cel i a c e1 e2
  cases c with
  | lst ws => obtain ⟨h0, vs, h1, h2⟩ := q; exact ⟨h0, vs, e a _ h1 (fun ps z => nomatch z), h2⟩
  | dic ws => obtain ⟨h0, vs, h1, h2⟩ := q; exact ⟨h0, vs, e a _ h1 (fun ps z => nomatch z), h2⟩
  | ins C ws => obtain ⟨h0, dx, vs, h1, h2⟩ := q; exact ⟨h0, dx, vs, e a _ h1 (fun ps z => nomatch z), h2⟩
  | dead => exact q
def mCaught (L : List (Str × Addr)) (m : M Wv) : M Wv := fun cs => match m cs with
  | .ok _ cs' => .ok (.dat .non) cs'
  | .exc x cs' => match L.lookup x with
    | some C => .ok (.dat (.exn C)) cs'
    | none => .bad
  | .bad => .bad
def eCaught (L : List (Str × Addr)) (f : Ev) : Ev := fun env => mCaught L (f env)
/-- what the def that catches makes of the lambda's reading -/
def tCaught (K : Frag) (cT : Value) : (XK → Hp → VK → Prop) → Hp → VK → Prop := fun tl H Q =>
  tl (fun cls d H' => d = none ∧ ∃ C, cls = .ref C ∧ PySem.W.exmOne K cls cT = some true ∧ ∀ a, H' a = none → Q (.ref a) (upd H' a (ExT C a))) H fun _ H' => Q .non H'
theorem caught_use {K : Frag} {mg : MG} {E : XK} {L : List (Str × Addr)} {f : Ev} {cT : Value} (hL : ∀ x C, L.lookup x = some C → mg x = some (.ref C) ∧ PySem.W.exmOne K (.ref C) cT = some true) {σ : L2.St} {H : Hp} {Q : VK} (hh : tEv K mg E (eCaught L f) σ H Q) :
    LamX.tLam TabT.T (tCaught K cT) (fun E => tEv K mg E f) σ H Q := by
  obtain ⟨env, cs, ω, hs, hk, h⟩ := hh
  refine ⟨hk.tab, fun H1 eN t1 => ⟨env, cs, ω, hs, hk.extN eN t1, ?_⟩⟩
  have h : Out K mg E ω (mCaught L (f env) cs) _ := h
  unfold mCaught at h
  cases hf : f env cs with
  | ok w cs' =>
    rw [hf] at h
    exact fun ω' H' l k v _ => h ω' H' l k .non .non
  | exc x cs' =>
    rw [hf] at h
    dsimp only at h
    cases hl : L.lookup x with
    | none => rw [hl] at h; exact (show False from h).elim
    | some C =>
      rw [hl] at h
      obtain ⟨m1, m2⟩ := hL x C hl
      intro C' ω' H' m' l k
      rw [m1] at m'
      cases m'
      exact ⟨rfl, C, rfl, m2, fun a ha => h (ω'.froze a (ExT C a)) (upd H' a (ExT C a)) (l.trans (Le.froze k ha)) (k.froze ha) _ (.exn upd_same)⟩
  | bad => rw [hf] at h; exact h
end DX

set_option Elab.async false
set_option linter.all false
set_option maxRecDepth 100000
set_option maxHeartbeats 2000000
/-! D11: a caught exception is kept in a name. -/
namespace DX
open PySem PySem.Spec PyProof.Rows L2
variable [TabT]
section
variable {X : Cx} {pins : List (Addr × Obj)} {σ : L2.St} {H : Hp} {s : Shared}
theorem extT_ok {P : Program} {w : World} {H : Hp} {h : Heap} {a C : Addr} {oe : Obj} {vs : Array Value} (e : h.get? a = some oe) (z : Zc (.ref C) none oe) (d : oe.data = .fields vs) : ObjOk P w H h a (ExT C a) :=
  ⟨⟨oe, vs, e, z, d⟩, ⟨oe, e⟩, fun _ _ ⟨o, v, q, r⟩ k => ⟨o, v, k o q, r⟩⟩
/-- an exception that came after the entry is looked at from now on -/
theorem Inv.track {a C : Addr} {oe : Obj} {vs : Array Value} (I : Inv X ((a, oe) :: pins) σ H s) (n0 : X.s_0.heap.get? a = none) (np : ∀ p ∈ X.pn ++ pins, p.1 ≠ a) (hz : Zc (.ref C) none oe) (hd : oe.data = .fields vs) : Inv X pins σ (upd H a (ExT C a)) s := by
  obtain ⟨e, hn, nL, nF, nC⟩ := I.pin (a, oe) (List.mem_append.mpr (.inr List.mem_cons_self))
  have e : s.heap.get? a = some oe := e
  have hn : H a = none := hn
  have ne : ∀ {b u}, H b = some u → b ≠ a := fun {b u} q => ne_of_none q hn
  refine ⟨I.ok, I.os, I.bare, ⟨I.base.keep, I.base.slot, fun b o q n hx => ?_, I.base.there, fun b xs q => ?_, fun b o u q => ?_, fun b ps q => ?_⟩, I.loc, I.cell, ?_, fun x c q => ?_, fun p hp => ?_, I.hok.laidN (fun _ _ z => z) hn (extT_ok e hz hd), I.len⟩
  · have hb : b ≠ a := fun z => by rw [z, n0] at q; cases q
    rw [upd_ne hb]
    exact I.base.free b o q n hx
  · have z := I.base.tups b xs q
    rw [upd_ne (ne z)]
    exact z
  · have z := I.base.frzs b o u q
    rw [upd_ne (ne z)]
    exact z
  · obtain ⟨m, z⟩ := I.base.tbls b ps q
    exact ⟨m, by rw [upd_ne (ne z)]; exact z⟩
  · rw [upd_ne (Ne.symm nL)]
    exact I.free
  · have hc : c ≠ a := fun z => by
      obtain ⟨v, ob, ho, hv⟩ := I.cell x c q
      rw [z, e] at ho
      cases ho
      exact nC v hv
    rw [upd_ne hc]
    exact I.freeC x c q
  · have hp2 : p ∈ X.pn ++ ((a, oe) :: pins) := (List.mem_append.mp hp).elim (fun z => List.mem_append.mpr (.inl z)) fun z => List.mem_append.mpr (.inr (List.mem_cons_of_mem _ z))
    obtain ⟨q1, q2, q3⟩ := I.pin p hp2
    exact ⟨q1, by rw [upd_ne (np p hp)]; exact q2, q3⟩
/-- what the clause 'except x as n: y = n' wishes of an exception of the body: slot i is n's, slot j is y's -/
def wKeep (K : Frag) (c : Value) (i j : Nat) (Wout : WX) (D : Ends) : WX := fun cls d σ H =>
  ∃ b, PySem.W.exmOne K cls c = some b ∧ (b = true → d = none ∧ ∃ C, cls = .ref C ∧ ∀ a, H a = none → D.nx (((σ.set i (some (.ref a))).set j (some (.ref a))).set i none) (upd H a (ExT C a))) ∧ (b = false → Wout cls d σ H)
theorem ps_try_keep {x n y : Str} {c : Value} {i j : Nat} {body : List Stmt} {np pn2 py p2 pos pos' : Pos} {tb : WX → TS} {Wout : WX} (hs : X.stack = X.env :: X.outer) (hf : X.env.frame = some X.env.locals) (hex : X.ex = []) (hN : X.N.Nodup) (hi : X.N[i]? = some n) (hln : X.env.scope.names.lookup n = some .local)
    (hj : X.N[j]? = some y) (hyl : X.env.scope.names.lookup y = some .local) (hij : i < X.N.length) (hc : Names X x c) (tk : Takes X Wout) (hdn : (n == ("__debug__" : Str)) = false) (hdc : (n == ("__classdict__" : Str)) = false)
    (hb : ∀ (W : WX) (pn : List (Addr × Obj)) (xe : Value → Shared → Prop), Takes (X.tr pn xe) W → PassesOwn (model X.prog X.w) X.A X.env xe → PSs (X.tr pn xe) body (tb W)) :
    PS X (.Try body [.ExceptHandler (some (.Name x np)) (some n) [.Assign [.Name y py] (.Name n pn2) p2] pos'] [] [] pos) (fun D σ H => tb (wKeep X.K c i j Wout D) D σ H) := by
  refine ⟨fun pins s σ H D I h => ?_⟩
  have okX := I.ok
  have frX : X.A.frames = some (X.env :: X.outer) := by rw [okX.frames, hs]
  refine wpAny_Try_except ?_
  refine wpAny_mono ((hb (wKeep X.K c i j Wout D) (X.pn ++ pins) (fun e s₁ => wpAny (model X.prog X.w) X.A (noteFrame e X.env) (fun _ s₂ => wpAny (model X.prog X.w) X.A (setFlight e none) (fun _ s₃ => wpAny (model X.prog X.w) X.A (handleBy e X.env [.ExceptHandler (some (.Name x np)) (some n) [.Assign [.Name y py] (.Name n pn2) p2] pos'])
    (SP X pins D) X.xe s₃) X.xe s₂) X.xe s₁) (fun u s' xx => ?_) PassesOwn.looking).run [] s σ H D (I.toTry _) h) (fun f s1 hsp => ?_) (fun e s1 he => he)
  · obtain ⟨a, B, sJ, pinsJ, σJ, HJ, cls, d, rfl, JT, nb, up, sky, na, os, ag, b, hb1, hyes, hno⟩ := xx
    have J : Inv X pins σJ HJ sJ := JT.ofTry okX
    have skyX : Sky B (X.env :: X.outer) a (Zc cls d) X.env.locals s'.heap := by rw [← hs]; exact sky
    show wpAny (model X.prog X.w) X.A (noteFrame (.ref a) X.env) _ _ _
    refine Sky.land Zc.steady frX hf skyX fun h3 fl3 up3 => ?_
    have J3 : Inv X pins σJ HJ { s' with heap := h3 } := J.landed nb fl3.1 (up.trans up3) os ag
    obtain ⟨oe3, vs3, he3, hz3, hd3⟩ := fl3.there
    have outFr : ∀ {h : Heap} {o : Obj} {vs : Array Value}, h.FunFrames B (X.env :: X.outer) → h.get? a = some o → o.data = .fields vs → a ∉ frs (X.env :: X.outer) := fun {h o vs} ff e dd hm => by
      obtain ⟨_, o', e', hnf⟩ := ff.mem hm
      rw [e] at e'
      cases e'
      exact hnf _ dd
    have nfr := outFr fl3.2.2.1 he3 hd3
    have nL : a ≠ X.env.locals := fun z => nfr (List.mem_filterMap.mpr ⟨X.env, List.mem_cons_self, by rw [hf, z]⟩)
    have nF : a ∉ X.fs := fun hm => by
      obtain ⟨e, he, q⟩ := List.mem_filterMap.mp hm
      exact nfr (List.mem_filterMap.mpr ⟨e, List.mem_cons_of_mem _ he, q⟩)
    have nB : B.get? a = none := fl3.2.1
    have nJ : sJ.heap.get? a = none := by
      cases q : sJ.heap.get? a with
      | none => rfl
      | some o =>
        have z := nb a o q (by rw [hs]; exact nfr)
        rw [nB] at z
        cases z
    have n0 : X.s_0.heap.get? a = none := by
      cases q : X.s_0.heap.get? a with
      | none => rfl
      | some o =>
        obtain ⟨o', z⟩ := J.base.there a o q (by rw [hex]; exact fun z => nomatch z)
        rw [nJ] at z
        cases z
    have nP : ∀ p ∈ X.pn ++ pins, p.1 ≠ a := fun p hp z => by
      have q := (J.pin p hp).1
      rw [z, nJ] at q
      cases q
    have S3 := J3.suite he3 hd3 na nL nF
    refine wpAny_handleBy_cons (codeAny_handlers_test ?_) (by intro q; cases q)
    have LT : PySem.W.Looks (model X.prog X.w) h3 (typeOf (.ref a)) cls := fun A Q E s k q => wpAny_typeOf_ref (k _ _ he3) (by rw [hz3.1]; exact q)
    have LM := PySem.W.exm_one (M := model X.prog X.w) (J3.kIn) LT hb1
    have testX : ∀ {Q : Value → Shared → Prop} {E : Value → Shared → Prop}, Q c { s' with heap := h3 } → wpAny (model X.prog X.w) (X.A.mark (some (.ref a))) (eval (.Name x np) X.env) Q E { s' with heap := h3 } := fun {Q E} q => by
      obtain ⟨hg, hdbg, hm | ⟨hm, hv, hnn⟩⟩ := hc
      · exact ld_glob (X := X.suite a ((a, oe3) :: (X.pn ++ pins))) S3 hg hm q hdbg
      · exact ld_blt (X := X.suite a ((a, oe3) :: (X.pn ++ pins))) S3 hg hm hv q hnn hdbg
    refine testX (LM.here ?_)
    cases b with
    | true =>
      obtain ⟨rfl, C, rfl, hgo⟩ := hyes rfl
      refine codeAny_handlers_suite_as ?_
      refine HandSPX.lands_againZ fl3 fun h4 fl4 up4 => ?_
      have J4 : Inv X pins σJ HJ { s' with heap := h4 } := J.landed nb fl4.1 ((up.trans up3).trans up4) os ag
      obtain ⟨oe4, vs4, he4, hz4, hd4⟩ := fl4.there
      have S4 := J4.suite he4 hd4 na nL nF
      refine store_ok (X := X.suite a ((a, oe4) :: (X.pn ++ pins))) (v := .ref a) S4 hN hi (.inl hln) rfl (fun s5 S5 => ?_) (.inr hln)
      have suiteOk : PSs (X.suite a ((a, oe4) :: (X.pn ++ pins))) [.Assign [.Name y py] (.Name n pn2) p2] (tAsg (tVar i) (gName j)) := pss_one (ps_set (X := X.suite a ((a, oe4) :: (X.pn ++ pins))) hN hj (.inl hyl) (pe_var hi (.inl hln) hdn hdc) (by rfl) (.inr hyl))
      have hiJ : i < σJ.length := by rw [J.len]; exact hij
      refine wpAny_mono (suiteOk.run [] s5 _ HJ { nx := fun σ6 H6 => σ6 = (σJ.set i (some (.ref a))).set j (some (.ref a)) ∧ H6 = HJ, rt := fun _ _ => False } S5 ⟨.ref a, List.getElem?_set_self hiJ, rfl, rfl⟩) (fun f s6 hsp => ?_) (fun _ _ z => False.elim z)
      cases f with
      | next =>
        obtain ⟨σ6, H6, S6, e1, e2⟩ := hsp
        subst e1 e2
        have U6 : Inv X pins _ H6 s6 := S6.unsuite okX
        have P6 : Inv X ((a, oe4) :: pins) _ H6 s6 := U6.pins_of fun p hp => (List.mem_cons.mp hp).elim (fun z => by rw [z]; exact S6.pin (a, oe4) (List.mem_append.mpr (.inl List.mem_cons_self))) fun z => U6.pin p (List.mem_append.mpr (.inr z))
        exact gone_ok P6 hN hi hln fun s7 J7 => ⟨_, _, Inv.track J7 n0 nP hz4 hd4, hgo a na⟩
      | brk => obtain ⟨_, _, _, q⟩ := hsp; exact False.elim q
      | cont => obtain ⟨_, _, _, q⟩ := hsp; exact False.elim q
      | ret u => obtain ⟨_, _, _, _, _, q⟩ := hsp; exact False.elim q
    | false =>
      show wpAny _ X.A (handleBy (.ref a) X.env []) _ _ _
      refine wpAny_handleBy_nil ?_
      obtain ⟨k1, k2, k3, oe, vs, T, oT, ts', he, hz, hd, h1, hr⟩ := id fl3
      unfold PySem.passOn
      refine wpAny_bind (wpAny_field he hd h1 ?_)
      rw [if_neg (show ¬ ((Value.ref T == Value.none) = true) from by simp)]
      have goOn : wpAny (model X.prog X.w) X.A (setFlight (.ref a) X.env.frame) (fun _ s4 => wpAny (model X.prog X.w) X.A (throw (.ref a) : Sem Flow) (SP X pins D) X.xe s4) X.xe { s' with heap := h3 } := by
        rw [hf]
        refine HandSPX.setFlight_upZ fl3 fun h4 hh4 up4 => wpAny_throw (tk _ _ ?_)
        exact ⟨a, B, sJ, pins, σJ, HJ, cls, d, rfl, J, nb, (up.trans up3).trans up4, .inr (.inr (by rw [hs]; exact hh4)), na, os, ag, hno rfl⟩
      first
        | exact wpAny_bind (wpAny_pure (wpAny_bind goOn))
        | exact wpAny_bind goOn
  · cases f with
    | next => obtain ⟨σ', H', J', q⟩ := hsp; exact wpAny_execs_nil ⟨σ', H', J'.ofTry okX, q⟩
    | brk => obtain ⟨σ', H', J', q⟩ := hsp; exact ⟨σ', H', J'.ofTry okX, q⟩
    | cont => obtain ⟨σ', H', J', q⟩ := hsp; exact ⟨σ', H', J'.ofTry okX, q⟩
    | ret u => obtain ⟨v, σ', H', J', r, q⟩ := hsp; exact ⟨v, σ', H', J'.ofTry okX, r, q⟩
theorem Takes.len {W : WX} (tk : Takes X W) : Takes X (fun cls d σ H => σ.length = X.N.length → W cls d σ H) := fun u s' ⟨a, B, sI, pins, σ, H, cls, d, e, I, nb, up, sky, na, os, ag, w⟩ => tk u s' ⟨a, B, sI, pins, σ, H, cls, d, e, I, nb, up, sky, na, os, ag, w I.len⟩
theorem caught_gives {Ng : List Str} {x a y n cT q : Str} {sg : Scope} {g CT : Addr} {cdg : Value} {j0 : Nat} {p1 p2 p3 p4 p5 p6 p7 p8 p9 p10 p11 p12 : Pos} (hNg : Ng = [a, y, n]) (hnd : Ng.Nodup) (hly : sg.names.lookup y = some .local) (hln : sg.names.lookup n = some .local)
    (hge : sg.names.lookup cT = some .globalImplicit) (hme : X.mg cT = some (.ref CT)) (hde : (cT == ("__debug__" : Str)) = false) (hdn : (n == ("__debug__" : Str)) = false) (hdc : (n == ("__classdict__" : Str)) = false) (hdy : (y == ("__debug__" : Str)) = false) (hdz : (y == ("__classdict__" : Str)) = false) :
    LamX.GivesTo X Ng x sg g cdg [.Assign [.Name y p1] (.Constant .none j0 p2) p3, .Try [.Expr (.Call (.Name a p4) [] [] p5) p5] [.ExceptHandler (some (.Name cT p6)) (some n) [.Assign [.Name y p7] (.Name n p8) p9] p10] [] [] p11, .Return (some (.Name y p12)) p12'] a q (tCaught X.K (.ref CT)) := by
  intro f c' s H Q tl act hc h
  subst hNg
  have hgl : Gl (cxOf C8.CX0 X.prog X.w X.K X.mg X.base [a, y, n] x sg g cdg X.A X.stack s H C8.E0).nox cT := hge
  refine ⟨_, pss_cons (ps_set (X := (cxOf C8.CX0 X.prog X.w X.K X.mg X.base [a, y, n] x sg g cdg X.A X.stack s H C8.E0).nox) (i := 1) hnd rfl (.inl hly) pe_non (by rfl) (.inr hly))
    (pss_cons (ps_try_keep (X := (cxOf C8.CX0 X.prog X.w X.K X.mg X.base [a, y, n] x sg g cdg X.A X.stack s H C8.E0).nox) (c := .ref CT) (i := 2) (j := 1) (Wout := fun _ _ _ _ => False)
      (tb := fun W D σ H => ∃ Ech : XK, (∀ cls d σ' H', Ech cls d H' → σ'.length = 3 → W cls d σ' H') ∧ σ[0]? = some (some (.ref f)) ∧ H c' = some (LamX.CodeO c' q) ∧ tl Ech H fun _ H' => D.nx σ H')
      rfl rfl rfl hnd rfl hln rfl hly (by show 2 < 3; decide) ⟨hgl, hde, .inl hme⟩ LamX.takes0 hdn hdc (fun W pn xe tk _ => ?_)) (pss_one (ps_ret (pe_var (i := 1) rfl (.inl hly) hdy hdz)))), ?_⟩
  · refine ⟨fun pins s' σ H' D I h' => ?_⟩
    obtain ⟨Ech, hW, h1, h2, h3⟩ := h'
    have hp := act (fun cls d σ H => σ.length = 3 → W cls d σ H) pn xe Ech p4 p5 (Takes.len tk) hW
    have hq := pss_one (ps_expr (pos := p5) hp)
    exact hq.run pins s' σ H' D I ⟨h1, h2, h3⟩
  · refine ⟨fun cls d H' => d = none ∧ ∃ C, cls = .ref C ∧ PySem.W.exmOne X.K cls (.ref CT) = some true ∧ ∀ a, H' a = none → Q (.ref a) (upd H' a (ExT C a)), fun cls d σ' H' ⟨hd, C, hC, e1, e2⟩ hl => ⟨true, e1, fun _ => ⟨hd, C, hC, fun b hb => ?_⟩, fun z => nomatch z⟩, rfl, hc, ?_⟩
    · match σ', hl with
      | [_, _, _], _ => exact ⟨.ref b, rfl, e2 b hb⟩
    · have eP : (fun (_ : V) (H' : Hp) => tRet (tVar 1) { nx := fun _ H' => Q V.non H', rt := Q } (List.set (L2.start [a, y, n] [V.ref f]) 1 (some V.non)) H') = fun _ H' => Q .non H' := by
        funext v H'
        refine propext ⟨fun ⟨x, e, q⟩ => ?_, fun q => ⟨.non, rfl, q⟩⟩
        have e : some (some V.non) = some (some x) := e
        cases e
        exact q
      exact eP ▸ h
/-- x(lambda: body): what is raised becomes the value -/
theorem ev_lamcall {E : XK} {x a cT : Str} {g c P CT : Addr} {k : Nat} {pg : Arguments} {bg : List Stmt} {sg : Scope} {dV kV doc pm cdv ct oc : Value} {an od : Option Addr} {osl : Array (Option Value)} {Ng : List Str} {L : List (Str × Addr)} {fb : Ev}
    {params : Arguments} {body : Expr} {scope : Scope} {p lpos pos : Pos} (hg : Gl X x) (hm : X.mg x = some (.ref g)) (hk : PySem.W.keepIn X.K (.ref g) = true)
    (lk : X.K.lookup g = some ⟨oc, od, .func (PySem.W.fnOf x x pg bg sg dV kV doc pm an cdv ct), osl⟩) (hcg : PySem.W.codeIn X.K cdv x = true) (hb : L2.Binds X.K (PySem.W.fnOf x x pg bg sg dV kV doc pm an cdv ct) [a] []) (Sg : FnScope Ng [a] sg) (hNg : Ng[0]? = some a) (hva : Vis sg a)
    (hG : LamX.GivesTo X Ng x sg g cdv bg a (X.env.qual ++ "<lambda>") (tCaught X.K (.ref CT))) (hL : ∀ x C, L.lookup x = some C → X.mg x = some (.ref C) ∧ PySem.W.exmOne X.K (.ref C) (.ref CT) = some true)
    (TB : LamX.TabB X.base X.mg c P) (hcode : X.env.code = .ref c) (hmT : (P, X.env.qual ++ "<lambda>") ∈ TabT.T) (hu : ∀ p ∈ TabT.T, p.1 = P → p.2 = X.env.qual ++ "<lambda>") (hr : Room (k + 2) X.A) (LS : LamX.LamS X.env.scope scope) (hdef : defaultsOf params X.env = ([], []))
    (hbind : ∀ (q : Str) (cl : List (Str × Addr)) (pm cv ctv : Value), bindArgs (PySem.W.kla_fn "<lambda>" q params body scope cl pm cv ctv) ⟨[], []⟩ = pure [])
    (hbody : ∀ (A : Around) (outer : List Env) (s : Shared) (H : Hp) (E : XK) (f c' : Addr), Room k (A.deeper (LamX.lamEnv X scope s.heap.objs.size f c')) → EV (LamX.lamCx X A outer s H E scope f c') E body fb)
    (hdb : (x == ("__debug__" : Str)) = false := by decide) (hd : (a == ("__debug__" : Str)) = false := by decide) (hcd : (a == ("__classdict__" : Str)) = false := by decide) :
    EV X E (.Call (.Name x p) [.Lambda params body scope lpos] [] pos) (eCaught L fb) :=
  PE.imp (LamX.pe_lamcall (t := fun E => tEv X.K X.mg E fb) hg hm hk lk hcg hb Sg hNg hva hG TB hcode hmT hu hr LS hdef hbind (fun A outer s H E f c' hr2 => hbody A outer s H E f c' hr2) hdb hd hcd) fun σ H Q h => caught_use hL h
/-! ### isinstance of what was caught -/
def oIsX (K : Frag) (ws : List Wv) (_ : List Cell) : Option Dt := match ws with
  | [.dat (.exn D), .dat (.op (.ref C))] => (PySem.W.kitOne K (.ref D) (.ref C)).map .bl
  | [.dat .non, .dat (.op (.ref C))] => (PySem.W.kitOne K (.type "NoneType") (.ref C)).map .bl
  | _ => none
def rIsX (K : Frag) : List V → Hp → VK → Prop := fun xs H Q => ∃ (x : V) (t cv : Value) (C : Addr) (b : Bool), xs = [x, .ref C] ∧ cv = .ref C ∧ ((x = .non ∧ t = .type "NoneType") ∨ ∃ a D, x = .ref a ∧ H a = some (ExT D a) ∧ t = .ref D ∧ ExcC K D) ∧ PySem.W.kitOne K t cv = some b ∧ Q (.bl b) H
theorem call_isX : CallR X (.builtin "isinstance") (rIsX X.K) := by
  intro pins s σ H xs us Q I r h
  obtain ⟨x, t, cv, C, b, rfl, rfl, hx, e, q⟩ := h
  cases r with
  | cons rx rr =>
    cases rr with
    | cons rt rr =>
      cases rr
      cases rt
      rcases hx with ⟨rfl, rfl⟩ | ⟨a, D, rfl, ha, rfl, hC⟩
      · cases rx
        exact PySem.W.kia_one PySem.W.kitx_none I.kIn True.intro e (fun z => nomatch z) fun tk => ⟨.bl b, H, I.kept (t' := tk) fun _ _ z => z, rfl, q⟩
      · cases rx
        obtain ⟨⟨oe, vs, he, hz, hv⟩, _, _⟩ := I.hok a _ ha
        have J : PySem.W.InstAt s.heap a oe D none := by
          obtain ⟨oc, od, oda, osl⟩ := oe
          obtain ⟨h1, h2⟩ := hz
          dsimp only at h1 h2 hv
          subst h1 h2 hv
          exact ⟨he, rfl, rfl, trivial⟩
        exact PySem.W.kia_one (PySem.W.handS_kitx_exc hC.hg hC.hk hC.hs hC.hd hC.ha hC.hn hC.ht hC.hm) I.kIn J e (fun z => nomatch z) fun tk => ⟨.bl b, H, I.kept (t' := tk) fun _ _ z => z, rfl, q⟩
/-- Ds: the classes of exceptions that may have been caught -/
def oIsXD (K : Frag) (Ds : List Addr) (ws : List Wv) (cs : List Cell) : Option Dt := match ws with
  | .dat (.exn D) :: _ => if decide (D ∈ Ds) = true then oIsX K ws cs else none
  | _ => oIsX K ws cs
theorem co_isX {K : Frag} {Ds : List Addr} (hD : ∀ D ∈ Ds, ExcC K D) : CallO K (rIsX K) (oIsXD K Ds) := fun ω H cs vs ws z k rv e Q q => by
  unfold oIsXD at e
  split at e
  · rename_i D rest
    split at e
    · rename_i hh
      have hh := of_decide_eq_true hh
      unfold oIsX at e
      split at e
      · rename_i D' C heq
        injection heq with h1 h2
        injection h1 with h1
        injection h1 with h1
        subst h1 h2
        obtain ⟨v, u, rfl, r1, r2⟩ := rv.two
        cases r1 with
        | exn ha =>
          cases r2
          cases hk : PySem.W.kitOne K (.ref D) (.ref C) with
          | none => rw [hk] at e; cases e
          | some b =>
            rw [hk] at e
            cases e
            exact ⟨_, _, _, C, b, rfl, rfl, .inr ⟨_, D, rfl, k.ex _ _ ha, rfl, hD D hh⟩, hk, q ω H _ (Le.refl _) k (.bl _)⟩
      · rename_i heq
        injection heq with h1 h2
        injection h1 with h1
        cases h1
      · cases e
    · cases e
  · unfold oIsX at e
    split at e
    · rename_i D C hne
      exact absurd rfl (hne D _)
    · rename_i C hne
      obtain ⟨v, u, rfl, r1, r2⟩ := rv.two
      cases r1
      cases r2
      cases hk : PySem.W.kitOne K (.type "NoneType") (.ref C) with
      | none => rw [hk] at e; cases e
      | some b =>
        rw [hk] at e
        cases e
        exact ⟨_, _, _, C, b, rfl, rfl, .inl ⟨rfl, rfl⟩, hk, q ω H _ (Le.refl _) k (.bl _)⟩
    · cases e
end
end DX

set_option Elab.async false
set_option linter.all false
set_option maxRecDepth 100000
set_option maxHeartbeats 2000000
/-! D12: the end of a law row. -/
namespace DX
open PySem PySem.Spec PyProof.Rows L2
theorem caller_guards : callerA.guards = some [] := rfl
/-- from an abstract heap in which only the tables and, perhaps, the script are looked at -/
theorem law_core [TabT] {P : Program} {w : World} {K : Frag} {mg mb : MG} {k : Nat} {fa a : Addr} {cs : List (Addr × Addr)} {fd : FuncData} {x : Str} {m : Fn} {s1 : Shared} {vs : List Value} {ns : List Int} {H : Hp}
    (KX : K.In s1.heap) (nsG : s1.heap.Ns mainGlobals mg) (nsB : s1.heap.Ns builtinsNs mb) (hbb : ∀ x : Str, x ≠ "__name__" → mb x = bootBuiltins x) (hlim : s1.heap.NoLimit) (hgen : s1.gens = #[])
    (tabO : ∀ p ∈ cs, s1.heap.get? p.2 = some { cls := .none, data := .fields #[] }) (tabK : ∀ p ∈ cs, K.lookup p.2 = none) (codeO : ∀ p ∈ cs, PySem.W.CodeHd s1.heap p.1 p.2)
    (hbm : ∃ (bm : Addr) (ob : Obj), mg "__builtins__" = some (.ref bm) ∧ bm ≠ builtinsNs ∧ s1.heap.get? bm = some ob ∧ ob.cls = .type "module" ∧ ob.dict = some builtinsNs ∧ ob.data = .plain)
    (obA : s1.heap.get? a = some { cls := .type "list", data := .seq vs.toArray }) (hr : Room k callerA) (hTT : ∀ p ∈ TabT.T, p.1 ∈ cs.map (·.2))
    (F : ∀ base : Heap, K.In base → base.Ns mainGlobals mg → (∀ p ∈ cs, LamX.TabB base mg p.1 p.2) → FnG P w K mg base true k fa fd [x] m) (bindA : ∀ (s : Shared) (u : Value), BindsTo s fd ⟨[u], []⟩ [(x, u)])
    (hm : ∃ cs', m [.dat (.scr ns)] [] = .ok (.dat (.bl true)) cs')
    (tabH : ∀ p ∈ cs, H p.2 = some (.tbl #[])) (onlyH : ∀ b, H b = none ∨ b ∈ cs.map (·.2) ∨ ∃ o xs, H b = some (.frz o (.lst xs))) (seqH : SqL K H a (ns.map V.int)) (okH : HOk P w H s1.heap) (atH : ∀ b, H b ≠ none → b = a ∨ b ∈ cs.map (·.2)) (keyH : H a ≠ none → K.lookup a = none) :
    codeAny (model P w) callerA (.call (.ref fa) ⟨[.ref a], []⟩) (fun r s' => r = .ok (.ret (.bool true)) ∧ OldK s1.heap s'.heap ∧ s'.os = s1.os ∧ AllBare s'.gens) s1 := by
  have isTab : ∀ b : Addr, b ∈ cs.map (·.2) → s1.heap.get? b = some { cls := .none, data := .fields #[] } := fun b hb => by
    obtain ⟨p, hp, e⟩ := List.mem_map.mp hb
    exact e ▸ tabO p hp
  have inTab : ∀ p ∈ cs, p.2 ∈ cs.map (·.2) := fun p hp => List.mem_map.mpr ⟨p, hp, rfl⟩
  have aOut : a ∉ cs.map (·.2) := fun z => by
    have q := isTab a z
    rw [obA] at q
    have z' : Data.seq vs.toArray _ = Data.fields #[] := congrArg Obj.data (Option.some.inj q)
    cases z'
  have baseOf : ∀ {b : Addr} {o : Obj}, s1.heap.get? b = some o → H b = none → (hidT s1.heap H).get? b = some o := fun e n => hidT_get e n
    -- what is neither a list's nor an empty table's object is not looked at
  have free1 : ∀ {b : Addr} {o : Obj}, s1.heap.get? b = some o → (∀ vs n, o.data ≠ .seq vs n) → o.data ≠ .fields #[] → H b = none := fun {b o} e q1 q2 => by
    cases q : H b with
    | none => rfl
    | some u =>
      rcases atH b (by rw [q]; simp) with h | h
      · rw [h, obA] at e
        cases e
        exact absurd rfl (q1 _ _)
      · rw [isTab b h] at e
        cases e
        exact absurd rfl q2
  have free2 : ∀ {b : Addr} {o : Obj} {es : Array DictEntry} {ep : Nat}, s1.heap.get? b = some o → o.data = .dict es ep → H b = none := fun {b o es ep} e d =>
    free1 e (fun vs n z => by rw [d] at z; cases z) (fun z => by rw [d] at z; cases z)
  have nsOf : ∀ {b : Addr} {mm : MG}, s1.heap.Ns b mm → (hidT s1.heap H).Ns b mm := fun {b mm} ⟨o, es, ep, e, d, r⟩ => ⟨o, es, ep, baseOf e (free2 e d), d, r⟩
  have KB : K.In (hidT s1.heap H) := fun b o e => baseOf (KX b o e) (by
    cases q : H b with
    | none => rfl
    | some u =>
      rcases atH b (by rw [q]; simp) with h | h
      · rw [h] at e q
        rw [keyH (by rw [q]; simp)] at e
        cases e
      · obtain ⟨p, hp, ep⟩ := List.mem_map.mp h
        rw [← ep, tabK p hp] at e
        cases e)
  have modB : L2.Mod K mg (hidT s1.heap H) := ⟨KB, nsOf nsG, ⟨mb, nsOf nsB, hbb⟩, let ⟨mc, q1, q2⟩ := hlim; ⟨mc, nsOf q1, q2⟩⟩
  have tabB : ∀ p ∈ cs, LamX.TabB (hidT s1.heap H) mg p.1 p.2 := fun p hp => by
    have hTp := tabO p hp
    refine ⟨?_, ?_, fun z => ?_⟩
    · obtain ⟨o, us, file, tf, flags, tg, inF, text, tt, e1, r1, r2, r3, r4, r5, r6, r7, r8, hne⟩ := codeO p hp
      exact ⟨o, us, file, tf, flags, tg, inF, text, tt, baseOf e1 (free1 e1 (fun vs n z => by rw [r2] at z; cases z) fun z => by rw [r2] at z; cases z; simp at r3), r1, r2, r3, r4, r5, r6, r7, r8, hne⟩
    · obtain ⟨bm, ob, b1, b2, b3, b4, b5, b6⟩ := hbm
      have nG : bm ≠ mainGlobals := fun q => by
        obtain ⟨o, es, ep, e, hd, _⟩ := nsG
        rw [q, e] at b3
        cases b3
        rw [hd] at b6
        cases b6
      have nP : bm ≠ p.2 := fun q => by
        rw [q, hTp] at b3
        cases b3
        cases b6
      exact ⟨bm, ob, b1, b2, nG, nP, baseOf b3 (free1 b3 (fun vs n z => by rw [b6] at z; cases z) fun z => by rw [b6] at z; cases z), b4, b5, b6⟩
    · obtain ⟨o, es, ep, e, hd, _⟩ := nsG
      rw [z, hTp] at e
      cases e
      cases hd
  have env0 : Env0 P w K mg (hidT s1.heap H) callerA [] s1 H := ⟨rfl, modB, fun b o e => of_hidT e, Nat.le_of_eq (hidT_size _ _), trivial, fun b hb => absurd (show b ∈ ([] : List Addr) from hb) (by simp), okH, .of_eq hgen⟩
  have okW : Ok K ⟨fun b => if b ∈ cs.map (·.2) then none else H b, [], [], fun _ => none⟩ H [] := by
    refine ⟨fun b o e => ?_, rfl, List.nodup_nil, fun i b c e => by simp at e, fun p hp => ?_, fun b o e => (by cases e), fun b o e => (by cases e), fun b o e => ?_, fun b o e => (by cases e)⟩
    · have e : (if b ∈ cs.map (·.2) then none else H b) = some o := e
      split at e
      · cases e
      · exact e
    · obtain ⟨q, hq, eq⟩ := List.mem_map.mp (hTT p hp)
      exact LamX.TabS.nil (by rw [← eq]; exact tabH q hq)
    · have e : (if b ∈ cs.map (·.2) then none else H b) = some o := e
      split at e
      · cases e
      · rcases onlyH b with z | z | ⟨ob, xs, z⟩
        · rw [z] at e; cases e
        · contradiction
        · rw [z] at e; cases e; exact True.intro
  have repA : RepW K ⟨fun b => if b ∈ cs.map (·.2) then none else H b, [], [], fun _ => none⟩ (.ref a) (.dat (.scr ns)) := by
    refine RepD.scr ?_
    have ea : (fun b => if b ∈ cs.map (·.2) then none else H b) a = H a := if_neg aOut
    rcases seqH with (h | ⟨o, h⟩) | h
    · exact .inl (.inl (ea.trans h))
    · exact .inl (.inr ⟨o, ea.trans h⟩)
    · exact .inr h
  obtain ⟨cs', hm⟩ := hm
  refine codeAny_mono ((F _ KB (nsOf nsG) tabB).run callerA [] s1 H ⟨[.ref a], []⟩ [.ref a] [.ref a] (fun v _ => v = .bl true) (fun _ _ _ => False) _ [] [.dat (.scr ns)] hr (fun _ => caller_guards) env0 (bindA s1 (.ref a)) (.cons rfl .nil) rfl okW (.cons repA .nil) ?_) fun r s' h => ?_
  · rw [hm]
    intro ω' H' l k v r
    cases (show RepD K ω'.Hs v (.bl true) from r)
    rfl
  cases r with
  | error e =>
    obtain ⟨_, _, _, _, _, _, _, _, _, _, _, _, z⟩ := h
    exact z.elim
  | ok fl =>
    cases fl with
    | next => exact False.elim h
    | brk => exact False.elim h
    | cont => exact False.elim h
    | ret u =>
      obtain ⟨v, H', os, bare, un, hok', r', q⟩ := h
      have q' : v = .bl true := q
      subst q'
      obtain rfl : u = Value.bool true := r'
      have stays : ∀ b o, b ∉ cs.map (·.2) → s1.heap.get? b = some o → s'.heap.get? b = some o := fun b o nb e => by
        cases q : H b with
        | none => exact un.keep b o e q (fun z => absurd (show b ∈ ([] : List Addr) from z) (by simp)) (by simp)
        | some u =>
          rcases onlyH b with z | z | ⟨ob, xs, z⟩
          · rw [q] at z; cases z
          · exact absurd z nb
          · have z2 := un.frzs b ob _ z
            obtain ⟨e1, _⟩ := okH b _ z
            obtain ⟨e2, _⟩ := hok' b _ z2
            rw [e] at e1
            cases e1
            exact e2
      have grew : ∀ p ∈ cs, ∃ more : Array Value, s'.heap.get? p.2 = some { cls := .none, data := .fields more } := fun p hp => by
        obtain ⟨more, z⟩ := un.tbls p.2 #[] (tabH p hp)
        exact ⟨_, hok' p.2 _ z⟩
      refine ⟨rfl, ⟨fun b o e => ?_, fun b o e => ?_⟩, os, bare⟩
      · by_cases hb : b ∈ cs.map (·.2)
        · obtain ⟨p, hp, ep⟩ := List.mem_map.mp hb
          obtain ⟨more, hmm⟩ := grew p hp
          subst ep
          rw [tabO p hp] at e
          cases e
          exact .inr (.inl ⟨((codeO p hp).tab (tabO p hp)).isCodeTable, rfl, #[], more, rfl, by rw [Array.empty_append]; exact hmm⟩)
        · exact .inl (stays b o hb e)
      · by_cases hb : b ∈ cs.map (·.2)
        · obtain ⟨p, hp, ep⟩ := List.mem_map.mp hb
          obtain ⟨more, hmm⟩ := grew p hp
          exact ep ▸ ⟨_, hmm⟩
        · exact ⟨o, stays b o hb e⟩
/-- what is known of the law behind the head -/
def LawG (l : PySem.W.OpenLaw) (w : World) (K : Frag) (k n : Nat) (x : Str) (mg : MG) (fa : Addr) (h : Heap) : Prop :=
  ∃ (TT : TabT) (fd : FuncData) (cs : List (Addr × Addr)) (m : Fn), (∀ p ∈ TT.T, p.1 ∈ cs.map (·.2)) ∧ (∀ p ∈ cs, h.get? p.2 = some { cls := .none, data := .fields #[] }) ∧ (∀ p ∈ cs, K.lookup p.2 = none) ∧ (∀ p ∈ cs, PySem.W.CodeHd h p.1 p.2) ∧ (∀ (s : Shared) (u : Value), BindsTo s fd ⟨[u], []⟩ [(x, u)]) ∧
    (∀ ns : List Int, ns.length ≤ n → (∀ z ∈ ns, Builtin.Int.intBits z ≤ 1048576) → ∃ cs', m [.dat (.scr ns)] [] = .ok (.dat (.bl true)) cs') ∧ ∀ base : Heap, K.In base → base.Ns mainGlobals mg → (∀ p ∈ cs, LamX.TabB base mg p.1 p.2) → @FnG TT l.prog w K mg base true k fa fd [x] m
theorem walkG {l : PySem.W.OpenLaw} {n k : Nat} {q : Program} {loose : List Str} {XP : (Str → Option Value) → Heap → Prop} {YP : World → Heap → Prop} {d : DefRec} {K : Params → Frag} {x : Str}
    (hn : l.most = some n) (hn2 : n ≤ sizeLine) (hdf : d.params.defaults = []) (hr : Room k callerA) (hY : ∀ (w : World) (h : Heap), YP w h → (K w.params).In h)
    (F : ∀ (w : World) (mg : MG) (fa : Addr) (h : Heap), YP w h → (K w.params).In h → h.Ns mainGlobals mg → (∀ x c P d, (recsOf q).find? (fun e => e.name == x) = some d → PySem.W.tabIn (K w.params) x = some (c, P) → PySem.W.CodeHd h c P ∧ h.get? P = some { cls := .none, data := .fields #[] }) → mg d.name = some (.ref fa) → LawG l w (K w.params) k n x mg fa h) : PySem.W.WalkO q loose XP YP l.row.toRowW d [] (fun f vs => PySem.call f vs) := by
  refine Att.attach_callB hn hdf fun w s₀ s1 mg mb fa o pm cd doc a vs ns G Y ho hd hcd hmg obA hints hlen hbits hgen => ?_
  have KX := hY w _ Y
  obtain ⟨TT, fd, cs, m, hTT, tabO, tabK, codeO, bindA, hm, hF⟩ := F w mg fa _ Y KX G.T.g (fun x c P d h1 h2 => PySem.W.tab_of G.T KX h1 h2) hmg
  have rv := vals_ints hints
  have lenV := hints.length
  have isTab : ∀ b : Addr, b ∈ cs.map (·.2) → s1.heap.get? b = some { cls := .none, data := .fields #[] } := fun b hb => by
    obtain ⟨p, hp, e⟩ := List.mem_map.mp hb
    exact e ▸ tabO p hp
  have aOut : a ∉ cs.map (·.2) := fun z => by
    have q := isTab a z
    rw [obA] at q
    have z' : Data.seq vs.toArray _ = Data.fields #[] := congrArg Obj.data (Option.some.inj q)
    cases z'
  have hl : ns.length ≤ sizeLine := Nat.le_trans hlen hn2
  have core := fun (H : Hp) => @law_core TT l.prog w (K w.params) mg mb k fa a cs fd x m s1 vs ns H KX G.T.g G.T.b G.T.builtins G.T.nolimit hgen tabO tabK codeO G.T.bmain obA hr hTT hF bindA (hm ns hlen hbits)
  cases hk : (K w.params).lookup a with
  | some ob =>
    have e := KX a ob hk
    rw [obA] at e
    cases e
    refine core (fun b => if b ∈ cs.map (·.2) then some (.tbl #[]) else none) (fun p hp => if_pos (List.mem_map.mpr ⟨p, hp, rfl⟩)) (fun b => ?_) (.inr ⟨_, vs.toArray, _, hk, rfl, rfl, rfl, by rw [List.size_toArray, lenV]; exact hl, by simpa using rv⟩) (fun b u z => ?_) (fun b z => ?_) fun z => absurd (show (if a ∈ cs.map (·.2) then some (HO.tbl #[]) else none) = none from if_neg aOut) z
    · by_cases hb : b ∈ cs.map (·.2)
      · exact .inr (.inl hb)
      · exact .inl (if_neg hb)
    · by_cases hb : b ∈ cs.map (·.2)
      · cases (if_pos hb).symm.trans z
        exact isTab b hb
      · cases (if_neg hb).symm.trans z
    · by_cases hb : b ∈ cs.map (·.2)
      · exact .inr hb
      · exact absurd (if_neg hb) z
  | none =>
    refine core (fun b => if b = a then some (.frz { cls := .type "list", data := .seq vs.toArray } (.lst (ns.map V.int))) else if b ∈ cs.map (·.2) then some (.tbl #[]) else none) (fun p hp => ?_) (fun b => ?_) (.inl (.inr ⟨_, if_pos rfl⟩)) (fun b u z => ?_) (fun b z => ?_) fun _ => hk
    · have hm2 : p.2 ∈ cs.map (·.2) := List.mem_map.mpr ⟨p, hp, rfl⟩
      exact (if_neg fun (z : p.2 = a) => aOut (z ▸ hm2)).trans (if_pos hm2)
    · by_cases hb : b = a
      · exact .inr (.inr ⟨_, _, if_pos hb⟩)
      · by_cases hb2 : b ∈ cs.map (·.2)
        · exact .inr (.inl hb2)
        · exact .inl ((if_neg hb).trans (if_neg hb2))
    · by_cases hb : b = a
      · cases (if_pos hb).symm.trans z
        rw [hb]
        exact ⟨obA, by rw [List.length_map]; exact hl, vs, _, rv, obA⟩
      · have z1 := (if_neg hb).symm.trans z
        by_cases hb2 : b ∈ cs.map (·.2)
        · cases (if_pos hb2).symm.trans z1
          exact isTab b hb2
        · cases (if_neg hb2).symm.trans z1
    · by_cases hb : b = a
      · exact .inl hb
      · by_cases hb2 : b ∈ cs.map (·.2)
        · exact .inr hb2
        · exact absurd ((if_neg hb).trans (if_neg hb2)) z
end DX

set_option Elab.async false
set_option linter.all false
set_option maxRecDepth 100000
set_option maxHeartbeats 2000000
/-! D13: the rules in short. -/
namespace DX
open PySem PySem.Spec PyProof.Rows L2
variable [TabT]
section
variable {X : Cx} {E : XK} {a b c e e2 : Expr} {es : List Expr} {pos p : Pos} {f g h : Ev} {ga : EvA}
theorem b_len (hg : Gl X "len") (hm : X.mg "len" = none) (ha : EVA X E [e] ga) (he : starEach [e] X.env = (false, eval e X.env) :: starEach [] X.env := by rfl) : EV X E (.Call (.Name "len" p) [e] [] pos) (eCall oLen ga) := ev_len rfl hg hm ha he rfl
theorem b_abs (hg : Gl X "abs") (hm : X.mg "abs" = none) (ha : EVA X E [e] ga) (he : starEach [e] X.env = (false, eval e X.env) :: starEach [] X.env := by rfl) : EV X E (.Call (.Name "abs" p) [e] [] pos) (eCall (o1 dAbs) ga) := ev_callB call_abs co_abs hg hm boot_abs ha (by decide) (by decide) he rfl
theorem b_max2 (hc : X.calm = true) (hg : Gl X "max") (hm : X.mg "max" = none) (ha : EVA X E [e, e2] ga) (he : starEach [e, e2] X.env = (false, eval e X.env) :: starEach [e2] X.env := by rfl) (hpl : (backTo pos (starEach [e2] X.env)).any (·.1) = false := by rfl) : EV X E (.Call (.Name "max" p) [e, e2] [] pos) (eCall (o2 dMax2) ga) := ev_callB (call_max2 hc) co_max2 hg hm boot_max ha (by decide) (by decide) he hpl
theorem b_min2 (hc : X.calm = true) (hg : Gl X "min") (hm : X.mg "min" = none) (ha : EVA X E [e, e2] ga) (he : starEach [e, e2] X.env = (false, eval e X.env) :: starEach [e2] X.env := by rfl) (hpl : (backTo pos (starEach [e2] X.env)).any (·.1) = false := by rfl) : EV X E (.Call (.Name "min" p) [e, e2] [] pos) (eCall (o2 dMin2) ga) := ev_callB (call_min2 hc) co_min2 hg hm boot_min ha (by decide) (by decide) he hpl
theorem b_int (hg : Gl X "int") (hm : X.mg "int" = none) (ha : EVA X E [e] ga) (he : starEach [e] X.env = (false, eval e X.env) :: starEach [] X.env := by rfl) : EV X E (.Call (.Name "int" p) [e] [] pos) (eCall (o1 dInt1) ga) := ev_callTy call_int1 co_int1 hg hm boot_int ha (by decide) (by decide) he rfl
theorem b_str (hg : Gl X "str") (hm : X.mg "str" = none) (ha : EVA X E [e] ga) (he : starEach [e] X.env = (false, eval e X.env) :: starEach [] X.env := by rfl) : EV X E (.Call (.Name "str" p) [e] [] pos) (eCall (o1 dStr1) ga) := ev_callTy call_str_int co_str1 hg hm boot_str ha (by decide) (by decide) he rfl
theorem b_list (hg : Gl X "list") (hm : X.mg "list" = none) (ha : EVA X E [e] ga) (he : starEach [e] X.env = (false, eval e X.env) :: starEach [] X.env := by rfl) : EV X E (.Call (.Name "list" p) [e] [] pos) (eCall (oSeq dListOf .lst) ga) := ev_callTy call_list_of co_list hg hm boot_list ha (by decide) (by decide) he rfl
theorem b_tuple (hg : Gl X "tuple") (hm : X.mg "tuple" = none) (ha : EVA X E [e] ga) (he : starEach [e] X.env = (false, eval e X.env) :: starEach [] X.env := by rfl) : EV X E (.Call (.Name "tuple" p) [e] [] pos) (eCall (oSeq dTupOf .tup) ga) := ev_callTy call_tuple_of co_tuple hg hm boot_tuple ha (by decide) (by decide) he rfl
theorem b_repr (hgd : X.A.guards = some []) (hu : X.A.units + 66 < cLine) (hg : Gl X "repr") (hm : X.mg "repr" = none) (ha : EVA X E [e] ga) (he : starEach [e] X.env = (false, eval e X.env) :: starEach [] X.env := by rfl) : EV X E (.Call (.Name "repr" p) [e] [] pos) (eCall (o1 dRepr) ga) := ev_callB (cr_repr hgd hu) co_repr hg hm boot_repr ha (by decide) (by decide) he rfl
theorem b_isi (hg : Gl X "isinstance") (hm : X.mg "isinstance" = none) (ha : EVA X E [e, e2] ga) (he : starEach [e, e2] X.env = (false, eval e X.env) :: starEach [e2] X.env := by rfl) (hpl : (backTo pos (starEach [e2] X.env)).any (·.1) = false := by rfl) : EV X E (.Call (.Name "isinstance" p) [e, e2] [] pos) (eCall (o2 dIsi) ga) := ev_callB call_isi3 co_isi hg hm boot_isinstance ha (by decide) (by decide) he hpl
theorem b_isX {Ds : List Addr} (hD : ∀ D ∈ Ds, ExcC X.K D) (hg : Gl X "isinstance") (hm : X.mg "isinstance" = none) (ha : EVA X E [e, e2] ga) (he : starEach [e, e2] X.env = (false, eval e X.env) :: starEach [e2] X.env := by rfl) (hpl : (backTo pos (starEach [e2] X.env)).any (·.1) = false := by rfl) : EV X E (.Call (.Name "isinstance" p) [e, e2] [] pos) (eCall (oIsXD X.K Ds) ga) := ev_callB call_isX (co_isX hD) hg hm boot_isinstance ha (by decide) (by decide) he hpl
theorem b_sum (hc : X.calm = true) (hg : Gl X "sum") (hm : X.mg "sum" = none) (ha : EVA X E [e] ga) (he : starEach [e] X.env = (false, eval e X.env) :: starEach [] X.env := by rfl) : EV X E (.Call (.Name "sum" p) [e] [] pos) (eCall (o1 dSum) ga) := ev_callB (cr_sum hc) co_sum hg hm boot_sum ha (by decide) (by decide) he rfl
theorem b_any (hc : X.calm = true) (hg : Gl X "any") (hm : X.mg "any" = none) (ha : EVA X E [e] ga) (he : starEach [e] X.env = (false, eval e X.env) :: starEach [] X.env := by rfl) : EV X E (.Call (.Name "any" p) [e] [] pos) (eCall (o1 dAny) ga) := ev_callB (cr_any hc) co_any hg hm boot_any ha (by decide) (by decide) he rfl
theorem b_all (hc : X.calm = true) (hg : Gl X "all") (hm : X.mg "all" = none) (ha : EVA X E [e] ga) (he : starEach [e] X.env = (false, eval e X.env) :: starEach [] X.env := by rfl) : EV X E (.Call (.Name "all" p) [e] [] pos) (eCall (o1 dAll) ga) := ev_callB (cr_all hc) co_all hg hm boot_all ha (by decide) (by decide) he rfl
def oLe : Dt → Dt → Option Dt := dI0 fun i j => .bl (decide (i ≤ j))
def oLt : Dt → Dt → Option Dt := dI0 fun i j => .bl (decide (i < j))
theorem ch_le : OpR X (compareOp .LtE) (rI0 fun i j => .bl (decide (i ≤ j))) := op_le
theorem ch_lt : OpR X (compareOp .Lt) (rI0 fun i j => .bl (decide (i < j))) := op_lt
theorem tkOf {P : Program} {w : World} {K : Frag} {mg : MG} {base : Heap} {N : List Str} {qual : Str} {scope : Scope} {f : Addr} {cd : Value} {A : Around} {outer : List Env} {s : Shared} {H : Hp} {E : XK} : Takes (cxOf (L2.CX P w) P w K mg base N qual scope f cd A outer s H E) (fun cls d _ H => E cls d H) := takes_of rfl rfl rfl rfl
theorem psOf {P : Program} {w : World} {K : Frag} {mg : MG} {base : Heap} {N : List Str} {qual : Str} {scope : Scope} {f : Addr} {cd : Value} {A : Around} {outer : List Env} {s : Shared} {H : Hp} {E : XK} : Passes (L2.CX P w) (cxOf (L2.CX P w) P w K mg base N qual scope f cd A outer s H E) E := passes_call tkOf fun _ _ _ _ h => h
theorem owOf {P : Program} {w : World} {K : Frag} {mg : MG} {base : Heap} {N : List Str} {qual : Str} {scope : Scope} {f : Addr} {cd : Value} {A : Around} {outer : List Env} {s : Shared} {H : Hp} {E : XK} : PassesOwn (model P w) (cxOf (L2.CX P w) P w K mg base N qual scope f cd A outer s H E).A (cxOf (L2.CX P w) P w K mg base N qual scope f cd A outer s H E).env (cxOf (L2.CX P w) P w K mg base N qual scope f cd A outer s H E).xe := passes_of rfl
theorem psLam {X : Cx} {A : Around} {outer : List Env} {s : Shared} {H : Hp} {E : XK} {scope : Scope} {f c' : Addr} : Passes (L2.CX (LamX.lamCx X A outer s H E scope f c').prog (LamX.lamCx X A outer s H E scope f c').w) (LamX.lamCx X A outer s H E scope f c') E := passes_call (takes_of rfl rfl rfl rfl) fun _ _ _ _ h => h
end
theorem bindK {K : Frag} {x qual : Str} {st : Stmt} {f : Addr} {fd : FuncData} (F : Fun K x qual st f fd) {args : Args} {binds : List (Str × Value)} (h : ∀ (kV doc pm : Value) (an : Option Addr) (cdv ct : Value), bindArgs (PySem.W.fnOf x qual (defArgs st) (defBody st) (defScope st) .none kV doc pm an cdv ct) args = pure binds) (s : Shared) : BindsTo s fd args binds := by
  obtain ⟨oc, od, kV, doc, pm, an, cdv, ct, osl, rfl, lk, hcd⟩ := F.ex
  exact .of_eq (h kV doc pm an cdv ct)
abbrev bmV : List Value := [.type "ValueError", .type "Exception", .type "BaseException", .type "object"]
abbrev newV : String := "ValueError.__new__"
theorem Room.u1 {k : Nat} {A : Around} (r : Room k A) : A.units + 1 < cLine := by have := r.un; omega
theorem Room.u64 {k : Nat} {A : Around} (r : Room k A) : A.units + 64 < cLine := by have := r.un; omega
theorem Room.u65 {k : Nat} {A : Around} (r : Room k A) : A.units + 65 < cLine := by have := r.un; omega
theorem Room.u66 {k : Nat} {A : Around} (r : Room k A) : A.units + 66 < cLine := by have := r.un; omega
end DX

set_option Elab.async false
set_option linter.all false
set_option maxRecDepth 100000
set_option maxHeartbeats 2000000
/-! D14: what a reading computes, step by step, for simp. -/
namespace DX
open PySem PySem.Spec PyProof.Rows L2
def rb {α β : Type} (r : R α) (k : α → M β) : R β := match r with
  | .ok a cs => k a cs
  | .exc x cs => .exc x cs
  | .bad => .bad
theorem mb {α β : Type} (m : M α) (k : α → M β) (cs : List Cell) : M.bind m k cs = rb (m cs) k := by
  unfold M.bind rb
  cases m cs <;> rfl
section
variable {α β : Type} {a : α} {k : α → M β} {cs cs1 : List Cell} {e : Str} {p : Prop} [Decidable p] {r r' : R α}
theorem rb_ok : rb (.ok a cs) k = k a cs := (rfl)
theorem rb_exc : rb (.exc e cs : R α) k = .exc e cs := (rfl)
theorem rb_bad : rb (.bad : R α) k = .bad := (rfl)
theorem rb_ite : rb (if p then r else r') k = if p then rb r k else rb r' k := by split <;> rfl
theorem m_ret : M.ret a cs = .ok a cs := (rfl)
theorem m_badE : (M.bad : M α) cs = .bad := (rfl)
theorem m_opt : M.opt (some a) cs = .ok a cs := (rfl)
theorem m_optn : M.opt (none : Option α) cs = .bad := (rfl)
theorem m_ite {f g : M α} : (if p then f else g) cs = if p then f cs else g cs := by split <;> rfl
end
/-- a datum, if there is one -/
def rO (o : Option Dt) (cs : List Cell) : R Wv := match o with
  | some d => .ok (.dat d) cs
  | none => .bad
def rW (o : Option Wv) (cs : List Cell) : R Wv := match o with
  | some d => .ok d cs
  | none => .bad
section
variable {d x y z : Dt} {u v w : Wv} {cs cs1 : List Cell} {env env1 : En} {f g h : Ev} {p q : EvT} {i j l : Nat} {ga gb : EvA} {o o' : Dt → Dt → Option Dt} {s t : Sv} {r : En} {k b c : Bool} {pr : Prop} [Decidable pr] {ws vs : List Wv} {ds es : List Dt} {e : Str} {n m : Int}
theorem rO_some : rO (some d) cs = .ok (.dat d) cs := (rfl)
theorem rO_none : rO none cs = .bad := (rfl)
theorem rW_some : rW (some w) cs = .ok w cs := (rfl)
theorem rW_none : rW none cs = .bad := (rfl)
theorem rO_map (o : Option Dt) : M.opt (o.map Wv.dat) cs = rO o cs := by cases o <;> rfl
theorem rW_opt (o : Option Wv) : M.opt o cs = rW o cs := by cases o <;> rfl
theorem rW_map (o : Option Dt) : rW (o.map Wv.dat) cs = rO o cs := by cases o <;> rfl
/-! expressions -/
theorem s_var0 : eVar 0 (some w :: r) cs = .ok w cs := (rfl)
theorem s_varS {ow : Option Wv} : eVar (i + 1) (ow :: r) cs = eVar i r cs := (rfl)
theorem s_c : eC d env cs = .ok (.dat d) cs := (rfl)
def kBin (o : Dt → Dt → Option Dt) (g : Ev) (env : En) (x : Wv) : M Wv := M.bind (g env) fun y => liftB o x y
theorem s_bin : eBin o f g env cs = rb (f env cs) (kBin o g env) := mb _ _ _
theorem k_bin : kBin o g env u cs = rb (g env cs) (liftB o u) := mb _ _ _
theorem s_lift : liftB o (.dat x) (.dat y) cs = rO (o x y) cs := rO_map _
theorem s_un {o : Dt → Option Dt} : eUn o f env cs = rb (f env cs) (liftU o) := mb _ _ _
theorem s_liftU {o : Dt → Option Dt} : liftU o (.dat x) cs = rO (o x) cs := rO_map _
def kEq (neg : Bool) (g : Ev) (env : En) (x : Wv) : M Wv := M.bind (g env) fun y => fun cs => M.opt ((eqC neg x y cs).map .dat) cs
def kEq2 (neg : Bool) (x y : Wv) : M Wv := fun cs => M.opt ((eqC neg x y cs).map .dat) cs
theorem s_eqc : eEqC k f g env cs = rb (f env cs) (kEq k g env) := mb _ _ _
theorem k_eqc : kEq k g env u cs = rb (g env cs) (kEq2 k u) := mb _ _ _
theorem k_eqc2 : kEq2 k u v cs = rO (eqC k u v cs) cs := rO_map _
theorem eq_ii : eqC false (.dat (.int n)) (.dat (.int m)) cs = some (.bl (decide (n = m))) := by
  show some (Dt.bl (n == m)) = _
  congr 2
theorem ne_ii : eqC true (.dat (.int n)) (.dat (.int m)) cs = some (.bl (!decide (n = m))) := by
  show some (Dt.bl (!(n == m))) = _
  congr 3
theorem str_beq (a b : Str) : (a == b) = decide (a = b) := by
  rw [Bool.eq_iff_iff]; simp
theorem eq_ss {a b : Str} : eqC false (.dat (.str a)) (.dat (.str b)) cs = some (.bl (decide (a = b))) := by
  show some (Dt.bl (a == b)) = _
  rw [str_beq]
theorem ne_ss {a b : Str} : eqC true (.dat (.str a)) (.dat (.str b)) cs = some (.bl (!decide (a = b))) := by
  show some (Dt.bl (!(a == b))) = _
  rw [str_beq]
theorem eq_bb : eqC false (.dat (.bl b)) (.dat (.bl c)) cs = some (.bl (b == c)) := (rfl)
theorem ne_bb : eqC true (.dat (.bl b)) (.dat (.bl c)) cs = some (.bl (!(b == c))) := (rfl)
/-! tests -/
theorem s_cmpE : tCmpE f env cs = rb (f env cs) asB := mb _ _ _
theorem s_asB : asB (.dat (.bl b)) cs = .ok b cs := (rfl)
theorem s_tru : tTru f env cs = rb (f env cs) mTru := mb _ _ _
def rT (o : Option Bool) (cs : List Cell) : R Bool := match o with
  | some b => .ok b cs
  | none => .bad
theorem k_tru : mTru w cs = rT (wTru w cs) cs := by
  unfold mTru rT
  cases wTru w cs <;> rfl
theorem rT_some : rT (some b) cs = .ok b cs := (rfl)
theorem tru_d : wTru (.dat d) cs = dTru d := (rfl)
theorem tru_c : wTru (.cel i) cs = cTru cs[i]? := (rfl)
theorem dtru_bl : dTru (.bl b) = some b := (rfl)
theorem dtru_non : dTru .non = some false := (rfl)
theorem dtru_int : dTru (.int n) = some (n != 0) := (rfl)
theorem dtru_lst : dTru (.lst ds) = some (!ds.isEmpty) := (rfl)
theorem dtru_tup : dTru (.tup ds) = some (!ds.isEmpty) := (rfl)
def kAnd (q : EvT) (env : En) (k : Bool) : M Bool := if k = true then q env else M.ret false
def kOr (q : EvT) (env : En) (k : Bool) : M Bool := if k = true then M.ret true else q env
def kNot (k : Bool) : M Bool := M.ret (!k)
theorem s_and : tAnd' p q env cs = rb (p env cs) (kAnd q env) := mb _ _ _
theorem s_or : tOr' p q env cs = rb (p env cs) (kOr q env) := mb _ _ _
theorem s_not : tNot' p env cs = rb (p env cs) kNot := mb _ _ _
theorem k_and : kAnd q env b cs = if b = true then q env cs else .ok false cs := by unfold kAnd; cases b <;> rfl
theorem k_or : kOr q env b cs = if b = true then .ok true cs else q env cs := by unfold kOr; cases b <;> rfl
theorem k_not : kNot b cs = .ok (!b) cs := (rfl)
theorem s_yes : tYesE env cs = .ok true cs := (rfl)
theorem m_and : (if pr then R.ok c cs else R.ok false cs) = R.ok (decide pr && c) cs := by by_cases h : pr <;> simp [h]
theorem m_or : (if pr then R.ok true cs else R.ok c cs) = R.ok (decide pr || c) cs := by by_cases h : pr <;> simp [h]
def kEAnd (g : Ev) (env : En) (x : Wv) : M Wv := M.bind (mTru x) fun k => if k = true then g env else M.ret x
def kEAnd2 (g : Ev) (env : En) (x : Wv) (k : Bool) : M Wv := if k = true then g env else M.ret x
def kEOr (g : Ev) (env : En) (x : Wv) : M Wv := M.bind (mTru x) fun k => if k = true then M.ret x else g env
def kEOr2 (g : Ev) (env : En) (x : Wv) (k : Bool) : M Wv := if k = true then M.ret x else g env
def kENot (x : Wv) : M Wv := M.bind (mTru x) fun k => M.ret (.dat (.bl (!k)))
def kENot2 (k : Bool) : M Wv := M.ret (.dat (.bl (!k)))
theorem s_eand : eAnd f g env cs = rb (f env cs) (kEAnd g env) := mb _ _ _
theorem k_eand : kEAnd g env u cs = rb (mTru u cs) (kEAnd2 g env u) := mb _ _ _
theorem k_eand2 : kEAnd2 g env u b cs = if b = true then g env cs else .ok u cs := by unfold kEAnd2; cases b <;> rfl
theorem s_eor : eOr f g env cs = rb (f env cs) (kEOr g env) := mb _ _ _
theorem k_eor : kEOr g env u cs = rb (mTru u cs) (kEOr2 g env u) := mb _ _ _
theorem k_eor2 : kEOr2 g env u b cs = if b = true then .ok u cs else g env cs := by unfold kEOr2; cases b <;> rfl
theorem s_enot : eNot f env cs = rb (f env cs) kENot := mb _ _ _
theorem k_enot : kENot u cs = rb (mTru u cs) kENot2 := mb _ _ _
theorem k_enot2 : kENot2 b cs = .ok (.dat (.bl (!b))) cs := (rfl)
def kIf (f g : Ev) (env : En) (k : Bool) : M Wv := if k = true then f env else g env
theorem s_if : eIf p f g env cs = rb (p env cs) (kIf f g env) := mb _ _ _
theorem k_if : kIf f g env b cs = if b = true then f env cs else g env cs := by unfold kIf; cases b <;> rfl
theorem m_iteW : (if pr then R.ok u cs else R.ok v cs) = R.ok (if pr then u else v) cs := by split <;> rfl
theorem m_iteD : (if pr then Wv.dat x else Wv.dat y) = Wv.dat (if pr then x else y) := by split <;> rfl
theorem m_iteI : (if pr then Dt.int n else Dt.int m) = Dt.int (if pr then n else m) := by split <;> rfl
theorem m_iteB : (if pr then Dt.bl b else Dt.bl c) = Dt.bl (if pr then b else c) := by split <;> rfl
theorem m_iteAnd : (if pr then R.ok (Wv.dat (.bl c)) cs else R.ok (Wv.dat (.bl false)) cs) = R.ok (Wv.dat (.bl (decide pr && c))) cs := by by_cases h : pr <;> simp [h]
theorem m_iteOr : (if pr then R.ok (Wv.dat (.bl true)) cs else R.ok (Wv.dat (.bl c)) cs) = R.ok (Wv.dat (.bl (decide pr || c))) cs := by by_cases h : pr <;> simp [h]
theorem m_iteS {a b : Str} : (if pr then Dt.str a else Dt.str b) = Dt.str (if pr then a else b) := by split <;> rfl
/-! a chain of two comparisons -/
def kCh (o o' : Dt → Dt → Option Dt) (g h : Ev) (env : En) (x : Wv) : M Wv := M.bind (g env) fun y => M.bind (liftB o x y) fun z => M.bind (asB z) fun k => if k = true then M.bind (h env) fun w => liftB o' y w else M.ret (.dat (.bl false))
def kCh2 (o o' : Dt → Dt → Option Dt) (h : Ev) (env : En) (x y : Wv) : M Wv := M.bind (liftB o x y) fun z => M.bind (asB z) fun k => if k = true then M.bind (h env) fun w => liftB o' y w else M.ret (.dat (.bl false))
def kCh3 (o' : Dt → Dt → Option Dt) (h : Ev) (env : En) (y z : Wv) : M Wv := M.bind (asB z) fun k => if k = true then M.bind (h env) fun w => liftB o' y w else M.ret (.dat (.bl false))
def kCh4 (o' : Dt → Dt → Option Dt) (h : Ev) (env : En) (y : Wv) (k : Bool) : M Wv := if k = true then M.bind (h env) fun w => liftB o' y w else M.ret (.dat (.bl false))
theorem s_chain : eChain o o' f g h env cs = rb (f env cs) (kCh o o' g h env) := mb _ _ _
theorem k_ch : kCh o o' g h env u cs = rb (g env cs) (kCh2 o o' h env u) := mb _ _ _
theorem k_ch2 : kCh2 o o' h env u v cs = rb (liftB o u v cs) (kCh3 o' h env v) := mb _ _ _
theorem k_ch3 : kCh3 o' h env u v cs = rb (asB v cs) (kCh4 o' h env u) := mb _ _ _
theorem k_ch4 : kCh4 o' h env u b cs = if b = true then rb (h env cs) (liftB o' u) else .ok (.dat (.bl false)) cs := by
  unfold kCh4
  cases b
  · rfl
  · exact mb _ _ _
/-! arguments, displays -/
def kArg (g : EvA) (env : En) (x : Wv) : M (List Wv) := M.bind (g env) fun xs => M.ret (x :: xs)
def kArg2 (x : Wv) (xs : List Wv) : M (List Wv) := M.ret (x :: xs)
theorem s_anil : aNil env cs = .ok [] cs := (rfl)
theorem s_acons : aCons f ga env cs = rb (f env cs) (kArg ga env) := mb _ _ _
theorem k_arg : kArg ga env u cs = rb (ga env cs) (kArg2 u) := mb _ _ _
theorem k_arg2 : kArg2 u ws cs = .ok (u :: ws) cs := (rfl)
def rL (o : Option (List Dt)) (mk : List Dt → Dt) (cs : List Cell) : R Wv := match o with
  | some ds => if ds.length ≤ 16777216 then .ok (.dat (mk ds)) cs else .bad
  | none => .bad
def kTup (ws : List Wv) : M Wv := M.bind (mDats ws) fun ds => mLen ds (M.ret (.dat (.tup ds)))
def kLst (ws : List Wv) : M Wv := M.bind (mDats ws) fun ds => mLen ds (M.ret (.dat (.lst ds)))
theorem s_tup : eTup ga env cs = rb (ga env cs) kTup := mb _ _ _
theorem s_lst : eLst ga env cs = rb (ga env cs) kLst := mb _ _ _
theorem mlen_is {m : M Wv} : mLen ds m cs = if ds.length ≤ 16777216 then m cs else .bad := by
  unfold mLen szOk
  by_cases h : ds.length ≤ 16777216
  · rw [if_pos (decide_eq_true h), if_pos h]
  · rw [if_neg (by simpa using h), if_neg h]; rfl
theorem k_tup : kTup ws cs = rL (dats ws) .tup cs := by
  unfold kTup mDats
  rw [mb]
  cases dats ws with
  | none => rfl
  | some ds => exact mlen_is
theorem k_lst : kLst ws cs = rL (dats ws) .lst cs := by
  unfold kLst mDats
  rw [mb]
  cases dats ws with
  | none => rfl
  | some ds => exact mlen_is
theorem rL_some {mk : List Dt → Dt} (h : ds.length ≤ 16777216) : rL (some ds) mk cs = .ok (.dat (mk ds)) cs := (if_pos h)
theorem dats_nil : dats [] = some [] := (rfl)
theorem dats_cons : dats (.dat d :: ws) = (dats ws).map (d :: ·) := (rfl)
theorem opt_map_some {α β : Type} {f : α → β} {a : α} : (some a).map f = some (f a) := (rfl)
theorem opt_map_none {α β : Type} {f : α → β} : (none : Option α).map f = none := (rfl)
theorem opt_or_some {α : Type} {a : α} {o : Option α} : (some a).or o = some a := (rfl)
theorem opt_or_none {α : Type} {o : Option α} : (none : Option α).or o = o := (rfl)
theorem opt_bind_some {α β : Type} {f : α → Option β} {a : α} : (some a).bind f = f a := (rfl)
/-! subscripts, slices -/
def kIx (g : Ev) (env : En) (x : Wv) : M Wv := M.bind (g env) fun y => mIx x y
theorem s_ix : eIx f g env cs = rb (f env cs) (kIx g env) := mb _ _ _
theorem k_ix : kIx g env u cs = rb (g env cs) (mIx u) := mb _ _ _
theorem k_ix2 : mIx u v cs = rW (wIx u v cs) cs := rW_opt _
theorem wix_dd : wIx (.dat x) (.dat y) cs = (dIx x y).map .dat := (rfl)
theorem wix_cd : wIx (.cel i) (.dat y) cs = cIx cs[i]? y := (rfl)
theorem ix_t : dIx (.tup ds) (.int n) = atI ds n := (rfl)
theorem ix_l : dIx (.lst ds) (.int n) = atI ds n := (rfl)
theorem ix_s {a : Str} : dIx (.str a) (.int n) = strIx a n := (rfl)
theorem cix_l : cIx (some (.lst ws)) (.int n) = atI ws n := (rfl)
theorem cix_d {kw : List (Key × Wv)} : cIx (some (.dic kw)) y = (keyOf y).bind fun k => valK kw k := (rfl)
theorem ix_d {kw : List (Key × Dt)} : dIx (.dic kw) y = (keyOf y).bind fun k => valK kw k := (rfl)
theorem at_0 {α : Type} {a : α} {l : List α} : atI (a :: l) 0 = some a := by
  unfold L2.atI L2.ixN
  rw [if_pos (Int.le_refl 0), if_pos (by simp)]
  rfl
theorem at_ge {α : Type} {l : List α} {n : Int} (h : 0 ≤ n) : atI l n = l[n.toNat]? := by
  unfold L2.atI L2.ixN
  rw [if_pos h]
  by_cases h2 : n < l.length
  · rw [if_pos h2]; rfl
  · rw [if_neg h2, List.getElem?_eq_none (by omega)]; rfl
theorem at_1 {α : Type} {a a1 : α} {l : List α} : atI (a :: a1 :: l) 1 = some a1 := by rw [at_ge (by decide)]; rfl
theorem at_2 {α : Type} {a a1 a2 : α} {l : List α} : atI (a :: a1 :: a2 :: l) 2 = some a2 := by rw [at_ge (by decide)]; rfl
theorem at_nat {α : Type} {l : List α} {i : Nat} : atI l (i : Int) = l[i]? := by rw [at_ge (by omega)]; rfl
theorem at_m1 {α : Type} {l : List α} (h : l ≠ []) : atI l (-1) = l.getLast? := by
  have : 0 < l.length := List.length_pos_iff.mpr h
  unfold L2.atI L2.ixN
  rw [if_neg (by decide), if_pos (by omega)]
  show l[(-1 + (l.length : Int)).toNat]? = _
  rw [List.getLast?_eq_getElem?]
  congr 1
  omega
def kSl (lo hi : EvO) (env : En) (x : Wv) : M Wv := M.bind (lo env) fun l => M.bind (hi env) fun u => mSl x l u
def kSl2 (hi : EvO) (env : En) (x : Wv) (l : Option Int) : M Wv := M.bind (hi env) fun u => mSl x l u
theorem s_sl {lo hi : EvO} : eSl f lo hi env cs = rb (f env cs) (kSl lo hi env) := mb _ _ _
theorem k_sl {lo hi : EvO} : kSl lo hi env u cs = rb (lo env cs) (kSl2 hi env u) := mb _ _ _
theorem k_sl2 {hi : EvO} {l : Option Int} : kSl2 hi env u l cs = rb (hi env cs) (mSl u l) := mb _ _ _
theorem k_sl3 {l m : Option Int} : mSl u l m cs = rO (wSl u l m cs) cs := rO_map _
theorem s_onone : oNone env cs = .ok none cs := (rfl)
theorem s_osome : oSome f env cs = rb (f env cs) asI := mb _ _ _
theorem k_asI : asI (.dat (.int n)) cs = .ok (some n) cs := (rfl)
theorem sl_d {l m : Option Int} : wSl (.dat x) l m cs = dSl x l m := (rfl)
theorem sl_c {l m : Option Int} : wSl (.cel i) l m cs = cSl cs[i]? l m := (rfl)
theorem sl_l {l m : Option Int} : dSl (.lst ds) l m = some (.lst (cutL ds l m)) := (rfl)
theorem sl_t {l m : Option Int} : dSl (.tup ds) l m = some (.tup (cutL ds l m)) := (rfl)
theorem cut_hi {α : Type} {l : List α} (h : 0 ≤ n) : cutL l none (some n) = l.take n.toNat := by
  obtain ⟨k, rfl⟩ := Int.eq_ofNat_of_zero_le h
  unfold cutL
  rw [HT.sIx_nat, HT.sIx_none]
  simp only [List.drop_zero, Nat.sub_zero, Int.toNat_natCast]
  by_cases hk : k ≤ l.length
  · rw [Nat.min_eq_left hk]
  · rw [Nat.min_eq_right (by omega), List.take_length, List.take_of_length_le (by omega)]
theorem cut_lo {α : Type} {l : List α} (h : 0 ≤ n) : cutL l (some n) none = l.drop n.toNat := by
  obtain ⟨k, rfl⟩ := Int.eq_ofNat_of_zero_le h
  unfold cutL
  rw [HT.sIx_nat, HT.sIx_none]
  simp only [Int.toNat_natCast]
  by_cases hk : k ≤ l.length
  · rw [Nat.min_eq_left hk]
    exact List.take_of_length_le (by simp)
  · rw [Nat.min_eq_right (by omega), List.drop_length, List.drop_eq_nil_of_le (by omega)]
    simp
theorem cut_lh {α : Type} {l : List α} (h : 0 ≤ n) (h2 : 0 ≤ m) : cutL l (some n) (some m) = (l.take m.toNat).drop n.toNat := by
  obtain ⟨k, rfl⟩ := Int.eq_ofNat_of_zero_le h
  obtain ⟨j, rfl⟩ := Int.eq_ofNat_of_zero_le h2
  unfold cutL
  rw [HT.sIx_nat, HT.sIx_nat]
  simp only [Int.toNat_natCast]
  rw [List.drop_take]
  by_cases hk : k ≤ l.length
  · rw [Nat.min_eq_left hk]
    by_cases hj : j ≤ l.length
    · rw [Nat.min_eq_left hj]
    · rw [Nat.min_eq_right (by omega), List.take_of_length_le (by simp), List.take_of_length_le (by simp; omega)]
  · rw [Nat.min_eq_right (a := k) (by omega), List.drop_length, List.drop_eq_nil_of_le (as := l) (by omega)]
    simp
/-! calls -/
def kFn (n : Nat) (m : Fn) (ws : List Wv) : M Wv := if ws.length = n then m ws else M.bad
theorem s_fn {n : Nat} {m : Fn} : eFn n m ga env cs = rb (ga env cs) (kFn n m) := mb _ _ _
theorem kfn_of {n : Nat} {m : Fn} (h : ws.length = n) : kFn n m ws cs = m ws cs := by unfold kFn; rw [if_pos h]
theorem k_fn0 {m : Fn} : kFn 0 m [] cs = m [] cs := (rfl)
theorem k_fn1 {m : Fn} : kFn 1 m [u] cs = m [u] cs := (rfl)
theorem k_fn2 {m : Fn} : kFn 2 m [u, v] cs = m [u, v] cs := (rfl)
theorem k_fn3 {m : Fn} : kFn 3 m [u, v, w] cs = m [u, v, w] cs := (rfl)
theorem k_fn4 {m : Fn} {u1 : Wv} : kFn 4 m [u, v, w, u1] cs = m [u, v, w, u1] cs := (rfl)
theorem k_fn5 {m : Fn} {u1 u2 : Wv} : kFn 5 m [u, v, w, u1, u2] cs = m [u, v, w, u1, u2] cs := (rfl)
theorem k_fn6 {m : Fn} {u1 u2 u3 : Wv} : kFn 6 m [u, v, w, u1, u2, u3] cs = m [u, v, w, u1, u2, u3] cs := (rfl)
def kFnP (n : Nat) (π : List Nat) (m : Fn) (ws : List Wv) : M Wv := if ws.length = n ∧ (pickL π ws).length = n then m (pickL π ws) else M.bad
theorem s_fnp {n : Nat} {π : List Nat} {m : Fn} : eFnP n π m ga env cs = rb (ga env cs) (kFnP n π m) := mb _ _ _
theorem k_fnp1 {m : Fn} : kFnP 1 [0] m [u] cs = m [u] cs := (rfl)
theorem k_fnp2 {m : Fn} : kFnP 2 [0, 1] m [u, v] cs = m [u, v] cs := (rfl)
theorem k_fnp2r {m : Fn} : kFnP 2 [1, 0] m [u, v] cs = m [v, u] cs := (rfl)
theorem k_fnp3 {m : Fn} : kFnP 3 [0, 1, 2] m [u, v, w] cs = m [u, v, w] cs := (rfl)
def kCall (o : List Wv → List Cell → Option Dt) (ws : List Wv) : M Wv := fun cs => M.opt ((o ws cs).map .dat) cs
theorem s_call {o : List Wv → List Cell → Option Dt} : eCall o ga env cs = rb (ga env cs) (kCall o) := mb _ _ _
theorem k_call {o : List Wv → List Cell → Option Dt} : kCall o ws cs = rO (o ws cs) cs := rO_map _
theorem s_o1 {o : Dt → Option Dt} : o1 o [.dat d] cs = o d := (rfl)
theorem s_o2 : o2 o [.dat x, .dat y] cs = o x y := (rfl)
theorem len_d : oLen [.dat d] cs = dLen d := (rfl)
theorem len_c : oLen [.cel i] cs = cLen cs[i]? := (rfl)
theorem len_l : dLen (.lst ds) = some (.int ds.length) := (rfl)
theorem len_t : dLen (.tup ds) = some (.int ds.length) := (rfl)
theorem len_scr {l : List Int} : dLen (.scr l) = some (.int l.length) := (rfl)
theorem len_s {a : Str} (h : a.length ≤ 16777216) : dLen (.str a) = some (.int a.length) := if_pos (decide_eq_true h)
theorem clen_l : cLen (some (.lst ws)) = some (.int ws.length) := (rfl)
theorem int_i : dInt1 (.int n) = some (.int n) := (rfl)
theorem int_b : dInt1 (.bl b) = some (.int (if b = true then 1 else 0)) := (rfl)
theorem min_i : dMin2 (.int n) (.int m) = some (.int (min n m)) := by
  show some (Dt.int (if m < n then m else n)) = _
  congr 2
  split <;> omega
theorem max_i : dMax2 (.int n) (.int m) = some (.int (max n m)) := by
  show some (Dt.int (if m > n then m else n)) = _
  congr 2
  split <;> omega
theorem sq_dl {mk : List Dt → Dt} {o : Dt → Option Dt} : oSeq o mk [.dat d] cs = o d := (rfl)
theorem sq_cl {mk : List Dt → Dt} {o : Dt → Option Dt} : oSeq o mk [.cel i] cs = cSeq mk cs[i]? := (rfl)
theorem csq_l {mk : List Dt → Dt} : cSeq mk (some (.lst ws)) = (dats ws).map mk := (rfl)
theorem lof_t : dListOf (.tup ds) = some (.lst ds) := (rfl)
theorem lof_l : dListOf (.lst ds) = some (.lst ds) := (rfl)
theorem tof_t : dTupOf (.tup ds) = some (.tup ds) := (rfl)
theorem tof_l : dTupOf (.lst ds) = some (.tup ds) := (rfl)
def kMeth (ok : Wv → List Cell → Bool) (o : Wv → List Wv → M Wv) (g : EvA) (env : En) (x : Wv) : M Wv := fun cs => if ok x cs = true then M.bind (g env) (fun ws => o x ws) cs else .bad
theorem s_meth {ok : Wv → List Cell → Bool} {o : Wv → List Wv → M Wv} : eMeth ok o f ga env cs = rb (f env cs) (kMeth ok o ga env) := mb _ _ _
theorem k_meth {ok : Wv → List Cell → Bool} {o : Wv → List Wv → M Wv} (h : ok u cs = true) : kMeth ok o ga env u cs = rb (ga env cs) (o u) := by
  unfold kMeth
  rw [if_pos h]
  exact mb _ _ _
theorem k_meth_str {o : Wv → List Wv → M Wv} {a : Str} : kMeth okStr o ga env (.dat (.str a)) cs = rb (ga env cs) (o (.dat (.str a))) := k_meth rfl
theorem ok_str {a : Str} : okStr (.dat (.str a)) cs = true := (rfl)
theorem ok_lst (h : cs[i]? = some (.lst ws)) : okLst (.cel i) cs = true := by
  unfold okLst
  dsimp only
  rw [h]
theorem mt_str1 {kk : Str → Str → Option Dt} {a b : Str} : oStr1 kk (.dat (.str a)) [.dat (.str b)] cs = rO (kk a b) cs := rO_map _
theorem mt_join {a : Str} : oJoin (.dat (.str a)) [.dat (.lst ds)] cs = rO (kJoin a ds) cs := rO_map _
theorem append_of (h : cs[i]? = some (.lst ws)) (hl : ws.length < 16777216) : oAppend (.cel i) [u] cs = .ok (.dat .non) (cs.set i (.lst (ws ++ [u]))) := by
  unfold oAppend
  dsimp only
  rw [h]
  dsimp only
  rw [if_pos (decide_eq_true hl)]
/-! operators -/
theorem d_I0 {gI : Int → Int → Dt} : dI0 gI (.int n) (.int m) = some (gI n m) := (rfl)
theorem d_mod {gI : Int → Int → Dt} (h : 0 < m) : dI cMod gI (.int n) (.int m) = some (gI n m) := if_pos (decide_eq_true h)
theorem d_div {gI : Int → Int → Dt} (h : 0 < m) (h2 : m < 1073741824) : dI cDiv gI (.int n) (.int m) = some (gI n m) := if_pos (by unfold cDiv; simp only [Bool.and_eq_true, decide_eq_true_eq]; exact ⟨h, h2⟩)
theorem d_pow {gI : Int → Int → Dt} (h : 0 ≤ m) (h2 : m ≤ 1000000) (h3 : -18446744073709551616 < n) (h4 : n < 18446744073709551616) : dI cPow gI (.int n) (.int m) = some (gI n m) := if_pos (by unfold cPow; simp only [Bool.and_eq_true, decide_eq_true_eq]; exact ⟨⟨h, h2⟩, by omega⟩)
theorem d_shr {gI : Int → Int → Dt} (h : 0 ≤ m) : dI cShr gI (.int n) (.int m) = some (gI n m) := if_pos (decide_eq_true h)
theorem d_neg : dNeg (.int n) = some (.int (-n)) := (rfl)
theorem d_mulL (h : -18446744073709551616 < n) (h2 : n < 18446744073709551616) : dMul (.int n) (.int m) = some (.int (n * m)) := by
  unfold dMul dI
  dsimp only
  rw [if_pos (by unfold cMul; simp only [Bool.and_eq_true, Bool.or_eq_true, decide_eq_true_eq]; exact .inl ⟨h, h2⟩)]
  rfl
theorem d_mulR (h : -18446744073709551616 < m) (h2 : m < 18446744073709551616) : dMul (.int n) (.int m) = some (.int (n * m)) := by
  unfold dMul dI
  dsimp only
  rw [if_pos (by unfold cMul; simp only [Bool.and_eq_true, Bool.or_eq_true, decide_eq_true_eq]; exact .inr ⟨h, h2⟩)]
  rfl
theorem d_mulS {a : Str} (h : 0 ≤ n) (h2 : n ≤ 16777216) (h3 : a.length * n.toNat ≤ 16777216) : dMul (.str a) (.int n) = some (.str (Txt.mul a n)) := by
  show (dMulS (.str a) (.int n)).or _ = _
  unfold dMulS
  dsimp only
  rw [if_pos (by simp only [Bool.and_eq_true, decide_eq_true_eq]; exact ⟨⟨h, h2⟩, decide_eq_true h3⟩)]
  rfl
theorem d_addI : dAdd (.int n) (.int m) = some (.int (n + m)) := (rfl)
theorem d_addS {a b : Str} (h : a.length + b.length ≤ 16777216) : dAdd (.str a) (.str b) = some (.str (a ++ b)) := by
  show (dAddS (.str a) (.str b)).or _ = _
  unfold dAddS
  dsimp only
  rw [if_pos (show szOk _ = true from decide_eq_true h)]
  rfl
theorem d_addL (h : ds.length + es.length ≤ 16777216) : dAdd (.lst ds) (.lst es) = some (.lst (ds ++ es)) := by
  show (dAddL (.lst ds) (.lst es)).or _ = _
  unfold dAddL
  dsimp only
  rw [if_pos (show szOk _ = true from decide_eq_true h)]
  rfl
theorem d_addT (h : ds.length + es.length ≤ 16777216) : dAdd (.tup ds) (.tup es) = some (.tup (ds ++ es)) := by
  show dAddT (.tup ds) (.tup es) = _
  unfold dAddT
  dsimp only
  rw [if_pos (show szOk _ = true from decide_eq_true h)]
/-! statements -/
def kSeq (g : Sv) (fl : Fl) : M Fl := match fl with
  | .nx env => g env
  | fl => M.ret fl
theorem s_seq : sSeq s t env cs = rb (s env cs) (kSeq t) := by
  unfold sSeq
  rw [mb]
  congr 1
  funext fl
  cases fl <;> rfl
theorem k_seq_nx : kSeq t (.nx env) cs = t env cs := (rfl)
theorem k_seq_rt : kSeq t (.rt w) cs = .ok (.rt w) cs := (rfl)
theorem k_seq_bk : kSeq t (.bk env) cs = .ok (.bk env) cs := (rfl)
theorem k_seq_ct : kSeq t (.ct env) cs = .ok (.ct env) cs := (rfl)
theorem s_nil : sNil env cs = .ok (.nx env) cs := (rfl)
def kRet (w : Wv) : M Fl := M.ret (.rt w)
theorem s_ret : sRet f env cs = rb (f env cs) kRet := mb _ _ _
theorem k_ret : kRet w cs = .ok (.rt w) cs := (rfl)
theorem s_retn : sRetN env cs = .ok (.rt (.dat .non)) cs := (rfl)
theorem s_brk : sBreak env cs = .ok (.bk env) cs := (rfl)
theorem s_cnt : sCont env cs = .ok (.ct env) cs := (rfl)
def kExpr (env : En) (_ : Wv) : M Fl := M.ret (.nx env)
theorem s_expr : sExpr f env cs = rb (f env cs) (kExpr env) := mb _ _ _
theorem k_expr : kExpr env w cs = .ok (.nx env) cs := (rfl)
def kSIf (s t : Sv) (env : En) (b : Bool) : M Fl := if b = true then s env else t env
theorem s_sif : sIf p s t env cs = rb (p env cs) (kSIf s t env) := mb _ _ _
theorem k_sif : kSIf s t env b cs = if b = true then s env cs else t env cs := by unfold kSIf; cases b <;> rfl
def kSet (i : Nat) (env : En) (w : Wv) : M Fl := M.ret (.nx (env.set i (some w)))
theorem s_set : sSet i f env cs = rb (f env cs) (kSet i env) := mb _ _ _
theorem k_set : kSet i env w cs = .ok (.nx (env.set i (some w))) cs := (rfl)
def kAsg (t : Tg) (env : En) (w : Wv) : M Fl := M.bind (M.opt (t w env)) fun env' => M.ret (.nx env')
def rE (o : Option En) (cs : List Cell) : R Fl := match o with
  | some env => .ok (.nx env) cs
  | none => .bad
theorem s_asg {t : Tg} : sAsg t f env cs = rb (f env cs) (kAsg t env) := mb _ _ _
theorem k_asg {t : Tg} : kAsg t env w cs = rE (t w env) cs := by
  unfold kAsg
  rw [mb]
  cases t w env <;> rfl
theorem rE_some : rE (some env) cs = .ok (.nx env) cs := (rfl)
theorem t_name : tName i w env = some (env.set i (some w)) := (rfl)
theorem t_tup {n : Nat} {tu : Tgs} (h : ds.length = n) : tTupG n tu (.dat (.tup ds)) env = tu ds env := (if_pos h)
theorem t_cons {tu : Tgs} : tgCons (tName i) tu (d :: ds) env = tu ds (env.set i (some (.dat d))) := (rfl)
theorem t_nil : tgNil [] env = some env := (rfl)
def kPar (i j : Nat) (env : En) (ws : List Wv) : M Fl := match ws with
  | [a, b] => M.ret (.nx ((env.set i (some a)).set j (some b)))
  | _ => M.bad
theorem s_par : sPar i j ga env cs = rb (ga env cs) (kPar i j env) := mb _ _ _
theorem k_par : kPar i j env [u, v] cs = .ok (.nx ((env.set i (some u)).set j (some v))) cs := (rfl)
def kPar3 (i j l : Nat) (env : En) (ws : List Wv) : M Fl := match ws with
  | [a, b, c] => M.ret (.nx (((env.set i (some a)).set j (some b)).set l (some c)))
  | _ => M.bad
theorem s_par3 : sPar3 i j l ga env cs = rb (ga env cs) (kPar3 i j l env) := mb _ _ _
theorem k_par3 : kPar3 i j l env [u, v, w] cs = .ok (.nx (((env.set i (some u)).set j (some v)).set l (some w))) cs := (rfl)
theorem s_raise : sRaise e env cs = .exc e cs := (rfl)
def kPut (fo fi : Ev) (env : En) (w : Wv) : M Fl := M.bind (fo env) fun x => M.bind (fi env) fun y => M.bind (mPut x y w) fun _ => M.ret (.nx env)
def kPut2 (fi : Ev) (env : En) (w x : Wv) : M Fl := M.bind (fi env) fun y => M.bind (mPut x y w) fun _ => M.ret (.nx env)
def kPut3 (env : En) (w x y : Wv) : M Fl := M.bind (mPut x y w) fun _ => M.ret (.nx env)
def kPut4 (env : En) (_ : Unit) : M Fl := M.ret (.nx env)
theorem s_put {fo fi : Ev} : sPut fo fi f env cs = rb (f env cs) (kPut fo fi env) := mb _ _ _
theorem k_put {fo fi : Ev} : kPut fo fi env w cs = rb (fo env cs) (kPut2 fi env w) := mb _ _ _
theorem k_put2 {fi : Ev} : kPut2 fi env w u cs = rb (fi env cs) (kPut3 env w u) := mb _ _ _
theorem k_put3 : kPut3 env w u v cs = rb (mPut u v w cs) (kPut4 env) := mb _ _ _
theorem k_put4 {un : Unit} : kPut4 env un cs = .ok (.nx env) cs := (rfl)
theorem put_is {kw : List (Key × Wv)} {ky : Key} (h : cs[i]? = some (.dic kw)) (hk : keyOf y = some ky) (hl : kw.length < 16777216) : mPut (.cel i) (.dat y) w cs = .ok () (cs.set i (.dic (putW kw ky w))) := by
  unfold mPut
  dsimp only
  rw [h, hk]
  dsimp only
  rw [if_pos (decide_eq_true hl)]
def kFor (t : Tg) (b : Sv) (env : En) (ws : List Wv) : M Fl := loopS t b ws env
theorem s_for {fi : EvI} {t : Tg} {b : Sv} : sFor fi t b env cs = rb (fi env cs) (kFor t b env) := mb _ _ _
theorem k_for {t : Tg} {b : Sv} : kFor t b env ws cs = loopS t b ws env cs := (rfl)
theorem s_while {μ : En → List Cell → Nat} {c : EvT} {b : Sv} : sWhile μ c b env cs = loopW c b (μ env cs) env cs := (rfl)
/-! what is walked -/
theorem s_iseq : iSeq f env cs = rb (f env cs) asSeq := mb _ _ _
theorem as_l : asSeq (.dat (.lst ds)) cs = .ok (ds.map .dat) cs := (rfl)
theorem as_t : asSeq (.dat (.tup ds)) cs = .ok (ds.map .dat) cs := (rfl)
theorem as_s {a : Str} : asSeq (.dat (.str a)) cs = .ok (signs a) cs := (rfl)
theorem as_scr {l : List Int} : asSeq (.dat (.scr l)) cs = .ok (l.map fun i => .dat (.int i)) cs := (rfl)
theorem s_rg1 : iRg1 ga env cs = rb (ga env cs) asR1 := mb _ _ _
theorem s_rg2 : iRg2 ga env cs = rb (ga env cs) asR2 := mb _ _ _
theorem k_rg1 (h : -4611686018427387904 ≤ n) (h2 : n < 4611686018427387904) : asR1 [.dat (.int n)] cs = .ok (rangeW 0 n.toNat) cs := by
  unfold asR1
  dsimp only
  rw [if_pos (by unfold okR; simp only [Bool.and_eq_true, decide_eq_true_eq]; exact ⟨h, h2⟩)]
  rfl
theorem k_rg2 (h : -4611686018427387904 ≤ n) (h2 : n < 4611686018427387904) (h3 : -4611686018427387904 ≤ m) (h4 : m < 4611686018427387904) : asR2 [.dat (.int n), .dat (.int m)] cs = .ok (rangeW n (m - n).toNat) cs := by
  unfold asR2
  dsimp only
  rw [if_pos (by unfold okR; simp only [Bool.and_eq_true, decide_eq_true_eq]; exact ⟨⟨h, h2⟩, h3, h4⟩)]
  rfl
theorem s_enum : iEnumE ga env cs = rb (ga env cs) asEnum := mb _ _ _
theorem k_enum_l : asEnum [.dat (.lst ds)] cs = .ok (enumW ds) cs := (rfl)
theorem k_enum_s {a : Str} : asEnum [.dat (.str a)] cs = .ok (enumW (signD a)) cs := (rfl)
theorem s_zip : iZipE ga env cs = rb (ga env cs) asZip := mb _ _ _
theorem k_zip_l : asZip [.dat (.lst ds), .dat (.lst es)] cs = .ok (zipW ds es) cs := (rfl)
theorem k_zip_t : asZip [.dat (.tup ds), .dat (.tup es)] cs = .ok (zipW ds es) cs := (rfl)
theorem k_zip_s {a b : Str} : asZip [.dat (.str a), .dat (.str b)] cs = .ok (zipW (signD a) (signD b)) cs := (rfl)
/-! list comprehensions -/
def kOf (ws : List Wv) : M Wv := M.bind (mDats ws) fun ds => M.ret (.dat (.lst ds))
def rD (o : Option (List Dt)) (cs : List Cell) : R Wv := match o with
  | some ds => .ok (.dat (.lst ds)) cs
  | none => .bad
theorem s_off {f : EvF} : eOfF f env cs = rb (f env cs) kOf := mb _ _ _
theorem k_of : kOf ws cs = rD (dats ws) cs := by
  unfold kOf mDats rD
  rw [mb]
  cases dats ws <;> rfl
theorem rD_some : rD (some ds) cs = .ok (.dat (.lst ds)) cs := (rfl)
theorem dats_mapd : ∀ ds : List Dt, dats (ds.map Wv.dat) = some ds
  | [] => rfl
  | d :: ds => by simp [dats, dats_mapd ds]
def kLc (t : Tg) (p : EvT) (f : Ev) (vs : List Nat) (env : En) (ws : List Wv) : M (List Wv) := if szOk ws.length = true then loopC t p f (wipeE env vs) ws else M.bad
theorem s_flc {gi : EvI} {t : Tg} {is : List Nat} : fLc gi t p f is env cs = rb (gi env cs) (kLc t p f is env) := mb _ _ _
theorem k_lc {t : Tg} {is : List Nat} (h : ws.length ≤ 16777216) : kLc t p f is env ws cs = loopC t p f (wipeE env is) ws cs := by
  unfold kLc
  rw [if_pos (show szOk _ = true from decide_eq_true h)]
theorem wipe_nil : wipeE env [] = env := (rfl)
theorem wipe_cons {is : List Nat} : wipeE env (i :: is) = (wipeE env is).set i none := (rfl)
def kCelF (ws : List Wv) : M Wv := mCell (.lst ws)
theorem s_celf {f : EvF} : eCelF f env cs = rb (f env cs) kCelF := mb _ _ _
theorem k_celf : kCelF ws cs = .ok (.cel cs.length) (cs ++ [.lst ws]) := (rfl)
def kFLst (ws : List Wv) : M (List Wv) := if szOk ws.length = true then M.ret ws else M.bad
theorem s_flst : fLst ga env cs = rb (ga env cs) kFLst := mb _ _ _
theorem k_flst (h : ws.length ≤ 16777216) : kFLst ws cs = .ok ws cs := by
  unfold kFLst
  rw [if_pos (show szOk _ = true from decide_eq_true h)]
  rfl
/-! functions -/
theorem k_fin_rt : fin (.rt w) cs = .ok w cs := (rfl)
theorem k_fin_nx : fin (.nx env) cs = .ok (.dat .non) cs := (rfl)
theorem fn_ev {n : Nat} {R' : R Wv} (h : rb (s (startE n ws) cs) fin = R') : fnOf n s ws cs = R' := by
  rw [← h]
  exact mb _ _ _
theorem start_nil {n : Nat} : startE n [] = List.replicate n none := by simp [startE]
theorem start_cons {n : Nat} : startE (n + 1) (w :: ws) = some w :: startE n ws := by
  simp [startE]
theorem repl_0 : List.replicate 0 (none : Option Wv) = [] := (rfl)
theorem repl_S {n : Nat} : List.replicate (n + 1) (none : Option Wv) = none :: List.replicate n none := (rfl)
/-! caught -/
theorem s_caught {L : List (Str × Addr)} : eCaught L f env cs = mCaught L (f env) cs := (rfl)
theorem caught_ok {L : List (Str × Addr)} {mm : M Wv} (h : mm cs = .ok w cs1) : mCaught L mm cs = .ok (.dat .non) cs1 := by
  unfold mCaught
  rw [h]
theorem caught_x {L : List (Str × Addr)} {mm : M Wv} {C : Addr} (h : mm cs = .exc e cs1) (hl : L.lookup e = some C) : mCaught L mm cs = .ok (.dat (.exn C)) cs1 := by
  unfold mCaught
  rw [h]
  dsimp only
  rw [hl]
end
end DX

set_option Elab.async false
set_option linter.all false
set_option maxRecDepth 100000
set_option maxHeartbeats 2000000
/-! D15: freezing a cell, instances, fields, extend, list(range). -/
namespace DX
variable [TabT]
open PySem PySem.Spec PyProof.Rows L2
/-- what is asked of a law's classes -/
structure Ax where
  K : Frag
  A : Nat → Addr
  L : List (Str × Addr)
section
variable {K : Frag} {mg : MG} {ω : Wo} {H : Hp} {cs : List Cell}
theorem Ok.frz {i : Nat} {a : Addr} {o : HO} (k : Ok K ω H cs) (e : ω.ad[i]? = some a) (hn : ω.Hs a = none ∧ ω.fr a = none) (hH : H a = some o) (hp : NoTbl o) : Ok K (ω.froze a o) H (cs.set i .dead) := by
  have le : Le ω (ω.froze a o) := ⟨Ex.new hn.1, List.prefix_refl _, rfl, rfl⟩
  refine ⟨fun b u hb => ?_, by rw [List.length_set]; exact k.len, k.nd, fun j b c e1 e2 => ?_, k.tab, k.frx, fun b u hb => ?_, fun b u hb => ?_, k.nf⟩
  · have hb : upd ω.Hs a o b = some u := hb
    by_cases h : b = a
    · subst h
      rw [upd_same] at hb
      exact hH.trans hb
    · rw [upd_ne h] at hb
      exact k.ex b u hb
  · by_cases hj : i = j
    · subst hj
      have e1 : ω.ad[i]? = some b := e1
      rw [e] at e1
      cases e1
      have hl : i < cs.length := by
        rw [k.len]
        exact (List.getElem?_eq_some_iff.mp e).1
      rw [List.getElem?_set_self hl] at e2
      cases e2
      exact ⟨o, upd_same⟩
    · rw [List.getElem?_set_ne hj] at e2
      have q := k.cel j b c e1 e2
      have ne : b ≠ a := fun z => by
        subst z
        obtain ⟨h1, g1⟩ := List.getElem?_eq_some_iff.mp e
        obtain ⟨h2, g2⟩ := List.getElem?_eq_some_iff.mp e1
        exact hj ((List.getElem_inj k.nd).mp (g1.trans g2.symm))
      exact q.mono le (fun z => by show upd _ _ _ b = none; rw [upd_ne ne]; exact z) fun u z => z
  · show upd _ _ _ b = none
    have hb : ω.fr b = some u := hb
    rw [upd_ne (fun z => by rw [z, hn.2] at hb; cases hb)]
    exact k.dj b u hb
  · have hb : upd ω.Hs a o b = some u := hb
    by_cases h : b = a
    · subst h
      rw [upd_same] at hb
      cases hb
      exact hp
    · rw [upd_ne h] at hb
      exact k.nt b u hb
/-- fields that are data -/
def datF : List (Str × Wv) → Option (List (Str × Dt))
  | [] => some []
  | (k, .dat d) :: ws => (datF ws).map ((k, d) :: ·)
  | (_, .cel _) :: _ => none
theorem RepWf.dats : ∀ {vs : List (Str × V)} {ws : List (Str × Wv)} {ds : List (Str × Dt)}, RepWf K ω vs ws → datF ws = some ds → RepF K ω.Hs vs ds
  | _, [], _, h, e => by
    cases h
    simp [datF] at e
    subst e
    exact .nil
  | _, (k, .dat d) :: ws, _, h, e => by
    cases h with
    | cons h1 h2 =>
      simp [datF] at e
      obtain ⟨es, e1, rfl⟩ := e
      exact .cons h1 (RepWf.dats h2 e1)
  | _, (k, .cel j) :: ws, _, h, e => by simp [datF] at e
def cFrz : Option Cell → Option Dt
  | some (.lst ws) => (dats ws).map .lst
  | some (.dic ws) => (datK ws).map .dic
  | some (.ins C ws) => (datF ws).map (.obj C)
  | _ => none
def mFrz (w : Wv) : M Wv := fun cs => match w with
  | .dat d => .ok (.dat d) cs
  | .cel k => match cFrz cs[k]? with
    | some d => .ok (.dat d) (cs.set k .dead)
    | none => .bad
theorem frz_use {E : XK} {v : V} {w : Wv} {F : Wv → Wo → List Cell → Hp → Prop} (k : Ok K ω H cs) (r : RepW K ω v w) (h : Out K mg E ω (mFrz w cs) F) : ∃ w' ω' cs', Le ω ω' ∧ Ok K ω' H cs' ∧ RepW K ω' v w' ∧ F w' ω' cs' H := by
  cases w with
  | dat d => exact ⟨_, ω, cs, Le.refl _, k, r, h.now k⟩
  | cel i =>
    obtain ⟨a, e1, rfl⟩ := r
    cases hc : cs[i]? with
    | none => unfold mFrz at h; dsimp only at h; rw [hc] at h; exact (show False from h).elim
    | some c =>
      have q := k.cel i a c e1 hc
      have key : ∀ (o : HO) (d : Dt), cFrz (some c) = some d → (ω.Hs a = none ∧ ω.fr a = none) → H a = some o → NoTbl o → RepD K (ω.froze a o).Hs (.ref a) d → ∃ w' ω' cs', Le ω ω' ∧ Ok K ω' H cs' ∧ RepW K ω' (.ref a) w' ∧ F w' ω' cs' H := fun o d ed hn hH hp rd => by
        unfold mFrz at h
        dsimp only at h
        rw [hc, ed] at h
        have ok := k.frz e1 hn hH hp
        exact ⟨.dat d, ω.froze a o, cs.set i .dead, ⟨Ex.new hn.1, List.prefix_refl _, rfl, rfl⟩, ok, rd, h _ H ⟨Ex.new hn.1, List.prefix_refl _, rfl, rfl⟩ ok⟩
      have bad : cFrz (some c) = none → ∃ w' ω' cs', Le ω ω' ∧ Ok K ω' H cs' ∧ RepW K ω' (.ref a) w' ∧ F w' ω' cs' H := fun e => by
        unfold mFrz at h
        dsimp only at h
        rw [hc, e] at h
        exact (show False from h).elim
      cases c with
      | lst ws =>
        obtain ⟨hn, vs, h1, h2⟩ := q
        cases ed : dats ws with
        | none => exact bad (by show (dats ws).map Dt.lst = none; rw [ed]; rfl)
        | some ds =>
          refine key _ (.lst ds) (by show (dats ws).map Dt.lst = _; rw [ed]; rfl) hn h1 True.intro (.lst upd_same ?_)
          exact (h2.dats ed).mono (Ex.new hn.1) _ _
      | dic ws =>
        obtain ⟨hn, vs, h1, h2⟩ := q
        cases ed : datK ws with
        | none => exact bad (by show (datK ws).map Dt.dic = none; rw [ed]; rfl)
        | some ds =>
          refine key _ (.dic ds) (by show (datK ws).map Dt.dic = _; rw [ed]; rfl) hn h1 True.intro (.dic upd_same ?_)
          exact (h2.datK ed).mono (Ex.new hn.1) _ _
      | ins C ws =>
        obtain ⟨⟨hn, hc⟩, dx, vs, h1, h2⟩ := q
        cases ed : datF ws with
        | none => exact bad (by show (datF ws).map (Dt.obj C) = none; rw [ed]; rfl)
        | some ds =>
          refine key _ (.obj C ds) (by show (datF ws).map (Dt.obj C) = _; rw [ed]; rfl) hn h1 True.intro (.obj upd_same hc ?_)
          exact (h2.dats ed).mono (Ex.new hn.1) _ _
      | dead => exact bad rfl
end
def eFrz (f : Ev) : Ev := fun env => M.bind (f env) mFrz
section
variable {X : Cx} {E : XK} {e : Expr} {f : Ev}
theorem ev_frz (h : EV X E e f) : EV X E e (eFrz f) := PE.imp h fun σ H Q ⟨env, cs, ω, hs, hk, h⟩ => ⟨env, cs, ω, hs, hk, h.bind.imp fun w ω1 cs1 H1 l1 k1 h1 v rv => by
  obtain ⟨w', ω', cs', l, ok, r, q⟩ := frz_use k1 rv h1
  exact q v r⟩
end
/-! ### instances -/
section
variable {K : Frag} {mg : MG} {ω : Wo} {H : Hp} {cs : List Cell} {p : Addr} {o : HO}
theorem Ok.wide (k : Ok K ω H cs) (hp : H p = none) : Ok K ω (upd H p o) cs :=
  ⟨k.ex.trans (Ex.new hp), k.len, k.nd, fun i a c e1 e2 => (k.cel i a c e1 e2).mono (Le.refl ω) id fun u z => Ex.new hp _ _ z, k.tab.ext (Ex.new hp), k.frx.trans (Ex.new hp), k.dj, k.nt, k.nf⟩
end
def kNew (fz : Bool) (k : Nat) (w : Wv) : M Wv := match w with
  | .dat .non => if fz = true then mFrz (.cel k) else M.ret (.cel k)
  | _ => M.bad
/-- a new instance: a cell while __init__ runs, frozen behind it or not -/
def mNew (fz : Bool) (C : Addr) (m : Fn) (ws : List Wv) : M Wv := fun cs => M.bind (m (.cel cs.length :: ws)) (kNew fz cs.length) (cs ++ [.ins C []])
def eNew (fz : Bool) (C : Addr) (n : Nat) (m : Fn) (g : EvA) : Ev := fun env => M.bind (g env) fun ws => if ws.length + 1 = n then mNew fz C m ws else M.bad
section
variable {X : Cx} {E : XK} {k : Nat} {f C : Addr} {fd : FuncData} {ps : List Str} {m : Fn} {x : Str} {p pos : Pos} {e : Expr} {es : List Expr} {g : EvA} {fz : Bool}
theorem run_new {ω : Wo} {cs : List Cell} {ws : List Wv} {pins : List (Addr × Obj)} {σ : L2.St} {H : Hp} {s : Shared} {Q : VK} {us : List Value} {vs : List V} (hOw : OwnC X.K C) (Mk' : Mk X.K C f) (F : FnG X.prog X.w X.K X.mg X.base false k f fd ps m) (hr : Room (k + 1) X.A) (hx : Passes (L2.CX X.prog X.w) X E)
    (hb : L2.Binds X.K fd ps []) (I : Inv X pins σ H s) (r : Vals vs us) (hl : ws.length + 1 = ps.length) (hk : Ok X.K ω H cs) (rw' : RepWs X.K ω vs ws) (h : Out X.K X.mg E ω (mNew fz C m ws cs) (fun w ω' _ H' => ∀ v, RepW X.K ω' v w → Q v H')) :
    wpAny (model X.prog X.w) X.A (call (.ref C) us) (EP X pins σ Q) X.xe s := by
  have n1 : H (s.heap.objs.size + 1) = none := I.hok.fresh (Nat.le_succ _)
  have n2 : H s.heap.objs.size = none := I.hok.fresh (Nat.le_refl _)
  have ne : s.heap.objs.size ≠ s.heap.objs.size + 1 := Nat.ne_of_lt (Nat.lt_succ_self _)
  have k1 : Ok X.K ω (upd H s.heap.objs.size (.own (s.heap.objs.size + 1))) cs := hk.wide n2
  have n3 : upd H s.heap.objs.size (HO.own (s.heap.objs.size + 1)) (s.heap.objs.size + 1) = none := by rw [upd_ne (Ne.symm ne)]; exact n1
  have k2 : Ok X.K (ω.more (s.heap.objs.size + 1)) (upd (upd H s.heap.objs.size (.own (s.heap.objs.size + 1))) (s.heap.objs.size + 1) (.ins C s.heap.objs.size [])) (cs ++ [.ins C []]) :=
    k1.more n3 ⟨⟨⟨k1.ex.back n3, k1.frx.back n3⟩, hOw⟩, s.heap.objs.size, [], upd_same, .nil⟩
  have I2 := Inv.made (C := C) I
  have r2 : Vals (V.ref (s.heap.objs.size + 1) :: vs) (Value.ref (s.heap.objs.size + 1) :: us) := .cons rfl r
  have rs : RepWs X.K (ω.more (s.heap.objs.size + 1)) (V.ref (s.heap.objs.size + 1) :: vs) (.cel cs.length :: ws) := .cons ⟨_, by show (ω.ad ++ [_])[cs.length]? = _; rw [hk.len]; simp, rfl⟩ (rw'.mono Le.more)
  have hO : Out X.K X.mg E (ω.more (s.heap.objs.size + 1)) (m (.cel cs.length :: ws) (cs ++ [.ins C []])) (fun w ω1 cs1 H1 => Out X.K X.mg E ω1 (kNew fz cs.length w cs1) (fun w ω' _ H' => ∀ v, RepW X.K ω' v w → Q v H')) := (Out.le Le.more h).bind
  have lu : (Value.ref (s.heap.objs.size + 1) :: us).length = ps.length := by
    rw [← r2.length]
    exact (congrArg Nat.succ rw'.len).trans hl
  refine wpAny_call (make_map (f := f) I.kIn Mk'.makes Mk'.init (beq_iff_eq.mp Mk'.fn) (codeAny_mono (F.run _ X.stack _ _ ⟨Value.ref (s.heap.objs.size + 1) :: us, []⟩ (Value.ref (s.heap.objs.size + 1) :: us) _ (fun v H2 => v = .non ∧ Q (.ref (s.heap.objs.size + 1)) H2) E (ω.more (s.heap.objs.size + 1)) (cs ++ [.ins C []]) (.cel cs.length :: ws) (hr.make C us [])
    (fun z => nomatch z) (I2.env0.make C us []) (by have q := hb _ (Value.ref (s.heap.objs.size + 1) :: us) I2.kIn (by rw [List.append_nil]; exact lu); rwa [List.append_nil] at q) r2 hl k2 rs (hO.imp fun w ω1 cs1 H1 l1 k3 h1 v rv => ?_)) fun r s' hq' => ?_))
  · have at1 : ω1.ad[cs.length]? = some (s.heap.objs.size + 1) := l1.at (by show (ω.ad ++ [_])[cs.length]? = _; rw [hk.len]; simp)
    cases w with
    | cel j => exact (show False from h1).elim
    | dat d =>
      cases d with
      | non =>
        cases (show RepD X.K ω1.Hs v .non from rv)
        refine ⟨rfl, ?_⟩
        unfold kNew at h1
        dsimp only at h1
        cases fz with
        | true =>
          rw [if_pos rfl] at h1
          obtain ⟨w', ω', cs', l, ok, r', q⟩ := frz_use k3 (show RepW X.K ω1 (.ref (s.heap.objs.size + 1)) (.cel cs.length) from ⟨_, at1, rfl⟩) h1
          exact q _ r'
        | false =>
          rw [if_neg Bool.false_ne_true] at h1
          exact h1.now k3 _ ⟨_, at1, rfl⟩
      | _ => exact (show False from h1).elim
  · cases r with
    | error e => exact hx pins σ _ _ e s' I2 hq'
    | ok fl =>
      cases fl with
      | ret u =>
        obtain ⟨v, H', I3, rv, ev, q3⟩ := I2.after hq'
        subst ev
        exact ⟨rv, ⟨V.ref (s.heap.objs.size + 1), H', I3, rfl, q3⟩⟩
      | next => exact False.elim hq'
      | brk => exact False.elim hq'
      | cont => exact False.elim hq'
theorem ev_new (fz : Bool) (hOw : OwnC X.K C) (Mk' : Mk X.K C f) (F : FnG X.prog X.w X.K X.mg X.base false k f fd ps m) (hr : Room (k + 1) X.A) (hx : Passes (L2.CX X.prog X.w) X E) (hg : Gl X x) (hm : X.mg x = some (.ref C)) (hb : L2.Binds X.K fd ps [])
    (ha : EVA X E (e :: es) g) (hdb : (x == ("__debug__" : Str)) = false := by decide) (he : starEach (e :: es) X.env = (false, eval e X.env) :: starEach es X.env := by rfl) (hpl : (backTo pos (starEach es X.env)).any (·.1) = false := by rfl) :
    EV X E (.Call (.Name x p) (e :: es) [] pos) (eNew fz C ps.length m g) := by
  refine ⟨fun pins s σ H Q I h => ?_⟩
  obtain ⟨env, cs, ω, hs, hk, h⟩ := h
  refine wpAny_Call_Name_kw (ld_glob I hg hm ?_ hdb)
  refine PySem.W.callWith_K (h₀ := X.base) I.ok.mod.kin Mk'.kp (thn (ha.run pos pins s σ H (fun vs H1 => ∃ ω1 cs1 ws, Ok X.K ω1 H1 cs1 ∧ RepWs X.K ω1 vs ws ∧ Out X.K X.mg E ω1 ((if ws.length + 1 = ps.length then mNew fz C m ws else M.bad) cs1) (fun w ω' _ H' => ∀ v, RepW X.K ω' v w → Q v H')) I ⟨env, cs, ω, hs, hk, h.bind.imp fun ws ω1 cs1 H1 l1 k1 h1 vs rv => ⟨ω1, cs1, ws, k1, rv, h1⟩⟩) fun us s1 ⟨vs, H1, I1, r, ω1, cs1, ws, k1, rv, h1⟩ => ⟨I1.kIn, ?_⟩) he hpl
  split at h1
  · rename_i hl
    exact run_new hOw Mk' F hr hx hb I1 r hl k1 rv h1
  · exact (show False from h1).elim
end
/-! ### fields -/
def putFW (f : Str) (w : Wv) : List (Str × Wv) → List (Str × Wv)
  | [] => [(f, w)]
  | (g, x) :: r => if g = f then (g, w) :: r else (g, x) :: putFW f w r
theorem RepWf.put {K : Frag} {ω : Wo} {f : Str} {v : V} {w : Wv} {vs : List (Str × V)} {ws : List (Str × Wv)} (r : RepWf K ω vs ws) (h : RepW K ω v w) : RepWf K ω (putF f v vs) (putFW f w ws) := by
  induction r with
  | nil => exact .cons h .nil
  | @cons k v' vs w' ws h1 h2 ih =>
    unfold putF putFW
    by_cases e : k = f
    · rw [if_pos e, if_pos e]
      exact .cons h h2
    · rw [if_neg e, if_neg e]
      exact .cons h1 ih
theorem RepWf.lookup {K : Frag} {ω : Wo} {f : Str} {w : Wv} : ∀ {vs : List (Str × V)} {ws : List (Str × Wv)}, RepWf K ω vs ws → ws.lookup f = some w → ∃ v, vs.lookup f = some v ∧ RepW K ω v w
  | _, _, .nil, e => by simp at e
  | _, _, .cons (k := k) h1 h2, e => by
    rw [List.lookup_cons] at e ⊢
    cases hk : f == k with
    | true => rw [hk] at e; cases e; exact ⟨_, rfl, h1⟩
    | false => rw [hk] at e; exact RepWf.lookup h2 e
theorem RepF.lookup {K : Frag} {H : Hp} {f : Str} {d : Dt} : ∀ {vs : List (Str × V)} {ds : List (Str × Dt)}, RepF K H vs ds → ds.lookup f = some d → ∃ v, vs.lookup f = some v ∧ RepD K H v d
  | _, [], h, e => by simp at e
  | _, (k, d0) :: ds, h, e => by
    cases h with
    | cons h1 h2 =>
      rw [List.lookup_cons] at e ⊢
      cases hk : f == k with
      | true => rw [hk] at e; cases e; exact ⟨_, rfl, h1⟩
      | false => rw [hk] at e; exact RepF.lookup h2 e
theorem RepWf.len {K : Frag} {ω : Wo} {vs : List (Str × V)} {ws : List (Str × Wv)} (r : RepWf K ω vs ws) : vs.length = ws.length := by
  induction r with
  | nil => rfl
  | cons _ _ ih => simp [ih]
def cFld (C : Addr) (f : Str) : Option Cell → Option Wv
  | some (.ins D l) => if D = C then l.lookup f else none
  | _ => none
def wFld (C : Addr) (f : Str) (cs : List Cell) : Wv → Option Wv
  | .dat (.obj D l) => if D = C then (l.lookup f).map .dat else none
  | .cel k => cFld C f cs[k]?
  | _ => none
def mFld (C : Addr) (f : Str) (w : Wv) : M Wv := fun cs => M.opt (wFld C f cs w) cs
def eFld (C : Addr) (f : Str) (o : Ev) : Ev := fun env => M.bind (o env) (mFld C f)
def mPutF (C : Addr) (f : Str) (o w : Wv) : M Unit := fun cs => match o with
  | .cel k => match cs[k]? with
    | some (.ins D l) => if D = C ∧ l.length < 1000 then .ok () (cs.set k (.ins C (putFW f w l))) else .bad
    | _ => .bad
  | _ => .bad
def sPutF (C : Addr) (f : Str) (o v : Ev) : Sv := fun env => M.bind (v env) fun w => M.bind (o env) fun x => M.bind (mPutF C f x w) fun _ => M.ret (.nx env)
section
variable {X : Cx} {E : XK} {C : Addr} {o e value : Expr} {f : Str} {pos pos' : Pos} {fo fv : Ev}
theorem ev_fld (c : Cls X.K C) (n : NoAttr X.K C f) (he : EV X E e fo) (hb : attributeBase e f X.env (eval e X.env) = eval e X.env := by rfl) : EV X E (.Attribute e f pos) (eFld C f fo) :=
  PE.imp (pe_fld he hb) fun σ H Q ⟨env, cs, ω, hs, hk, h⟩ => ⟨env, cs, ω, hs, hk, h.bind.imp fun x ω1 cs1 H1 l1 k1 h1 u ru => by
    obtain ⟨z, ez, h2⟩ := Out.opt (show Out X.K X.mg E ω1 (M.opt (wFld C f cs1 x) cs1) _ from h1)
    cases x with
    | dat d =>
      cases d with
      | obj D l =>
        have ez2 : (if D = C then (l.lookup f).map Wv.dat else none) = some z := ez
        clear ez
        by_cases hD : D = C
        · rw [if_pos hD] at ez2
          subst hD
          cases el : l.lookup f with
          | none => rw [el] at ez2; cases ez2
          | some d =>
            rw [el] at ez2
            cases ez2
            cases (show RepD X.K ω1.Hs u (.obj D l) from ru) with
            | obj g1 hc g2 =>
              obtain ⟨v, e1, r1⟩ := g2.lookup el
              exact ⟨_, D, _, _, v, rfl, k1.ex _ _ g1, c, n, e1, h2.now k1 v r1⟩
        · rw [if_neg hD] at ez2
          cases ez2
      | _ => cases ez
    | cel j =>
      obtain ⟨a, e1, rfl⟩ := ru
      have ez : cFld C f cs1[j]? = some z := ez
      cases hc : cs1[j]? with
      | none => rw [hc] at ez; cases ez
      | some cc =>
        rw [hc] at ez
        have q := k1.cel j a cc e1 hc
        cases cc with
        | ins D l =>
          have ez2 : (if D = C then l.lookup f else none) = some z := ez
          clear ez
          by_cases hD : D = C
          · rw [if_pos hD] at ez2
            subst hD
            obtain ⟨_, dx, vs, g1, g2⟩ := q
            obtain ⟨v, e2, r1⟩ := g2.lookup ez2
            exact ⟨a, D, dx, vs, v, rfl, g1, c, n, e2, h2.now k1 v r1⟩
          · rw [if_neg hD] at ez2
            cases ez2
        | _ => cases ez⟩
theorem sv_putF (c : Cls X.K C) (n : NoAttr X.K C f) (ho : EV X E o fo) (hv : EV X E value fv) (hs : swapsWith value (some (.Attribute o f pos')) pos.line X.env = pure false := by rfl) : SV X E (.Assign [.Attribute o f pos'] value pos) (sPutF C f fo fv) :=
  PS.imp (ps_fld ho hv hs) fun D σ H ⟨env, cs, ω, hst, hk, h⟩ => ⟨env, cs, ω, hst, hk, h.bind.imp fun w ω1 cs1 H1 l1 k1 h1 v rv => ⟨env, cs1, ω1, hst.mono l1, k1, h1.bind.imp fun x ω2 cs2 H2 l2 k2 h2 u ru => by
    have h3 := h2.bind
    cases x with
    | dat d => exact (show False from h3).elim
    | cel j =>
      obtain ⟨a, e1, rfl⟩ := ru
      unfold mPutF at h3
      dsimp only at h3
      cases hc : cs2[j]? with
      | none => rw [hc] at h3; exact (show False from h3).elim
      | some cc =>
        rw [hc] at h3
        have q := k2.cel j a cc e1 hc
        cases cc with
        | ins D l =>
          dsimp only at h3
          split at h3
          · rename_i hD
            obtain ⟨hD, hl⟩ := hD
            subst hD
            obtain ⟨⟨hn, hco⟩, dx, vs, g1, g2⟩ := q
            refine ⟨a, D, dx, vs, rfl, g1, c, n, by rw [g2.len]; exact hl, ?_⟩
            have k3 := k2.setCell e1 hn g1 (o' := .ins D dx (putF f v vs)) (c := .ins D (putFW f w l)) ⟨(fun ps z => nomatch z), fun b q z => by unfold LamX.CodeO at z; cases z⟩ ⟨⟨hn, hco⟩, dx, _, upd_same, g2.put (rv.mono l2)⟩
            exact ((h3.okk k3).now k3) σ (hst.mono (l1.trans l2))
          · exact (show False from h3).elim
        | _ => exact (show False from h3).elim⟩⟩
end
end DX

set_option Elab.async false
set_option linter.all false
set_option maxRecDepth 100000
set_option maxHeartbeats 2000000
/-! D16: isinstance of own classes, extend, list(range), comprehensions of two clauses. -/
namespace DX
variable [TabT]
open PySem PySem.Spec PyProof.Rows L2
def oIsO (K : Frag) (ws : List Wv) (_ : List Cell) : Option Dt := match ws with
  | [.dat d, .dat (.op (.ref C))] => match d with
    | .obj D _ => (PySem.W.kitOne K (.ref D) (.ref C)).map .bl
    | d => match tyN d with
      | some n => (PySem.W.kitOne K (.type n) (.ref C)).map .bl
      | none => none
  | _ => none
/-- built-in classes: an own instance is of none -/
def tysOf : List Dt → Option (List String)
  | [] => some []
  | .op (.ty m) :: l => if allTy.contains m = true then (tysOf l).map (m :: ·) else none
  | _ :: _ => none
def dIsiO : Dt → Dt → Option Dt
  | .obj _ _, .op (.ty m) => if allTy.contains m = true then some (.bl false) else none
  | .obj _ _, .tup l => (tysOf l).map fun _ => .bl false
  | _, _ => none
def oIsi : List Wv → List Cell → Option Dt := fun ws cs => (o2 dIsi ws cs).or (o2 dIsiO ws cs)
section
variable {K : Frag}
theorem tysOf_of {K : Frag} {ω : Wo} {D : Addr} (hc : OwnC K D) : ∀ {us : List V} {ys : List Dt} {ms : List String}, RepL K ω.Hs us ys → tysOf ys = some ms → ∃ cls, Paired ClsV us cls ∧ PySem.W.kitAny K (.ref D) cls = some false
  | _, [], _, h, e => by cases h; exact ⟨[], .nil, rfl⟩
  | _, y :: ys, _, h, e => by
    cases h with
    | cons h1 h2 =>
      cases y with
      | op v =>
        cases v with
        | ty m =>
          have e : (if allTy.contains m = true then (tysOf ys).map (m :: ·) else none) = some _ := e
          by_cases hm : allTy.contains m = true
          · rw [if_pos hm] at e
            cases q : tysOf ys with
            | none => rw [q] at e; cases e
            | some ns =>
              obtain ⟨cls, q1, q2⟩ := tysOf_of hc h2 q
              cases h1
              exact ⟨_ :: cls, .cons (.ty m) q1, kitAny_cons (hc.kt m (by simpa [allTy] using hm)) (fun _ => q2) fun z => nomatch z⟩
          · rw [if_neg hm] at e
            cases e
        | _ => cases e
      | _ => cases e
theorem co_isiO : CallO K (fun xs H Q => rIsi K xs H Q ∨ (rIsiT K xs H Q ∨ rIsiK K xs H Q)) (o2 dIsiO) := fun ω H cs vs ws z k rv e Q q => by
  obtain ⟨x, y, rfl, e1⟩ := o2_of e
  obtain ⟨v, u, rfl, r, r'⟩ := rv.two
  cases x with
  | obj D l =>
    cases r with
    | obj g1 hc g2 =>
      have ty : TyX K H _ (.ref D) := .base (.ins (k.ex _ _ g1) hc.cl hc.ha hc.hn hc.ht hc.hm)
      cases y with
      | op w =>
        cases w with
        | ty m =>
          have e1 : (if allTy.contains m = true then some (Dt.bl false) else none) = some z := e1
          by_cases hm : allTy.contains m = true
          · rw [if_pos hm] at e1
            cases e1
            cases r'
            exact .inl ⟨_, _, _, _, false, rfl, .ty m, ty, hc.kt m (by simpa [allTy] using hm), q ω H _ (Le.refl _) k (.bl _)⟩
          · rw [if_neg hm] at e1
            cases e1
        | _ => cases e1
      | tup l =>
        have e1 : (tysOf l).map (fun _ => Dt.bl false) = some z := e1
        cases ht : tysOf l with
        | none => rw [ht] at e1; cases e1
        | some ms =>
          rw [ht] at e1
          cases e1
          cases r' with
          | tup h1 h2 =>
            obtain ⟨cls, q1, q2⟩ := tysOf_of hc h2 ht
            rcases ex_t k.ex h1 with h | ⟨o, its, m, h, hc', hd, hz, hv⟩
            · exact .inr (.inl ⟨_, _, _, _, cls, false, rfl, h, q1, ty, q2, q ω H _ (Le.refl _) k (.bl _)⟩)
            · have e2 : its.toList = cls := ClsV.all q1 hv
              obtain ⟨oc, od, dd, sl⟩ := o
              simp only at hc' hd
              subst hc'
              subst hd
              exact .inr (.inr ⟨_, _, od, cls, m, sl, _, false, rfl, by rw [h, ← e2], ty, q2, q ω H _ (Le.refl _) k (.bl _)⟩)
      | _ => cases e1
  | _ => cases e1
theorem co_isi2 : CallO K (fun xs H Q => (rIsi K xs H Q ∨ (rIsiT K xs H Q ∨ rIsiK K xs H Q)) ∨ (rIsi K xs H Q ∨ (rIsiT K xs H Q ∨ rIsiK K xs H Q))) oIsi := CallO.or co_isi co_isiO
theorem co_isO : CallO K (rIsi K) (oIsO K) := fun ω H cs vs ws z k rv e Q q => by
  unfold oIsO at e
  split at e
  · rename_i d C
    obtain ⟨v, u, rfl, r, r'⟩ := rv.two
    cases r'
    have base : ∀ (t : Value), TyX K H v t → (PySem.W.kitOne K t (.ref C)).map Dt.bl = some z → rIsi K [v, .ref C] H Q := fun t ty e2 => by
      cases hk : PySem.W.kitOne K t (.ref C) with
      | none => rw [hk] at e2; cases e2
      | some b =>
        rw [hk] at e2
        cases e2
        exact ⟨v, .ref C, t, .ref C, b, rfl, .own C, ty, hk, q ω H _ (Le.refl _) k (.bl _)⟩
    split at e
    · rename_i D l
      cases r with
      | obj g1 hc g2 => exact base _ (.base (.ins (k.ex _ _ g1) hc.cl hc.ha hc.hn hc.ht hc.hm)) e
    · split at e
      · rename_i n en
        exact base _ (tyX_of k r en).1 e
      · cases e
  · cases e
end
def oExtend (x : Wv) (ws : List Wv) : M Wv := fun cs => match x, ws with
  | .cel k, [.dat (.lst ds)] => match cs[k]? with
    | some (.lst l) => if decide (l.length + ds.length ≤ 16777216) = true then .ok (.dat .non) (cs.set k (.lst (l ++ ds.map .dat))) else .bad
    | _ => .bad
  | _, _ => .bad
def rangeD (lo : Int) (n : Nat) : List Dt := (List.range n).map fun (i : Nat) => .int (lo + i)
theorem rep_range {K : Frag} {H : Hp} (a : Int) : ∀ l : List Nat, RepL K H (l.map fun (i : Nat) => V.int (a + (i : Nat))) (l.map fun (i : Nat) => Dt.int (a + i))
  | [] => .nil
  | i :: l => .cons (.int _) (rep_range a l)
def kRgL1 (mk : List Dt → Dt) : Wv → M Wv
  | .dat (.int j) => if (okR j && decide (j.toNat ≤ 16777216)) = true then M.ret (.dat (mk (rangeD 0 j.toNat))) else M.bad
  | _ => M.bad
def kRgL2 (mk : List Dt → Dt) : Wv → Wv → M Wv
  | .dat (.int i), .dat (.int j) => if (okR i && okR j && decide ((j - i).toNat ≤ 16777216)) = true then M.ret (.dat (mk (rangeD i (j - i).toNat))) else M.bad
  | _, _ => M.bad
def eRgL1 (mk : List Dt → Dt) (f : Ev) : Ev := fun env => M.bind (f env) (kRgL1 mk)
def eRgL2 (mk : List Dt → Dt) (f g : Ev) : Ev := fun env => M.bind (f env) fun x => M.bind (g env) fun y => kRgL2 mk x y
section
variable {X : Cx} {E : XK} {a b e : Expr} {f g : Ev} {ga : EvA} {p p2 pos pos2 apos cpos : Pos}
theorem b_isO {e2 : Expr} (hg : Gl X "isinstance") (hm : X.mg "isinstance" = none) (ha : EVA X E [e, e2] ga) (he : starEach [e, e2] X.env = (false, eval e X.env) :: starEach [e2] X.env := by rfl) (hpl : (backTo pos (starEach [e2] X.env)).any (·.1) = false := by rfl) : EV X E (.Call (.Name "isinstance" p) [e, e2] [] pos) (eCall (oIsO X.K) ga) := ev_callB call_isi co_isO hg hm boot_isinstance ha (by decide) (by decide) he hpl
theorem b_isi2 {e2 : Expr} (hg : Gl X "isinstance") (hm : X.mg "isinstance" = none) (ha : EVA X E [e, e2] ga) (he : starEach [e, e2] X.env = (false, eval e X.env) :: starEach [e2] X.env := by rfl) (hpl : (backTo pos (starEach [e2] X.env)).any (·.1) = false := by rfl) : EV X E (.Call (.Name "isinstance" p) [e, e2] [] pos) (eCall oIsi ga) := ev_callB (CallR.or call_isi3 call_isi3) co_isi2 hg hm boot_isinstance ha (by decide) (by decide) he hpl
theorem mo_extend : MethO X.K X.mg E rExtend oExtend := fun ω H cs v x vs ws ok rx rs Q h => by
  unfold oExtend at h
  split at h
  · rename_i x ws i ds
    cases hc : cs[i]? with
    | none => rw [hc] at h; exact (show False from h).elim
    | some c =>
      rw [hc] at h
      obtain ⟨a, e1, rfl⟩ := rx
      have q := ok.cell e1 hc
      cases c with
      | lst l =>
        have h : Out X.K X.mg E ω (if decide (l.length + ds.length ≤ 16777216) = true then R.ok (Wv.dat Dt.non) (cs.set i (Cell.lst (l ++ ds.map .dat))) else R.bad) _ := h
        by_cases hl : l.length + ds.length ≤ 16777216
        · rw [if_pos (decide_eq_true hl)] at h
          obtain ⟨hn, xs, h1, h2⟩ := q
          obtain ⟨u, rfl, r1⟩ := rs.one
          cases r1 with
          | @lst b zs _ g1 g2 =>
            have r3 : RepWs X.K ω (xs ++ zs) (l ++ ds.map .dat) := h2.app (.of g2)
            exact ⟨a, b, xs, zs, rfl, rfl, h1, ok.ex _ _ g1, by rw [sizeLine_eq, h2.len, g2.len]; exact hl, h.okk (ok.setCell e1 hn h1 lst_plain ⟨hn, _, upd_same, r3⟩) _ (.non)⟩
        · rw [if_neg (by simpa using hl)] at h
          exact (show False from h).elim
      | dic l => exact (show False from h).elim
      | ins C l => exact (show False from h).elim
      | dead => exact (show False from h).elim
  · exact (show False from h).elim
theorem ev_extend (ho : EV X E a f) (ha : EVA X E [e] ga) (hbase : attributeBase a "extend" X.env (eval a X.env) = eval a X.env := by rfl)
    (hfew : ((backTo cpos (starEach [e] X.env)).all (fun x => !x.1) && (backToKw cpos (keywordEach [] X.env)).all (fun x => x.1.isSome) && decide (([e] : List Expr).length + ([] : List Keyword).length + (if ([] : List Keyword).isEmpty then 0 else 1) < 30)) = true := by rfl)
    (hline : (apos.endLine == cpos.line) = true := by rfl) (hs : starEach [e] X.env = (false, eval e X.env) :: starEach [] X.env := by rfl) :
    EV X E (.Call (.Attribute a "extend" apos) [e] [] cpos) (eMeth okLst oExtend f ga) :=
  ev_bm PySem.F.plainAttrs_list PySem.F.slot_list_extend PySem.F.type_list_extend mt_extend ty_lst mo_extend ho ha hbase hfew hline hs rfl
theorem rg_ok {a b : Int} (h1 : okR a = true) (h2 : okR b = true) (h3 : (b - a).toNat ≤ 16777216) : RgOk a b := ⟨(okR_of h1).1, (okR_of h1).2, (okR_of h2).1, (okR_of h2).2, h3⟩
theorem ev_lstRg1 (hc : X.calm = true) (hg : Gl X "list") (hm : X.mg "list" = none) (hg2 : Gl X "range") (hm2 : X.mg "range" = none) (ha : EV X E a f) (na : starEach [a] X.env = (false, eval a X.env) :: starEach [] X.env := by rfl)
    (nb : starEach [.Call (.Name "range" p2) [a] [] pos2] X.env = (false, eval (.Call (.Name "range" p2) [a] [] pos2) X.env) :: starEach [] X.env := by rfl) : EV X E (.Call (.Name "list" p) [.Call (.Name "range" p2) [a] [] pos2] [] pos) (eRgL1 .lst f) :=
  PE.imp (pe_listRg hc hg hm (prg_1 hg2 hm2 ha na) nb) fun σ H Q ⟨env, cs, ω, hs, hk, h⟩ => ⟨env, cs, ω, hs, hk, h.bind.imp fun x ω1 cs1 H1 l1 k1 h1 v rv => by
    cases x with
    | cel j => exact (show False from h1).elim
    | dat d =>
      cases d with
      | int j =>
        cases (show RepD X.K ω1.Hs v (.int j) from rv)
        unfold kRgL1 at h1
        dsimp only at h1
        split at h1
        · rename_i hj
          simp only [Bool.and_eq_true, decide_eq_true_eq] at hj
          refine ⟨j, rfl, rg_ok rfl hj.1 (by rw [Int.sub_zero]; exact hj.2), fun q hq => ?_⟩
          have := froze_use k1 (d := .lst (rangeD 0 j.toNat)) (o := .lst (rgV 0 j)) (Q := Q) (fun ω' H' v' l k r => h1 ω' H' l k v' r) (fun p hp => .lst upd_same (by unfold rgV rangeD; rw [Int.sub_zero]; exact rep_range 0 _)) True.intro
          exact this q hq
        · exact (show False from h1).elim
      | _ => exact (show False from h1).elim⟩
theorem ev_lstRg2 (hc : X.calm = true) (hg : Gl X "list") (hm : X.mg "list" = none) (hg2 : Gl X "range") (hm2 : X.mg "range" = none) (ha : EV X E a f) (hb : EV X E b g) (na : starEach [a, b] X.env = (false, eval a X.env) :: starEach [b] X.env := by rfl) (na2 : starEach [b] X.env = (false, eval b X.env) :: starEach [] X.env := by rfl) (npl : (backTo pos2 (starEach [b] X.env)).any (·.1) = false := by rfl)
    (nb : starEach [.Call (.Name "range" p2) [a, b] [] pos2] X.env = (false, eval (.Call (.Name "range" p2) [a, b] [] pos2) X.env) :: starEach [] X.env := by rfl) : EV X E (.Call (.Name "list" p) [.Call (.Name "range" p2) [a, b] [] pos2] [] pos) (eRgL2 .lst f g) :=
  PE.imp (pe_listRg hc hg hm (prg_2 hg2 hm2 ha hb na na2 npl) nb) fun σ H Q ⟨env, cs, ω, hs, hk, h⟩ => ⟨env, cs, ω, hs, hk, h.bind.imp fun x ω1 cs1 H1 l1 k1 h1 v rv => ⟨env, cs1, ω1, hs.mono l1, k1, h1.bind.imp fun y ω2 cs2 H2 l2 k2 h2 u ru => by
    cases x with
    | cel j => exact (show False from h2).elim
    | dat d =>
      cases y with
      | cel j => cases d <;> exact (show False from h2).elim
      | dat d2 =>
        cases d with
        | int i =>
          cases d2 with
          | int j =>
            cases (show RepD X.K ω1.Hs v (.int i) from rv)
            cases (show RepD X.K ω2.Hs u (.int j) from ru)
            unfold kRgL2 at h2
            dsimp only at h2
            split at h2
            · rename_i hj
              simp only [Bool.and_eq_true, decide_eq_true_eq] at hj
              refine ⟨i, j, rfl, rfl, rg_ok hj.1.1 hj.1.2 hj.2, fun q hq => ?_⟩
              have := froze_use k2 (d := .lst (rangeD i (j - i).toNat)) (o := .lst (rgV i j)) (Q := Q) (fun ω' H' v' l k r => h2 ω' H' l k v' r) (fun p hp => .lst upd_same (by unfold rgV rangeD; exact rep_range i _)) True.intro
              exact this q hq
            · exact (show False from h2).elim
          | _ => exact (show False from h2).elim
        | _ => cases d2 <;> exact (show False from h2).elim⟩⟩
end
/-! ### two clauses -/
def loopI (t1 : Tg) (p1 : EvT) (f : Ev) (env : En) : List Wv → List Wv → M (List Wv)
  | [], acc => M.ret acc
  | w :: ws, acc => M.bind (M.opt (t1 w env)) fun env' => M.bind (M.nx (p1 env')) fun b => if b = true then M.bind (M.nx (f env')) fun y => if decide (acc.length < 16777216) = true then loopI t1 p1 f env ws (acc ++ [y]) else M.bad else loopI t1 p1 f env ws acc
def loopO (t : Tg) (p : EvT) (g1 : EvI) (t1 : Tg) (p1 : EvT) (f : Ev) (vs1 : List Nat) (env : En) : List Wv → List Wv → M (List Wv)
  | [], acc => M.ret acc
  | w :: ws, acc => M.bind (M.opt (t w env)) fun env' => M.bind (M.nx (p env')) fun b => if b = true then M.bind (M.nx (g1 env')) fun ws1 => M.bind (loopI t1 p1 f (wipeE env' vs1) ws1 acc) fun acc' => loopO t p g1 t1 p1 f vs1 env ws acc' else loopO t p g1 t1 p1 f vs1 env ws acc
def fLc2 (g : EvI) (t : Tg) (p : EvT) (g1 : EvI) (t1 : Tg) (p1 : EvT) (f : Ev) (vs vs1 : List Nat) : EvF := fun env => M.bind (g env) fun ws => loopO t p g1 t1 p1 f vs1 (wipeE env vs) ws []
section
variable {X : Cx} {E : XK} {tg tg1 e e2 : Expr} {pos : Pos}
theorem lc2_use {fi fi1 : EvI} {t t1 : Tg} {ts ts1 : List Nat} {p p1 : EvT} {f : Ev} {own : List (Str × Nat)} {vs1 : List Nat} (hsub : ∀ i ∈ ts, i ∈ own.map (·.2)) (hsub1 : ∀ i ∈ ts1, i ∈ vs1) {σ : L2.St} {H : Hp} {Q : VK} (hh : tEvF X.K X.mg E (fLc2 fi t p fi1 t1 p1 f (own.map (·.2)) vs1) σ H Q) :
    tLc2 (tEvI X.K X.mg E fi) (tEvG X.K t ts) (tEvT X.K X.mg E0 p) (tEvI X.K X.mg E0 fi1) (tEvG X.K t1 ts1) (tEvT X.K X.mg E0 p1) (tEv X.K X.mg E0 f) (own.map (·.2)) vs1 σ H Q := by
  obtain ⟨env, cs, ω, hst, hk, h⟩ := hh
  refine ⟨env, cs, ω, hst, hk, h.bind.imp fun ws ω1 cs1 H1 l1 k1 h1 J wk D hD => ?_⟩
  have frD : ω1.fr D = none := k1.frx.back hD
  have hw : StRep X.K ω1 (L2.wipe σ (own.map (·.2))) (wipeE env (own.map (·.2))) := (hst.mono l1).wipe _
  -- what is known between two turns of the outer walk
  let Mid : Nat → Hp → Prop := fun i Hx => ∃ (ωi : Wo) (csi : List Cell) (aV : List V) (aW : List Wv), ωi.fr = upd ω1.fr D (.lst aV) ∧ Le ω1 (ωi.back ω1.fr) ∧ Ok X.K ωi Hx csi ∧ RepWs X.K ωi aV aW ∧
        Out X.K X.mg E (ωi.back ω1.fr) (loopO t p fi1 t1 p1 f vs1 (wipeE env (own.map (·.2))) (ws.drop i) aW csi) (fun ys ω' _ H' => ∀ q vs, H' q = none → RepWs X.K ω' vs ys → Q (.ref q) (upd H' q (.lst vs)))
  refine ⟨fun i m Hx => m = ws.length - i ∧ i ≤ ws.length ∧ Mid i Hx, ⟨_, rfl, Nat.zero_le _, ω1.keep D (.lst []), cs1, [], [], rfl, Le.refl _, k1.keep hD, .nil, by rw [List.drop_zero]; exact h1⟩, ?_⟩
  rintro i m Hx ⟨rfl, hi, ωi, csi, aV, aW, hfr, lb, kI, rA, hO⟩
  have sub : ∀ {ω' : Wo} {bV : List V}, ω'.fr = upd ω1.fr D (.lst bV) → ∀ a o, ω1.fr a = some o → ω'.fr a = some o := fun {ω' bV} l a o e => by
    rw [l, upd_ne (ne_of_none e frD)]
    exact e
  have lf : Lf ω1 ωi := ⟨lb.ex, lb.ad, lb.tb⟩
  by_cases hlt : i < ws.length
  · refine .inr ⟨wk.goes i ωi Hx csi hlt lf kI, fun Hn => ∃ m', m' < ws.length - i ∧ (m' = ws.length - (i + 1) ∧ i + 1 ≤ ws.length ∧ Mid (i + 1) Hn), fun Hn h => h, fun x Hy y => ?_⟩
    obtain ⟨ω2, l2, k2, w, ew, rw'⟩ := wk.yields i ωi Hx csi x Hy hlt lf kI y
    have ed : ws.drop i = w :: ws.drop (i + 1) := by
      obtain ⟨_, e⟩ := List.getElem?_eq_some_iff.mp ew
      rw [← e]
      exact List.drop_eq_getElem_cons hlt
    rw [ed] at hO
    have fr2 : ω2.fr = upd ω1.fr D (.lst aV) := l2.fr.trans hfr
    have hO2 := Out.le (ω := ωi.back ω1.fr) (ω' := ω2.back ω1.fr) ⟨l2.ex, l2.ad, l2.tb, rfl⟩ hO
    obtain ⟨env', et, hO3⟩ := Out.opt hO2.bind
    have k2b : Ok X.K (ω2.back ω1.fr) Hy csi := k2.back (sub fr2)
    have hO4 := hO3.now k2b
    have l12 : Le ω1 (ω2.back ω1.fr) := ⟨lb.ex.trans l2.ex, lb.ad.trans l2.ad, l2.tb.trans lb.tb, rfl⟩
    have hw2 : StRep X.K ω2 (L2.wipe σ (own.map (·.2))) (wipeE env (own.map (·.2))) := (hw.mono l12).fr ω2.fr
    refine ⟨_, csi, ω2, w, env', hw2, k2, rw', et, fun σ2 hs2 ag => ⟨wipe_agr ag hsub, ?_⟩⟩
    refine ⟨env', csi, ω2, hs2, k2, (Out.nx (hO4.bind.under (Le.refl _) (sub fr2))).imp fun b ω3 cs3 H3 l3 k3 hO5 => ?_⟩
    have l23 := l2.trans l3
    have fr3 : ω3.fr = upd ω1.fr D (.lst aV) := l23.fr.trans hfr
    have adv : ∀ {ωj : Wo}, Le ωi ωj → Le ω1 (ωj.back ω1.fr) := fun {ωj} l => ⟨lb.ex.trans l.ex, lb.ad.trans l.ad, l.tb.trans lb.tb, rfl⟩
    cases b with
    | false => exact ⟨_, by omega, rfl, hlt, ω3, cs3, aV, aW, fr3, adv l23, k3, rA.mono l23, hO5⟩
    | true =>
      refine ⟨env', cs3, ω3, hs2.mono l3, k3, (Out.nx (Out.under (ω2 := ω3) (Out.bind hO5) (Le.refl _) (sub fr3))).imp fun ws1 ω4 cs4 H4 l4 k4 hO6 J1 wk1 => ?_⟩
      have l24 := l23.trans l4
      have fr4 : ω4.fr = upd ω1.fr D (.lst aV) := l24.fr.trans hfr
      have hs4 : StRep X.K ω4 σ2 env' := hs2.mono (l3.trans l4)
      have hw4 : StRep X.K ω4 (L2.wipe σ2 vs1) (wipeE env' vs1) := hs4.wipe _
      refine ⟨fun j k Hj => k = ws1.length - j ∧ j ≤ ws1.length ∧ ∃ (ωj : Wo) (csj : List Cell) (bV : List V) (bW : List Wv), ωj.fr = upd ω1.fr D (.lst bV) ∧ Le (ω4.back ω1.fr) (ωj.back ω1.fr) ∧ Ok X.K ωj Hj csj ∧ RepWs X.K ωj bV bW ∧
          Out X.K X.mg E (ωj.back ω1.fr) (loopI t1 p1 f (wipeE env' vs1) (ws1.drop j) bW csj) (fun acc' ω' cs' _ => Out X.K X.mg E ω' (loopO t p fi1 t1 p1 f vs1 (wipeE env (own.map (·.2))) (ws.drop (i + 1)) acc' cs') (fun ys ω' _ H' => ∀ q vs, H' q = none → RepWs X.K ω' vs ys → Q (.ref q) (upd H' q (.lst vs)))),
        ⟨_, rfl, Nat.zero_le _, ω4, cs4, aV, aW, fr4, Le.refl _, k4, rA.mono l24, by rw [List.drop_zero]; exact hO6.bind⟩, ?_⟩
      rintro j k Hj ⟨rfl, hj, ωj, csj, bV, bW, hfj, lj, kJ, rB, hP⟩
      have lfj : Lf ω4 ωj := ⟨lj.ex, lj.ad, lj.tb⟩
      have adv1 : ∀ {ωk : Wo}, Le ωj ωk → Le (ω4.back ω1.fr) (ωk.back ω1.fr) := fun {ωk} l => ⟨lj.ex.trans l.ex, lj.ad.trans l.ad, l.tb.trans lj.tb, rfl⟩
      have out1 : ∀ {ωk : Wo}, Le ωj ωk → Le ω1 (ωk.back ω1.fr) := fun {ωk} l => (adv l24).trans (adv1 l)
      by_cases hjt : j < ws1.length
      · refine .inr ⟨wk1.goes j ωj Hj csj hjt lfj kJ, fun Hn => ∃ k', k' < ws1.length - j ∧ (k' = ws1.length - (j + 1) ∧ j + 1 ≤ ws1.length ∧ ∃ (ωj : Wo) (csj : List Cell) (bV : List V) (bW : List Wv), ωj.fr = upd ω1.fr D (.lst bV) ∧ Le (ω4.back ω1.fr) (ωj.back ω1.fr) ∧ Ok X.K ωj Hn csj ∧ RepWs X.K ωj bV bW ∧
          Out X.K X.mg E (ωj.back ω1.fr) (loopI t1 p1 f (wipeE env' vs1) (ws1.drop (j + 1)) bW csj) (fun acc' ω' cs' _ => Out X.K X.mg E ω' (loopO t p fi1 t1 p1 f vs1 (wipeE env (own.map (·.2))) (ws.drop (i + 1)) acc' cs') (fun ys ω' _ H' => ∀ q vs, H' q = none → RepWs X.K ω' vs ys → Q (.ref q) (upd H' q (.lst vs))))), fun Hn h => h, fun x1 Hy1 y1 => ?_⟩
        obtain ⟨ω5, l5, k5, w1, ew1, rw1⟩ := wk1.yields j ωj Hj csj x1 Hy1 hjt lfj kJ y1
        have ed1 : ws1.drop j = w1 :: ws1.drop (j + 1) := by
          obtain ⟨_, e⟩ := List.getElem?_eq_some_iff.mp ew1
          rw [← e]
          exact List.drop_eq_getElem_cons hjt
        rw [ed1] at hP
        have fr5 : ω5.fr = upd ω1.fr D (.lst bV) := l5.fr.trans hfj
        have hP2 := Out.le (ω := ωj.back ω1.fr) (ω' := ω5.back ω1.fr) ⟨l5.ex, l5.ad, l5.tb, rfl⟩ hP
        obtain ⟨env1, et1, hP4⟩ := Out.opt (Out.bind (show Out X.K X.mg E (ω5.back ω1.fr) (M.bind (M.opt (t1 w1 (wipeE env' vs1))) _ csj) _ from hP2))
        have k5b : Ok X.K (ω5.back ω1.fr) Hy1 csj := k5.back (sub fr5)
        have hP5 := hP4.now k5b
        have hw5 : StRep X.K ω5 (L2.wipe σ2 vs1) (wipeE env' vs1) := by
          have q := (hw4.fr ω1.fr).mono (ω' := ω5.back ω1.fr) (adv1 l5)
          exact q.fr ω5.fr
        refine ⟨_, csj, ω5, w1, env1, hw5, k5, rw1, et1, fun σ3 hs3 ag1 => ⟨wipe_agr ag1 hsub1, ?_⟩⟩
        refine ⟨env1, csj, ω5, hs3, k5, (Out.nx (hP5.bind.under (Le.refl _) (sub fr5))).imp fun b1 ω6 cs6 H6 l6 k6 hP6 => ?_⟩
        have l56 := l5.trans l6
        have fr6 : ω6.fr = upd ω1.fr D (.lst bV) := l56.fr.trans hfj
        cases b1 with
        | false => exact ⟨_, by omega, rfl, hjt, ω6, cs6, bV, bW, fr6, adv1 l56, k6, rB.mono l56, hP6⟩
        | true =>
          refine ⟨env1, cs6, ω6, hs3.mono l6, k6, (Out.nx (Out.under (ω2 := ω6) (Out.bind hP6) (Le.refl _) (sub fr6))).imp fun yv ω7 cs7 H7 l7 k7 hP7 v rv => ?_⟩
          have l57 := l56.trans l7
          have frE : ω7.fr = upd ω1.fr D (.lst bV) := l57.fr.trans hfj
          have hD7 : ω7.fr D = some (.lst bV) := by rw [frE, upd_same]
          have hP7 : Out X.K X.mg E (ω7.back ω1.fr) ((if decide (bW.length < 16777216) = true then loopI t1 p1 f (wipeE env' vs1) (ws1.drop (j + 1)) (bW ++ [yv]) else M.bad) cs7) _ := hP7
          by_cases hz : bW.length < 16777216
          · rw [if_pos (decide_eq_true hz)] at hP7
            exact ⟨bV, k7.frx _ _ hD7, by rw [rB.len, sizeLine_eq]; exact hz, _, by omega, rfl, hjt, ω7.back (upd ω1.fr D (.lst (bV ++ [v]))), cs7, bV ++ [v], bW ++ [yv], rfl, (show Le (ω4.back ω1.fr) (ω7.back ω1.fr) from adv1 l57), k7.swap hD7 frE, ((rB.mono l57).app (.cons rv .nil)).fr _, hP7⟩
          · rw [if_neg (by simpa using hz)] at hP7
            exact (show False from hP7).elim
      · have e : j = ws1.length := by omega
        subst e
        refine .inl ⟨wk1.stops ωj Hj csj lfj kJ, ?_⟩
        rw [List.drop_length] at hP
        have kb : Ok X.K (ωj.back ω1.fr) Hj csj := kJ.back (sub hfj)
        exact ⟨_, by omega, rfl, hlt, ωj, csj, bV, bW, hfj, out1 (Le.refl _), kJ, rB, hP.now kb⟩
  · have e : i = ws.length := by omega
    subst e
    refine .inl ⟨wk.stops ωi Hx csi lf kI, ?_⟩
    rw [List.drop_length] at hO
    have hfD : ωi.fr D = some (.lst aV) := by rw [hfr, upd_same]
    have hDx : Hx D = some (.lst aV) := kI.frx D _ hfD
    have kd : Ok X.K (ωi.back ω1.fr) (hide Hx D) csi := kI.drop hfD hfr frD
    have z := hO.now kd D aV hide_same (rA.fr ω1.fr)
    rw [upd_hide hDx] at z
    exact z
/-- THE RULE of a comprehension with two clauses -/
theorem ef_lc2 {elt iter iter1 : Expr} {ifs ifs1 : List Expr} {scope : Scope} {own : List (Str × Nat)} {fi fi1 : EvI} {t t1 : Tg} {ts ts1 : List Nat} {p p1 : EvT} {f : Ev} {vs1 : List Nat} (hc : X.calm = true) (hN : X.N.Nodup) (hi : EVI X E tg iter fi) (ok : BlkOk X.N X.env.scope scope own) (hv : ∀ i ∈ vs1, i ∈ own.map (·.2))
    (hg : ∀ (s : Shared) (H : Hp) (C : Addr) (cl : List (Str × Addr)) (fp : List Addr), GV (X.blk s H scope (compEnvC scope cl C X.env) fp) tg t ts)
    (ht : ∀ (s : Shared) (H : Hp) (C : Addr) (cl : List (Str × Addr)) (fp : List Addr), EVTs (X.blk s H scope (compEnvC scope cl C X.env) fp) E0 ifs p)
    (hi1 : ∀ (s : Shared) (H : Hp) (C : Addr) (cl : List (Str × Addr)) (fp : List Addr), EVI (X.blk s H scope (compEnvC scope cl C X.env) fp) E0 tg1 iter1 fi1)
    (hg1 : ∀ (s : Shared) (H : Hp) (C : Addr) (cl : List (Str × Addr)) (fp : List Addr), GV (X.blk s H scope (compEnvC scope cl C X.env) fp) tg1 t1 ts1)
    (ht1 : ∀ (s : Shared) (H : Hp) (C : Addr) (cl : List (Str × Addr)) (fp : List Addr), EVTs (X.blk s H scope (compEnvC scope cl C X.env) fp) E0 ifs1 p1)
    (he : ∀ (s : Shared) (H : Hp) (C : Addr) (cl : List (Str × Addr)) (fp : List Addr), EV (X.blk s H scope (compEnvC scope cl C X.env) fp) E0 e f)
    (hsub : ∀ i ∈ ts, i ∈ own.map (·.2)) (hsub1 : ∀ i ∈ ts1, i ∈ vs1) (hs : ∀ x, foldedSetIterable iter X.env x = pure x := by intro _; rfl) (hs1 : ∀ env x, foldedSetIterable iter1 env x = pure x := by intro _ _; rfl) :
    EVF X E (.ListComp e [⟨tg, iter, ifs, 0⟩, ⟨tg1, iter1, ifs1, 0⟩] scope pos) (fLc2 fi t p fi1 t1 p1 f (own.map (·.2)) vs1) :=
  PE.imp (pe_lc2 (g := tEvG X.K t ts) (tt := tEvT X.K X.mg E0 p) (g1 := tEvG X.K t1 ts1) (tt1 := tEvT X.K X.mg E0 p1) (wi1 := tEvI X.K X.mg E0 fi1) (te := tEv X.K X.mg E0 f) hc hN hi ok hv hg ht hi1 hg1 ht1 he hs hs1) fun _ _ _ h => lc2_use hsub hsub1 h
theorem sv_setLc2 {elt iter iter1 : Expr} {ifs ifs1 : List Expr} {scope : Scope} {own : List (Str × Nat)} {fi fi1 : EvI} {t t1 : Tg} {ts ts1 : List Nat} {p p1 : EvT} {f : Ev} {vs1 : List Nat} {i : Nat} {y : Str} {py lpos : Pos} (g : EvF → Ev)
    (hgu : ∀ (f : EvF) (σ : L2.St) (H : Hp) (Q : VK), tEv X.K X.mg E (g f) σ H Q → tEvF X.K X.mg E f σ H Q)
    (hc : X.calm = true) (hN : X.N.Nodup) (hy : X.N[i]? = some y) (hyl : X.env.scope.names.lookup y = some .local) (hsw : swapsWith (.ListComp e [⟨tg, iter, ifs, 0⟩, ⟨tg1, iter1, ifs1, 0⟩] scope lpos) (some (.Name y py)) pos.line X.env = pure true)
    (hi : EVI X E tg iter fi) (ok : BlkOk X.N X.env.scope scope own) (hv : ∀ i ∈ vs1, i ∈ own.map (·.2))
    (hg : ∀ (s : Shared) (H : Hp) (C : Addr) (cl : List (Str × Addr)) (fp : List Addr), GV (X.blk s H scope (compEnvC scope cl C X.env) fp) tg t ts)
    (ht : ∀ (s : Shared) (H : Hp) (C : Addr) (cl : List (Str × Addr)) (fp : List Addr), EVTs (X.blk s H scope (compEnvC scope cl C X.env) fp) E0 ifs p)
    (hi1 : ∀ (s : Shared) (H : Hp) (C : Addr) (cl : List (Str × Addr)) (fp : List Addr), EVI (X.blk s H scope (compEnvC scope cl C X.env) fp) E0 tg1 iter1 fi1)
    (hg1 : ∀ (s : Shared) (H : Hp) (C : Addr) (cl : List (Str × Addr)) (fp : List Addr), GV (X.blk s H scope (compEnvC scope cl C X.env) fp) tg1 t1 ts1)
    (ht1 : ∀ (s : Shared) (H : Hp) (C : Addr) (cl : List (Str × Addr)) (fp : List Addr), EVTs (X.blk s H scope (compEnvC scope cl C X.env) fp) E0 ifs1 p1)
    (he : ∀ (s : Shared) (H : Hp) (C : Addr) (cl : List (Str × Addr)) (fp : List Addr), EV (X.blk s H scope (compEnvC scope cl C X.env) fp) E0 e f)
    (hsub : ∀ i ∈ ts, i ∈ own.map (·.2)) (hsub1 : ∀ i ∈ ts1, i ∈ vs1) (hs : ∀ x, foldedSetIterable iter X.env x = pure x := by intro _; rfl) (hs1 : ∀ env x, foldedSetIterable iter1 env x = pure x := by intro _ _; rfl) :
    SV X E (.Assign [.Name y py] (.ListComp e [⟨tg, iter, ifs, 0⟩, ⟨tg1, iter1, ifs1, 0⟩] scope lpos) pos) (sSet i (g (fLc2 fi t p fi1 t1 p1 f (own.map (·.2)) vs1))) :=
  PS.imp (ps_setLc2 (g := tEvG X.K t ts) (tt := tEvT X.K X.mg E0 p) (g1 := tEvG X.K t1 ts1) (tt1 := tEvT X.K X.mg E0 p1) (wi1 := tEvI X.K X.mg E0 fi1) (te := tEv X.K X.mg E0 f) hc hN hy hyl hsw hi ok hv hg ht hi1 hg1 ht1 he hs hs1) fun D σ H h => by
    have h2 : tAsg (tEv X.K X.mg E (g (fLc2 fi t p fi1 t1 p1 f (own.map (·.2)) vs1))) (gName i) D σ H := set_use h
    exact lc2_use hsub hsub1 (hgu _ _ _ _ h2)
end
end DX

set_option Elab.async false
set_option linter.all false
set_option maxRecDepth 100000
set_option maxHeartbeats 2000000
/-! D17: more steps, and loops by what they keep. -/
namespace DX
open PySem PySem.Spec PyProof.Rows L2
section
variable {d x y z : Dt} {u v w : Wv} {cs cs1 : List Cell} {env env1 : En} {f g h : Ev} {p q : EvT} {i j l : Nat} {ga gb : EvA} {s t : Sv} {ws vs : List Wv} {ds es : List Dt} {n m : Int}
theorem s_frz : eFrz f env cs = rb (f env cs) mFrz := mb _ _ _
theorem k_frzd : mFrz (.dat d) cs = .ok (.dat d) cs := (rfl)
theorem frzc_of (h : cs[i]? = some (.lst ws)) (h2 : dats ws = some ds) : mFrz (.cel i) cs = .ok (.dat (.lst ds)) (cs.set i .dead) := by
  unfold mFrz
  dsimp only
  rw [h]
  unfold cFrz
  dsimp only
  rw [h2]
  rfl
theorem s_fld {C : Addr} {k : Str} : eFld C k f env cs = rb (f env cs) (mFld C k) := mb _ _ _
theorem k_fld {C : Addr} {k : Str} : mFld C k u cs = rW (wFld C k cs u) cs := rW_opt _
theorem s_rgl1 {mk : List Dt → Dt} : eRgL1 mk f env cs = rb (f env cs) (kRgL1 mk) := mb _ _ _
theorem k_rgl1 {mk : List Dt → Dt} (h : -4611686018427387904 ≤ n) (h2 : n ≤ 16777216) : kRgL1 mk (.dat (.int n)) cs = .ok (.dat (mk (rangeD 0 n.toNat))) cs := by
  unfold kRgL1
  dsimp only
  rw [if_pos (by unfold okR; simp only [Bool.and_eq_true, decide_eq_true_eq]; omega)]
  rfl
def kRgL (mk : List Dt → Dt) (g : Ev) (env : En) (x : Wv) : M Wv := M.bind (g env) fun y => kRgL2 mk x y
theorem s_rgl2 {mk : List Dt → Dt} : eRgL2 mk f g env cs = rb (f env cs) (kRgL mk g env) := mb _ _ _
theorem k_rgl {mk : List Dt → Dt} : kRgL mk g env u cs = rb (g env cs) (kRgL2 mk u) := mb _ _ _
theorem k_rgl2 {mk : List Dt → Dt} (h : -4611686018427387904 ≤ n) (h2 : n < 4611686018427387904) (h3 : -4611686018427387904 ≤ m) (h4 : m < 4611686018427387904) (h5 : (m - n).toNat ≤ 16777216) : kRgL2 mk (.dat (.int n)) (.dat (.int m)) cs = .ok (.dat (mk (rangeD n (m - n).toNat))) cs := by
  unfold kRgL2
  dsimp only
  rw [if_pos (by unfold okR; simp only [Bool.and_eq_true, decide_eq_true_eq]; omega)]
  rfl
def kLc2 (t : Tg) (p : EvT) (g1 : EvI) (t1 : Tg) (p1 : EvT) (f : Ev) (vs vs1 : List Nat) (env : En) (ws : List Wv) : M (List Wv) := loopO t p g1 t1 p1 f vs1 (wipeE env vs) ws []
theorem s_flc2 {gi g1 : EvI} {t t1 : Tg} {p1 : EvT} {is is1 : List Nat} : fLc2 gi t p g1 t1 p1 f is is1 env cs = rb (gi env cs) (kLc2 t p g1 t1 p1 f is is1 env) := mb _ _ _
theorem k_lc2 {g1 : EvI} {t t1 : Tg} {p1 : EvT} {is is1 : List Nat} : kLc2 t p g1 t1 p1 f is is1 env ws cs = loopO t p g1 t1 p1 f is1 (wipeE env is) ws [] cs := (rfl)
theorem methl_of {o : Wv → List Wv → M Wv} {a : Nat} (h : cs[a]? = some (.lst ws)) : kMeth okLst o ga env (.cel a) cs = rb (ga env cs) (o (.cel a)) := k_meth (ok_lst h)
theorem extend_of (h : cs[i]? = some (.lst ws)) (hl : ws.length + ds.length ≤ 16777216) : oExtend (.cel i) [.dat (.lst ds)] cs = .ok (.dat .non) (cs.set i (.lst (ws ++ ds.map .dat))) := by
  unfold oExtend
  dsimp only
  rw [h]
  dsimp only
  rw [if_pos (decide_eq_true hl)]
def kNewA (fz : Bool) (C : Addr) (n : Nat) (m : Fn) (ws : List Wv) : M Wv := if ws.length + 1 = n then mNew fz C m ws else M.bad
theorem s_new {fz : Bool} {C : Addr} {n : Nat} {m : Fn} : eNew fz C n m ga env cs = rb (ga env cs) (kNewA fz C n m) := mb _ _ _
theorem k_new2 {fz : Bool} {C : Addr} {m : Fn} : kNewA fz C 3 m [u, v] cs = mNew fz C m [u, v] cs := (rfl)
theorem mnew_is {fz : Bool} {C : Addr} {m : Fn} : mNew fz C m ws cs = rb (m (.cel cs.length :: ws) (cs ++ [.ins C []])) (kNew fz cs.length) := mb _ _ _
theorem mnew_x {fz : Bool} {C : Addr} {m : Fn} {e : Str} (h : m (.cel cs.length :: ws) (cs ++ [.ins C []]) = .exc e cs1) : mNew fz C m ws cs = .exc e cs1 := by
  rw [mnew_is, h]
  rfl
end
/-! ### loops -/
section
variable {α : Type} {t : Tg} {p : EvT} {f : Ev} {b : Sv} {env : En} {cs : List Cell}
theorem nx_ok {α : Type} {m : M α} {cs cs1 : List Cell} {a : α} (h : m cs = .ok a cs1) : M.nx m cs = .ok a cs1 := by
  unfold M.nx
  rw [h]
/-- a comprehension with a test -/
theorem lc_filter (en : α → Wv) (h : α → Dt) (P : α → Bool) : ∀ l : List α, (∀ x ∈ l, ∃ env', t (en x) env = some env' ∧ p env' cs = .ok (P x) cs ∧ (P x = true → f env' cs = .ok (.dat (h x)) cs)) → loopC t p f env (l.map en) cs = .ok (((l.filter P).map h).map Wv.dat) cs
  | [], _ => rfl
  | x :: l, hb => by
    obtain ⟨env', e1, e2, e3⟩ := hb x List.mem_cons_self
    have ih := lc_filter en h P l fun y hy => hb y (List.mem_cons_of_mem _ hy)
    rw [List.map_cons]
    unfold loopC
    rw [e1, mb, m_opt, rb_ok, mb, nx_ok e2, rb_ok]
    cases hp : P x with
    | true =>
      rw [if_pos rfl, mb, nx_ok (e3 hp), rb_ok, mb, ih, rb_ok, List.filter_cons_of_pos hp]
      rfl
    | false => rw [if_neg Bool.false_ne_true, ih, List.filter_cons_of_neg (by simp [hp])]
theorem lc_map (en : α → Wv) (h : α → Dt) (l : List α) (hb : ∀ x ∈ l, ∃ env', t (en x) env = some env' ∧ f env' cs = .ok (.dat (h x)) cs) : loopC t tYesE f env (l.map en) cs = .ok ((l.map h).map Wv.dat) cs := by
  have q := lc_filter (t := t) (p := tYesE) (f := f) (env := env) (cs := cs) en h (fun _ => true) l fun x hx => let ⟨e, h1, h2⟩ := hb x hx; ⟨e, h1, rfl, fun _ => h2⟩
  rw [q, List.filter_eq_self.mpr (fun _ _ => rfl)]
theorem lc_mapD {β : Type} (en : β → Dt) (h : β → Dt) (l : List β) (hb : ∀ x ∈ l, ∃ env', t (.dat (en x)) env = some env' ∧ f env' cs = .ok (.dat (h x)) cs) : loopC t tYesE f env ((l.map en).map Wv.dat) cs = .ok ((l.map h).map Wv.dat) cs := by
  rw [List.map_map]
  exact lc_map (Wv.dat ∘ en) h l hb
theorem lc_filterD {β : Type} (en : β → Dt) (h : β → Dt) (P : β → Bool) (l : List β) (hb : ∀ x ∈ l, ∃ env', t (.dat (en x)) env = some env' ∧ p env' cs = .ok (P x) cs ∧ (P x = true → f env' cs = .ok (.dat (h x)) cs)) : loopC t p f env ((l.map en).map Wv.dat) cs = .ok (((l.filter P).map h).map Wv.dat) cs := by
  rw [List.map_map]
  exact lc_filter (Wv.dat ∘ en) h P l hb
theorem enum_map {β : Type} (en : β → Dt) (l : List β) : enumW (l.map en) = l.zipIdx.map fun q => .dat (.tup [.int (q.2 : Nat), en q.1]) := by
  unfold enumW
  rw [List.mapIdx_eq_zipIdx_map, List.zipIdx_map, List.map_map]
  rfl
theorem zip_map {β γ : Type} (en : β → Dt) (em : γ → Dt) : ∀ (l : List β) (m : List γ), zipW (l.map en) (m.map em) = (l.zip m).map fun q => .dat (.tup [en q.1, em q.2])
  | [], _ => by simp [zipW]
  | _ :: _, [] => by simp [zipW]
  | x :: l, y :: m => by
    have ih := zip_map en em l m
    unfold zipW at ih ⊢
    simp [ih]
theorem signs_map (z : Str) : signs z = z.cps.toList.map fun c => .dat (.str ⟨#[c]⟩) := rfl
theorem signD_map (z : Str) : signD z = z.cps.toList.map fun c => .str ⟨#[c]⟩ := rfl
/-- a for loop by what it keeps -/
theorem ls_keep (en : α → Wv) (R : List α → En → List Cell → Prop) : ∀ (l pre : List α) (env : En) (cs : List Cell), (∀ pr x post env cs, pre ++ l = pr ++ x :: post → R pr env cs → ∃ env' env'' cs'', t (en x) env = some env' ∧ (b env' cs = .ok (.nx env'') cs'' ∨ b env' cs = .ok (.ct env'') cs'') ∧ R (pr ++ [x]) env'' cs'') → R pre env cs →
    ∃ env' cs', loopS t b (l.map en) env cs = .ok (.nx env') cs' ∧ R (pre ++ l) env' cs'
  | [], pre, env, cs, _, h0 => ⟨env, cs, rfl, by rw [List.append_nil]; exact h0⟩
  | x :: l, pre, env, cs, h, h0 => by
    obtain ⟨env', env'', cs'', e1, e2, h1⟩ := h pre x l env cs rfl h0
    obtain ⟨env3, cs3, e3, h3⟩ := ls_keep en R l (pre ++ [x]) env'' cs'' (fun pr y post env cs e => h pr y post env cs (by rw [← e]; simp)) h1
    refine ⟨env3, cs3, ?_, by simpa using h3⟩
    rw [List.map_cons]
    unfold loopS
    rw [e1, mb, m_opt, rb_ok, mb]
    rcases e2 with e2 | e2 <;> rw [e2, rb_ok] <;> exact e3
theorem ls_all (en : α → Wv) (R : List α → En → List Cell → Prop) (l : List α) {env : En} {cs : List Cell} (h : ∀ pr x post env cs, l = pr ++ x :: post → R pr env cs → ∃ env' env'' cs'', t (en x) env = some env' ∧ (b env' cs = .ok (.nx env'') cs'' ∨ b env' cs = .ok (.ct env'') cs'') ∧ R (pr ++ [x]) env'' cs'') (h0 : R [] env cs) :
    ∃ env' cs', loopS t b (l.map en) env cs = .ok (.nx env') cs' ∧ R l env' cs' := ls_keep en R l [] env cs h h0
/-- .. that may be left by a return -/
theorem ls_ret (en : α → Wv) (R : List α → En → List Cell → Prop) (Z : List α → α → Wv → List Cell → Prop) : ∀ (l pre : List α) (env : En) (cs : List Cell), (∀ pr x post env cs, pre ++ l = pr ++ x :: post → R pr env cs → ∃ env', t (en x) env = some env' ∧ ((∃ env'' cs'', (b env' cs = .ok (.nx env'') cs'' ∨ b env' cs = .ok (.ct env'') cs'') ∧ R (pr ++ [x]) env'' cs'') ∨ ∃ w cs'', b env' cs = .ok (.rt w) cs'' ∧ Z pr x w cs'')) → R pre env cs →
    (∃ env' cs', loopS t b (l.map en) env cs = .ok (.nx env') cs' ∧ R (pre ++ l) env' cs') ∨ ∃ pr x post w cs', pre ++ l = pr ++ x :: post ∧ loopS t b (l.map en) env cs = .ok (.rt w) cs' ∧ Z pr x w cs'
  | [], pre, env, cs, _, h0 => .inl ⟨env, cs, rfl, by rw [List.append_nil]; exact h0⟩
  | x :: l, pre, env, cs, h, h0 => by
    obtain ⟨env', e1, h2⟩ := h pre x l env cs rfl h0
    rw [List.map_cons]
    unfold loopS
    rw [e1, mb, m_opt, rb_ok, mb]
    rcases h2 with ⟨env'', cs'', e2, h1⟩ | ⟨w, cs'', e2, h1⟩
    · have ih := ls_ret en R Z l (pre ++ [x]) env'' cs'' (fun pr y post env cs e => h pr y post env cs (by rw [← e]; simp)) h1
      have e4 : pre ++ [x] ++ l = pre ++ x :: l := by simp
      rw [e4] at ih
      rcases e2 with e2 | e2 <;> rw [e2, rb_ok] <;> exact ih
    · rw [e2, rb_ok]
      exact .inr ⟨pre, x, l, w, cs'', rfl, rfl, h1⟩
end
end DX

set_option Elab.async false
set_option linter.all false
set_option maxRecDepth 100000
set_option maxHeartbeats 2000000
/-! D18: list(text). -/
namespace DX
variable [TabT]
open PySem PySem.Spec PyProof.Rows L2
theorem vals_idx : ∀ (xs : List V) (us : List Value), us.length = xs.length → (∀ (j : Nat) (u : Value), us[j]? = some u → ∃ x, xs[j]? = some x ∧ RelV x u) → Vals xs us
  | [], [], _, _ => .nil
  | [], _ :: _, h, _ => by simp at h
  | _ :: _, [], h, _ => by simp at h
  | x :: xs, u :: us, h, k => by
    obtain ⟨y, e, r⟩ := k 0 u rfl
    cases e
    exact .cons r (vals_idx xs us (by simpa using h) fun j v hv => by simpa using k (j + 1) v (by simpa using hv))
def rListS : List V → Hp → VK → Prop := fun xs H Q => ∃ z : Str, xs = [V.str z] ∧ z.cps.size ≤ sizeLine ∧ ∀ l, H l = none → Q (.ref l) (upd H l (.lst (z.cps.toList.map fun c => V.str ⟨#[c]⟩)))
theorem call_listS {X : Cx} (hc : X.calm = true) : CallR X (.type "list") rListS := by
  intro pins s σ H xs us Q I r h
  obtain ⟨z, rfl, hz, q⟩ := h
  obtain ⟨u, rfl, t, rfl⟩ := vals1 r
  refine PySem.call_list_str (I.ok.hd hc) z t (hn := hz) fun h' tk acc' c' kp e hi => ?_
  have hv : Vals (z.cps.toList.map fun c => V.str ⟨#[c]⟩) acc'.toList := vals_idx _ _ (by simp [hi.1]) fun j u hj => by
    obtain ⟨c, t, h1, rfl⟩ := hi.2 j u (by simpa using hj)
    exact ⟨.str ⟨#[c]⟩, by simp [h1], ⟨t, rfl⟩⟩
  refine ⟨.ref s.heap.objs.size, _, I.laid (t' := tk) kp (Nat.le_refl _) (show ObjOk X.prog X.w _ h' _ (.lst _) from ⟨by simpa using hz, acc'.toList, c', hv, by simpa using e⟩), rfl, q _ (I.hok.fresh (Nat.le_refl _))⟩
def dListS : Dt → Option Dt
  | .str s => if szOk s.length = true then some (.lst (signD s)) else none
  | _ => none
theorem rep_signs {K : Frag} {H : Hp} : ∀ l : List Nat, RepL K H (l.map fun c => V.str ⟨#[c]⟩) (l.map fun c => Dt.str ⟨#[c]⟩)
  | [] => .nil
  | c :: l => .cons (.str _) (rep_signs l)
theorem co_listS {K : Frag} : CallO K rListS (o1 dListS) := fun ω H cs vs ws z k rv e Q q => by
  obtain ⟨d, rfl, e⟩ := o1_of e
  obtain ⟨v, rfl, r⟩ := rv.one
  cases d with
  | str s =>
    have e : (if szOk s.length = true then some (Dt.lst (signD s)) else none) = some z := e
    by_cases hs : szOk s.length = true
    · rw [if_pos hs] at e
      cases e
      cases r
      exact ⟨s, rfl, szOk_of hs, froze_use k q fun p hp => .lst upd_same (rep_signs _)⟩
    · rw [if_neg hs] at e
      cases e
  | _ => cases e
def oListOf : List Wv → List Cell → Option Dt := fun ws cs => (oSeq dListOf .lst ws cs).or (o1 dListS ws cs)
section
variable {X : Cx} {E : XK} {e : Expr} {p pos : Pos} {ga : EvA}
theorem b_list2 (hc : X.calm = true) (hg : Gl X "list") (hm : X.mg "list" = none) (ha : EVA X E [e] ga) (he : starEach [e] X.env = (false, eval e X.env) :: starEach [] X.env := by rfl) : EV X E (.Call (.Name "list" p) [e] [] pos) (eCall oListOf ga) := ev_callTy (CallR.or call_list_of (call_listS hc)) (CallO.or co_list co_listS) hg hm boot_list ha (by decide) (by decide) he rfl
end
/-! two lists in one, a new one -/
def kCat (x y : Wv) : M (List Wv) := match x, y with
  | .dat (.lst ds), .dat (.lst es) => if decide (ds.length + es.length ≤ 16777216) = true then M.ret ((ds ++ es).map .dat) else M.bad
  | _, _ => M.bad
def fCat (f g : Ev) : EvF := fun env => M.bind (f env) fun x => M.bind (g env) fun y => kCat x y
section
variable {X : Cx} {E : XK} {a b : Expr} {pos : Pos} {f g : Ev}
theorem ef_cat (ha : EV X E a f) (hb : EV X E b g) : EVF X E (.BinOp a .Add b pos) (fCat f g) :=
  PE.imp (pe_op op_cat ha hb) fun σ H Q ⟨env, cs, ω, hs, hk, h⟩ => ⟨env, cs, ω, hs, hk, h.bind.imp fun x ω1 cs1 H1 l1 k1 h1 u ru => ⟨env, cs1, ω1, hs.mono l1, k1, h1.bind.imp fun y ω2 cs2 H2 l2 k2 h2 v rv => by
    have ru := ru.mono l2
    cases x with
    | cel j => exact (show False from h2).elim
    | dat d =>
      cases y with
      | cel j => cases d <;> exact (show False from h2).elim
      | dat e =>
        cases d with
        | lst ds =>
          cases e with
          | lst es =>
            have h2 : Out X.K X.mg E ω2 ((if decide (ds.length + es.length ≤ 16777216) = true then M.ret ((ds ++ es).map Wv.dat) else M.bad) cs2) _ := h2
            by_cases hl : ds.length + es.length ≤ 16777216
            · rw [if_pos (decide_eq_true hl)] at h2
              cases (show RepD X.K ω2.Hs u (.lst ds) from ru) with
              | lst g1 g2 =>
                cases (show RepD X.K ω2.Hs v (.lst es) from rv) with
                | lst g3 g4 => exact ⟨_, _, _, _, rfl, rfl, k2.ex _ _ g1, k2.ex _ _ g3, by rw [g2.len, g4.len, sizeLine_eq]; exact hl, fun p hp => h2.now k2 p _ hp (.of (g2.app g4))⟩
            · rw [if_neg (by simpa using hl)] at h2
              exact (show False from h2).elim
          | _ => exact (show False from h2).elim
        | _ => cases e <;> exact (show False from h2).elim⟩⟩
end
end DX
namespace DX
open PySem PySem.Spec PyProof.Rows L2
section
variable {cs : List Cell} {env : En} {f g : Ev} {ds es : List Dt} {u : Wv}
def kCatA (g : Ev) (env : En) (x : Wv) : M (List Wv) := M.bind (g env) fun y => kCat x y
theorem dk_cat : fCat f g env cs = rb (f env cs) (kCatA g env) := mb _ _ _
theorem dk_cat2 : kCatA g env u cs = rb (g env cs) (kCat u) := mb _ _ _
theorem dk_cat3 (h : ds.length + es.length ≤ 16777216) : kCat (.dat (.lst ds)) (.dat (.lst es)) cs = .ok ((ds ++ es).map .dat) cs := by
  show (if decide (ds.length + es.length ≤ 16777216) = true then M.ret ((ds ++ es).map Wv.dat) else M.bad) cs = _
  rw [if_pos (decide_eq_true h)]
  rfl
end
section
variable {cs : List Cell} {env : En} {f : Ev} {k : Key} {u : Wv} {x : Dt} {l : List (Key × Ev)} {kw : List (Key × Wv)} {kd : List (Key × Dt)}
def kVal (k : Key) (l : List (Key × Ev)) (env : En) (x : Wv) : M (List (Key × Wv)) := M.bind (mVals l env) fun r => M.ret ((k, x) :: r)
def kVal2 (k : Key) (x : Wv) (r : List (Key × Wv)) : M (List (Key × Wv)) := M.ret ((k, x) :: r)
theorem dk_nil : mVals [] env cs = .ok [] cs := (rfl)
theorem dk_cons : mVals ((k, f) :: l) env cs = rb (f env cs) (kVal k l env) := mb _ _ _
theorem dk_val : kVal k l env u cs = rb (mVals l env cs) (kVal2 k u) := mb _ _ _
theorem dk_val2 : kVal2 k u kw cs = .ok ((k, u) :: kw) cs := (rfl)
def kDicC (ws : List (Key × Wv)) : M Wv := mCell (.dic ws)
theorem dk_dicC : eDicC l env cs = rb (mVals l env cs) kDicC := mb _ _ _
theorem dk_dicC2 : kDicC kw cs = .ok (.cel cs.length) (cs ++ [.dic kw]) := (rfl)
def rK (o : Option (List (Key × Dt))) (cs : List Cell) : R Wv := match o with
  | some ds => .ok (.dat (.dic ds)) cs
  | none => .bad
def kDic (ws : List (Key × Wv)) : M Wv := M.bind (M.opt (datK ws)) fun ds => M.ret (.dat (.dic ds))
theorem dk_dic : eDic l env cs = rb (mVals l env cs) kDic := mb _ _ _
theorem dk_dic2 : kDic kw cs = rK (datK kw) cs := by
  unfold kDic
  rw [mb]
  cases datK kw <;> rfl
theorem dk_rK : rK (some kd) cs = .ok (.dat (.dic kd)) cs := (rfl)
theorem dk_dat : datK ((k, .dat x) :: kw) = (datK kw).map ((k, x) :: ·) := (rfl)
theorem dk_datn : datK [] = some [] := (rfl)
theorem eq_nn : eqC false (.dat (.lst [])) (.dat (.lst [])) cs = some (.bl true) := (rfl)
theorem ne_nn : eqC true (.dat (.lst [])) (.dat (.lst [])) cs = some (.bl false) := (rfl)
end
section
variable {ds : List Dt} {cs : List Cell} {i : Nat} {ws : List Wv}
theorem lo_l : oListOf [.dat (.lst ds)] cs = some (.lst ds) := (rfl)
theorem lo_t : oListOf [.dat (.tup ds)] cs = some (.lst ds) := (rfl)
theorem lo_s {a : Str} (h : a.length ≤ 16777216) : oListOf [.dat (.str a)] cs = some (.lst (signD a)) := by
  show Option.or none (if szOk a.length = true then some (Dt.lst (signD a)) else none) = _
  rw [if_pos (show szOk _ = true from decide_eq_true h)]
  rfl
theorem lo_c (h : cs[i]? = some (.lst ws)) (h2 : dats ws = some ds) : oListOf [.cel i] cs = some (.lst ds) := by
  show Option.or (cSeq Dt.lst cs[i]?) _ = _
  rw [h]
  show Option.or ((dats ws).map Dt.lst) _ = _
  rw [h2]
  rfl
end
section
variable {cs : List Cell} {env : En} {f g : Ev} {ds es : List Dt} {d x y : Dt} {u w : Wv} {i : Nat} {ws : List Wv} {ga : EvA} {r : R Wv} {C : Addr} {k : Str} {l : List (Str × Wv)}
/-! cells, without premises -/
def rF (o : Option Dt) (i : Nat) (cs : List Cell) : R Wv := match o with
  | some d => .ok (.dat d) (cs.set i .dead)
  | none => .bad
theorem dk_frz : mFrz (.cel i) cs = rF (cFrz cs[i]?) i cs := by
  unfold mFrz rF
  all_goals dsimp only
  all_goals (cases cFrz cs[i]? <;> rfl)
theorem dk_rF : rF (some d) i cs = .ok (.dat d) (cs.set i .dead) := (rfl)
theorem dk_cfrz : cFrz (some (.lst ws)) = (dats ws).map .lst := (rfl)
def rLst (c : Option Cell) (r : R Wv) : R Wv := match c with
  | some (.lst _) => r
  | _ => .bad
def isLstC (c : Option Cell) : Bool := match c with
  | some (.lst _) => true
  | _ => false
theorem okl : okLst (.cel i) cs = isLstC cs[i]? := by
  unfold okLst isLstC
  all_goals dsimp only
  all_goals generalize cs[i]? = c
  all_goals (rcases c with _ | c)
  all_goals (first | rfl | (cases c <;> rfl))
theorem dk_methc {o : Wv → List Wv → M Wv} : kMeth okLst o ga env (.cel i) cs = rLst cs[i]? (rb (ga env cs) (o (.cel i))) := by
  obtain ⟨c, h⟩ : ∃ c, cs[i]? = c := ⟨_, rfl⟩
  rw [h]
  have no : okLst (.cel i) cs = false → kMeth okLst o ga env (.cel i) cs = .bad := fun e => by
    unfold kMeth
    rw [e]
    rfl
  have val : okLst (.cel i) cs = isLstC c := by rw [okl, h]
  cases c with
  | none => exact no val
  | some c =>
    cases c with
    | lst l => exact k_meth val
    | _ => exact no val
theorem dk_rLst : rLst (some (.lst ws)) r = r := (rfl)
def rApp (c : Option Cell) (i : Nat) (u : Wv) (cs : List Cell) : R Wv := match c with
  | some (.lst ws) => if ws.length < 16777216 then .ok (.dat .non) (cs.set i (.lst (ws ++ [u]))) else .bad
  | _ => .bad
theorem dk_app : oAppend (.cel i) [u] cs = rApp cs[i]? i u cs := by
  unfold oAppend rApp
  dsimp only
  cases cs[i]? with
  | none => rfl
  | some c =>
    cases c with
    | lst ws =>
      dsimp only
      by_cases h : ws.length < 16777216
      · rw [if_pos (decide_eq_true h), if_pos h]
      · rw [if_neg (by simpa using h), if_neg h]
    | _ => rfl
theorem dk_rApp (h : ws.length < 16777216) : rApp (some (.lst ws)) i u cs = .ok (.dat .non) (cs.set i (.lst (ws ++ [u]))) := if_pos h
def rExt (c : Option Cell) (i : Nat) (ds : List Dt) (cs : List Cell) : R Wv := match c with
  | some (.lst ws) => if ws.length + ds.length ≤ 16777216 then .ok (.dat .non) (cs.set i (.lst (ws ++ ds.map .dat))) else .bad
  | _ => .bad
theorem dk_ext : oExtend (.cel i) [.dat (.lst ds)] cs = rExt cs[i]? i ds cs := by
  unfold oExtend rExt
  dsimp only
  cases cs[i]? with
  | none => rfl
  | some c =>
    cases c with
    | lst ws =>
      dsimp only
      by_cases h : ws.length + ds.length ≤ 16777216
      · rw [if_pos (decide_eq_true h), if_pos h]
      · rw [if_neg (by simpa using h), if_neg h]
    | _ => rfl
theorem dk_rExt (h : ws.length + ds.length ≤ 16777216) : rExt (some (.lst ws)) i ds cs = .ok (.dat .non) (cs.set i (.lst (ws ++ ds.map .dat))) := if_pos h
theorem dk_snoc : ∀ {ws : List Wv}, dats (ws ++ [.dat x]) = (dats ws).map (· ++ [x])
  | [] => rfl
  | .dat d :: ws => by
    show (dats (ws ++ [.dat x])).map (d :: ·) = ((dats ws).map (d :: ·)).map (· ++ [x])
    rw [dk_snoc (ws := ws)]
    cases dats ws <;> rfl
  | .cel j :: ws => rfl
theorem dats_app : ∀ {ws vs : List Wv} {ds es : List Dt}, dats ws = some ds → dats vs = some es → dats (ws ++ vs) = some (ds ++ es)
  | [], _, _, _, h, g => by cases h; exact g
  | .dat d :: ws, vs, ds, es, h, g => by
    have h : (dats ws).map (d :: ·) = some ds := h
    cases e : dats ws with
    | none => rw [e] at h; cases h
    | some zs =>
      rw [e] at h
      cases h
      show (dats (ws ++ vs)).map (d :: ·) = _
      rw [dats_app e g]
      rfl
  | .cel j :: ws, _, _, _, h, _ => by cases h
theorem dk_last {α : Type} {l : List α} {a : α} : (l ++ [a])[l.length]? = some a := List.getElem?_concat_length
theorem dk_setl {α : Type} {l : List α} {a b : α} : (l ++ [a]).set l.length b = l ++ [b] := by simp
/-! fields -/
def kPutFA (C : Addr) (k : Str) (o : Ev) (env : En) (w : Wv) : M Fl := M.bind (o env) fun x => M.bind (mPutF C k x w) fun _ => M.ret (.nx env)
def kPutFB (C : Addr) (k : Str) (env : En) (w x : Wv) : M Fl := M.bind (mPutF C k x w) fun _ => M.ret (.nx env)
theorem dk_putF : sPutF C k f g env cs = rb (g env cs) (kPutFA C k f env) := mb _ _ _
theorem dk_putF2 : kPutFA C k f env w cs = rb (f env cs) (kPutFB C k env w) := mb _ _ _
theorem dk_putF3 : kPutFB C k env w u cs = rb (mPutF C k u w cs) (kPut4 env) := mb _ _ _
def rPF (c : Option Cell) (C : Addr) (k : Str) (w : Wv) (i : Nat) (cs : List Cell) : R Unit := match c with
  | some (.ins D l) => if D = C ∧ l.length < 1000 then .ok () (cs.set i (.ins C (putFW k w l))) else .bad
  | _ => .bad
theorem dk_putF4 : mPutF C k (.cel i) w cs = rPF cs[i]? C k w i cs := by
  unfold mPutF rPF
  all_goals dsimp only
  all_goals generalize cs[i]? = c
  all_goals (rcases c with _ | c)
  all_goals (first | rfl | (cases c <;> rfl))
theorem dk_rPF (h : l.length < 1000) : rPF (some (.ins C l)) C k w i cs = .ok () (cs.set i (.ins C (putFW k w l))) := if_pos ⟨rfl, h⟩
theorem dk_new {fz : Bool} {m : Fn} : mNew fz C m ws cs = rb (m (.cel cs.length :: ws) (cs ++ [.ins C []])) (kNew fz cs.length) := mb _ _ _
theorem dk_newT : kNew true i (.dat .non) cs = rF (cFrz cs[i]?) i cs := dk_frz
theorem dk_cfrzI : cFrz (some (.ins C l)) = (datF l).map (.obj C) := (rfl)
theorem cut_len {z : Str} {lo hi : Option Int} : (cutS z lo hi).length ≤ z.length := by
  unfold cutS Str.length
  simp
  omega
theorem slice_some {z : Str} {lo hi : Option Int} (hz : z.length ≤ 16777216) : ∃ z', dSl (.str z) lo hi = some (.str z') ∧ z'.length ≤ z.length :=
  ⟨cutS z lo hi, if_pos (show szOk _ = true from decide_eq_true hz), cut_len⟩
end
theorem lookup_map_nk (c : Str → NameKind → Bool) (x : Str) : ∀ (l : List (Str × NameKind)), (l.map fun (n, k) => if c n k = true then (n, NameKind.cell) else (n, k)).lookup x = (l.lookup x).map fun k => if c x k = true then NameKind.cell else k := by
  intro l
  induction l with
  | nil => rfl
  | cons a l ih =>
    obtain ⟨n, k⟩ := a
    show List.lookup x ((if c n k = true then (n, NameKind.cell) else (n, k)) :: _) = _
    by_cases h : x = n
    · subst h
      cases hc : c x k <;> simp [List.lookup_cons, hc]
    · have e : (x == n) = false := by simpa using h
      cases c n k <;> simp only [if_true, Bool.false_eq_true, if_false, List.lookup_cons, e, ih]
theorem blkOk_in {X : Cx} {N : List Str} {s : Shared} {H : Hp} {sc0 : Scope} {C : Addr} {cl : List (Str × Addr)} {fp : List Addr} {scope : Scope} {own : List (Str × Nat)} (hN : X.N = N) (h : blkC N sc0 scope own = true) :
    BlkOk (X.blk s H sc0 (compEnvC sc0 cl C X.env) fp).N (X.blk s H sc0 (compEnvC sc0 cl C X.env) fp).env.scope scope own := by
  subst hN
  have q := blkOk_by h
  refine ⟨q.kind, q.uniq, q.ix, fun y hy e => ?_, q.own⟩
  show List.lookup y.1 (relabel sc0 X.env).names = _ ∨ List.lookup y.1 (relabel sc0 X.env).names = _
  unfold relabel
  rw [lookup_map_nk (c := fun n k => k == NameKind.free && X.env.scope.kind == .function && X.env.kindOf n == some .cell)]
  rcases q.free y hy e with h | h <;> rw [h]
  · exact .inl rfl
  · by_cases c : (X.env.scope.kind == ScopeKind.function && X.env.kindOf y.1 == some NameKind.cell) = true
    · exact .inl (by simp only [Bool.and_eq_true] at c; simp [c.1, c.2])
    · exact .inr (by simp only [Bool.and_eq_true] at c; simp; simp_all)
theorem nat_c0 : ((0 : Nat) : Int) = 0 := (rfl)
theorem nat_c1 : ((1 : Nat) : Int) = 1 := (rfl)
theorem nat_c2 : ((2 : Nat) : Int) = 2 := (rfl)
theorem nat_c3 : ((3 : Nat) : Int) = 3 := (rfl)
theorem nat_c4 : ((4 : Nat) : Int) = 4 := (rfl)
end DX

set_option Elab.async false
set_option linter.all false
set_option maxRecDepth 100000
set_option maxHeartbeats 1000000
/-! LA: the source of draws. -/
namespace DX
open PySem PySem.Spec PyProof.Rows L2
def largeLen (cs : List Cell) : Nat := (cs.map fun c => match c with | .lst l => l.length | _ => 0).sum
def mu__law_draw_0 (_ : En) (cs : List Cell) : Nat := largeLen (cs.take 1) + 1
def ce__law_begun_0 : Ev := eCall (o1 dAbs) (aCons (eVar 3) (aNil))
def ci__law_begun_0 : EvT := tCmpE (eBin (dI0 fun i j => .bl (decide (j ≤ i))) (eVar 3) (eBin (dI cPow fun i j => .int (i ^ j.toNat)) (eC (.int 10)) (eC (.int 18))))
def ce__law_begun_1 : Ev := eBin (dI0 fun i j => .int (i - j)) (eVar 3) (eBin (dI cPow fun i j => .int (i ^ j.toNat)) (eC (.int 10)) (eC (.int 18)))
def b__law_begun : Sv := sSeq (sSet 1 (eOfF (fLc (iSeq (eVar 0)) (tName 3) (tYesE) (ce__law_begun_0) [3]))) (sSeq (sSet 2 (eCelF (fLc (iSeq (eVar 1)) (tName 3) (ci__law_begun_0) (ce__law_begun_1) [3]))) (sRet (eDicC [(.inr "large", eVar 2), (.inr "cells", eVar 1), (.inr "left", eC (.int 0)), (.inr "turn", eC (.int 0))])))
abbrev m__law_begun : Fn := fnOf 4 (b__law_begun)
def lt__law_draw_0 : EvT := tAnd' (tCmpE (eEqC false (eIx (eVar 0) (eC (.str "left"))) (eC (.int 0)))) (tCmpE (eEqC true (eIx (eVar 0) (eC (.str "large"))) (eLst (aNil))))
def lw__law_draw_0 : Sv := sPut (eVar 0) (eC (.str "left")) (eMeth okLst oPopAt (eIx (eVar 0) (eC (.str "large"))) (aCons (eC (.int 0)) (aNil)))
def b__law_draw : Sv := sSeq (sWhile mu__law_draw_0 (lt__law_draw_0) (lw__law_draw_0)) (sSeq (sIf (tCmpE (eBin (dI0 fun i j => .bl (decide (j < i))) (eIx (eVar 0) (eC (.str "left"))) (eC (.int 0)))) (sSeq (sSet 2 (eBin (dI cMod fun i j => .int (i % j)) (eCall (o1 dInt1) (aCons (eIx (eVar 0) (eC (.str "left"))) (aNil))) (eVar 1))) (sSeq (sPut (eVar 0) (eC (.str "left")) (eBin (dI cDiv fun i j => .int (i / j)) (eIx (eVar 0) (eC (.str "left"))) (eVar 1))) (sRet (eVar 2)))) (sNil)) (sSeq (sSet 3 (eBin dAdd (eIx (eVar 0) (eC (.str "turn"))) (eC (.int 1)))) (sSeq (sPut (eVar 0) (eC (.str "turn")) (eVar 3)) (sSeq (sSet 4 (eIf (tCmpE (eEqC true (eIx (eVar 0) (eC (.str "cells"))) (eLst (aNil)))) (eIx (eIx (eVar 0) (eC (.str "cells"))) (eBin (dI cMod fun i j => .int (i % j)) (eCall (o1 dInt1) (aCons (eVar 3) (aNil))) (eCall oLen (aCons (eIx (eVar 0) (eC (.str "cells"))) (aNil))))) (eC (.int 0)))) (sSeq (sSet 5 (eBin (dI cMod fun i j => .int (i % j)) (eCall (o1 dInt1) (aCons (eBin (dI cPow fun i j => .int (i ^ j.toNat)) (eBin dAdd (eBin dAdd (eBin (dI cMod fun i j => .int (i % j)) (eCall (o1 dInt1) (aCons (eVar 4) (aNil))) (eC (.int 2147483563))) (eBin dMul (eC (.int 40692)) (eVar 3))) (eC (.int 24681))) (eC (.int 3))) (aNil))) (eC (.int 2147483629)))) (sRet (eBin (dI cMod fun i j => .int (i % j)) (eCall (o1 dInt1) (aCons (eBin (dI cDiv fun i j => .int (i / j)) (eBin (dI cMod fun i j => .int (i % j)) (eCall (o1 dInt1) (aCons (eBin (dI cPow fun i j => .int (i ^ j.toNat)) (eBin dAdd (eVar 5) (eBin dMul (eC (.int 104917)) (eVar 3))) (eC (.int 5))) (aNil))) (eC (.int 2147483579))) (eC (.int 29))) (aNil))) (eVar 1))))))))
abbrev m__law_draw : Fn := fnOf 6 (b__law_draw)
def b__law_pick : Sv := sRet (eIx (eVar 1) (eFn 2 (m__law_draw) (aCons (eVar 0) (aCons (eCall oLen (aCons (eVar 1) (aNil))) (aNil)))))
abbrev m__law_pick : Fn := fnOf 2 (b__law_pick)
def stC (large cells : List Int) (L T : Int) (xt : List Cell) : List Cell := .lst (large.map fun i => .dat (.int i)) :: .dic [(.inr "large", .cel 0), (.inr "cells", .dat (.lst (cells.map .int))), (.inr "left", .dat (.int L)), (.inr "turn", .dat (.int T))] :: xt
structure St (cs xt : List Cell) (t : Nat) : Prop where
  ex : ∃ (large cells : List Int) (L T : Int), cs = stC large cells L T xt ∧ 0 ≤ L ∧ (∀ x ∈ large, 0 ≤ x) ∧ 0 ≤ T ∧ T ≤ t
theorem St.mono {cs xt : List Cell} {t u : Nat} (h : St cs xt t) (e : t ≤ u) : St cs xt u := by
  obtain ⟨large, cells, L, T, h1, h2, h3, h4, h5⟩ := h.ex
  exact ⟨large, cells, L, T, h1, h2, h3, h4, by omega⟩
theorem St.len {cs xt : List Cell} {t : Nat} (h : St cs xt t) : cs.length = xt.length + 2 := by
  obtain ⟨large, cells, L, T, rfl, _⟩ := h.ex
  rfl
theorem St.get {cs xt : List Cell} {t : Nat} (h : St cs xt t) (k : Nat) : cs[k + 2]? = xt[k]? := by
  obtain ⟨large, cells, L, T, rfl, _⟩ := h.ex
  rfl
theorem St.app {cs xt : List Cell} {t : Nat} (h : St cs xt t) (ys : List Cell) : St (cs ++ ys) (xt ++ ys) t := by
  obtain ⟨large, cells, L, T, rfl, h2, h3, h4, h5⟩ := h.ex
  exact ⟨large, cells, L, T, rfl, h2, h3, h4, h5⟩
theorem St.set {cs xt : List Cell} {t : Nat} (h : St cs xt t) (k : Nat) (c : Cell) : St (cs.set (k + 2) c) (xt.set k c) t := by
  obtain ⟨large, cells, L, T, rfl, h2, h3, h4, h5⟩ := h.ex
  exact ⟨large, cells, L, T, rfl, h2, h3, h4, h5⟩
theorem pys_ints : ∀ l : List Int, pys (l.map .int) = some (l.map PyData.int)
  | [] => rfl
  | x :: l => by simp [pys, py, pys_ints l]
theorem lay_ints : ∀ l : List Int, PyData.canLayAll0 (l.map PyData.int) = true
  | [] => rfl
  | x :: l => by
    show (PyData.canLay0 (.int x) && PyData.canLayAll0 (l.map PyData.int)) = true
    rw [lay_ints l]
    rfl
theorem depth_ints : ∀ l : List Int, PyData.depthAll (l.map PyData.int) = 0
  | [] => rfl
  | x :: l => by
    show max (PyData.depth (.int x)) (PyData.depthAll (l.map PyData.int)) = 0
    rw [depth_ints l]
    rfl
theorem shaped_ints (l : List Int) : SeqAt.shaped (.list (l.map PyData.int)) = true := by
  show (PyData.canLayAll0 (l.map PyData.int) && decide (PyData.depthAll (l.map PyData.int) + 1 ≤ 64)) = true
  rw [lay_ints, depth_ints]
  rfl
theorem eqv_nil (l : List Int) : PyData.eqv (.list (l.map PyData.int)) (.list []) = l.isEmpty := by
  cases l <;> rfl
theorem ne_nil_dat (l : List Int) (cs : List Cell) : eqC true (.dat (.lst (l.map .int))) (.dat (.lst [])) cs = some (.bl (!l.isEmpty)) := by
  have e1 : snap cs (.dat (.lst (l.map .int))) = some (.list (l.map PyData.int)) := by
    show (pys (l.map .int)).map PyData.list = _
    rw [pys_ints]
    rfl
  have e2 : snap cs (.dat (.lst [])) = some (.list []) := rfl
  unfold eqC eqB
  rw [show eqS (.dat (.lst (l.map .int))) (.dat (.lst [])) = none from rfl]
  dsimp only
  unfold eqL
  rw [e1, e2]
  dsimp only
  rw [shaped_ints, show SeqAt.shaped (.list []) = true from rfl, eqv_nil]
  rfl
theorem dats_ints : ∀ l : List Int, dats (l.map fun i => Wv.dat (.int i)) = some (l.map .int)
  | [] => rfl
  | x :: l => by simp [dats, dats_ints l]
theorem ne_nil_cel (large cells : List Int) (L T : Int) (xt : List Cell) : eqC true (.cel 0) (.dat (.lst [])) (stC large cells L T xt) = some (.bl (!large.isEmpty)) := by
  have e1 : snap (stC large cells L T xt) (.cel 0) = some (.list (large.map PyData.int)) := by
    show ((dats (large.map fun i => Wv.dat (.int i))).bind pys).map PyData.list = _
    rw [dats_ints]
    show (pys _).map _ = _
    rw [pys_ints]
    rfl
  have e2 : snap (stC large cells L T xt) (.dat (.lst [])) = some (.list []) := rfl
  unfold eqC eqB
  rw [show eqS (.cel 0) (.dat (.lst [])) = none from rfl]
  dsimp only
  unfold eqL
  rw [e1, e2]
  dsimp only
  rw [shaped_ints, show SeqAt.shaped (.list []) = true from rfl, eqv_nil]
  rfl

theorem st_left {large cells : List Int} {L T : Int} {xt : List Cell} : cIx (stC large cells L T xt)[1]? (.str "left") = some (.dat (.int L)) := (rfl)
theorem st_turn {large cells : List Int} {L T : Int} {xt : List Cell} : cIx (stC large cells L T xt)[1]? (.str "turn") = some (.dat (.int T)) := (rfl)
theorem st_large {large cells : List Int} {L T : Int} {xt : List Cell} : cIx (stC large cells L T xt)[1]? (.str "large") = some (.cel 0) := (rfl)
theorem st_cells {large cells : List Int} {L T : Int} {xt : List Cell} : cIx (stC large cells L T xt)[1]? (.str "cells") = some (.dat (.lst (cells.map .int))) := (rfl)
theorem st_putL {large cells : List Int} {L T M : Int} {xt : List Cell} : mPut (.cel 1) (.dat (.str "left")) (.dat (.int M)) (stC large cells L T xt) = .ok () (stC large cells M T xt) := (rfl)
theorem st_putT {large cells : List Int} {L T M : Int} {xt : List Cell} : mPut (.cel 1) (.dat (.str "turn")) (.dat (.int M)) (stC large cells L T xt) = .ok () (stC large cells L M xt) := (rfl)
theorem st_0 {large cells : List Int} {L T : Int} {xt : List Cell} : (stC large cells L T xt)[0]? = some (.lst (large.map fun i => .dat (.int i))) := (rfl)
theorem st_pop {large cells : List Int} {x L T : Int} {xt : List Cell} : oPopAt (.cel 0) [.dat (.int 0)] (stC (x :: large) cells L T xt) = .ok (.dat (.int x)) (stC large cells L T xt) := by
  have : seqIndex? 0 (large.length + 1) = some 0 := by unfold seqIndex?; simp
  unfold oPopAt stC
  simp [this]
theorem draw_loop : ∀ (large : List Int) (n : Nat) (cells : List Int) (L T : Int) (xt : List Cell) (r : En), large.length < n → ∃ large' L', loopW lt__law_draw_0 lw__law_draw_0 n (some (.cel 1) :: r) (stC large cells L T xt) = .ok (.nx (some (.cel 1) :: r)) (stC large' cells L' T xt) ∧ (∀ x ∈ large', x ∈ large) ∧ (L' = L ∨ L' ∈ large)
  | large, 0, _, _, _, _, _, h => absurd h (Nat.not_lt_zero _)
  | large, n + 1, cells, L, T, xt, r, h => by
    unfold loopW
    rw [mb]
    have nc := ne_nil_cel large cells L T xt
    by_cases hL : L = 0
    · subst hL
      match large, h, nc with
      | [], h, nc =>
        have tt : lt__law_draw_0 (some (.cel 1) :: r) (stC [] cells 0 T xt) = .ok false (stC [] cells 0 T xt) := by
          simp (disch := (first | assumption | omega | (simp only [List.length_cons, List.length_nil, List.length_map, List.length_append, List.length_replicate] <;> omega))) only [rb_ok, rb_exc, rb_bad, rb_ite, m_ret, m_badE, m_opt, m_optn, m_ite, rO_some, rO_none, rW_some, rW_none, rO_map, rW_map, s_var0, s_varS, s_c, s_bin, k_bin, s_lift, s_un, s_liftU, s_eqc, k_eqc, k_eqc2, eq_ii, ne_ii, eq_ss, ne_ss, eq_bb, ne_bb, s_cmpE, s_asB, s_tru, k_tru, rT_some, tru_d, tru_c, dtru_bl, dtru_non, dtru_int, dtru_lst, dtru_tup, s_and, s_or, s_not, k_and, k_or, k_not, s_yes, m_and, m_or, s_eand, k_eand, k_eand2, s_eor, k_eor, k_eor2, s_enot, k_enot, k_enot2, s_if, k_if, m_iteD, m_iteI, m_iteB, m_iteAnd, m_iteOr, m_iteS, s_chain, k_ch, k_ch2, k_ch3, k_ch4, s_anil, s_acons, k_arg, k_arg2, s_tup, s_lst, k_tup, k_lst, rL_some, dats_nil, dats_cons, opt_map_some, opt_map_none, opt_or_some, opt_or_none, opt_bind_some, s_ix, k_ix, k_ix2, wix_dd, wix_cd, ix_t, ix_l, ix_s, cix_l, cix_d, ix_d, at_0, at_1, at_2, s_sl, k_sl, k_sl2, k_sl3, s_onone, s_osome, k_asI, sl_d, sl_c, sl_l, sl_t, cut_hi, cut_lo, cut_lh, s_fn, k_fn0, k_fn1, k_fn2, k_fn3, k_fn4, k_fn5, k_fn6, s_fnp, k_fnp1, k_fnp2, k_fnp2r, k_fnp3, s_call, k_call, s_o1, s_o2, len_d, len_c, len_l, len_t, len_scr, len_s, clen_l, int_i, int_b, min_i, max_i, sq_dl, sq_cl, csq_l, lof_t, lof_l, tof_t, tof_l, s_meth, k_meth, k_meth_str, ok_str, mt_str1, mt_join, d_I0, d_mod, d_div, d_pow, d_shr, d_neg, d_mulL, d_mulR, d_mulS, d_addI, d_addS, d_addL, d_addT, s_seq, k_seq_nx, k_seq_rt, k_seq_bk, k_seq_ct, s_nil, s_ret, k_ret, s_retn, s_brk, s_cnt, s_expr, k_expr, s_sif, k_sif, s_set, k_set, s_asg, k_asg, rE_some, t_name, t_tup, t_cons, t_nil, s_par, k_par, s_par3, k_par3, s_raise, s_put, k_put, k_put2, k_put3, k_put4, put_is, s_for, k_for, s_while, s_iseq, as_l, as_t, as_s, as_scr, s_rg1, s_rg2, k_rg1, k_rg2, s_enum, k_enum_l, k_enum_s, s_zip, k_zip_l, k_zip_t, k_zip_s, s_off, k_of, rD_some, dats_mapd, s_flc, k_lc, wipe_nil, wipe_cons, s_celf, k_celf, s_flst, k_flst, k_fin_rt, k_fin_nx, start_nil, start_cons, repl_0, repl_S, s_caught, s_frz, k_frzd, s_fld, k_fld, s_rgl1, k_rgl1, s_rgl2, k_rgl, k_rgl2, s_flc2, k_lc2, s_new, k_new2, dk_cat, dk_cat2, dk_cat3, dk_nil, dk_cons, dk_val, dk_val2, dk_dicC, dk_dicC2, dk_dic, dk_dic2, dk_rK, dk_dat, dk_datn, eq_nn, ne_nn, lo_l, lo_t, lo_s, dk_frz, dk_rF, dk_cfrz, dk_methc, dk_rLst, dk_app, dk_rApp, dk_ext, dk_rExt, dk_snoc, dk_last, dk_setl, dk_putF, dk_putF2, dk_putF3, dk_putF4, dk_rPF, dk_new, dk_newT, dk_cfrzI, List.set_cons_zero, List.set_cons_succ, List.getElem?_cons_zero, List.getElem?_cons_succ, List.length_cons, List.length_nil, ↓reduceIte, Nat.reduceAdd, decide_eq_true_eq, Bool.not_true, Bool.not_false, Bool.true_and, Bool.false_and, Bool.and_true, Bool.and_false, Bool.or_true, Bool.or_false, Bool.true_or, Bool.false_or, reduceCtorEq, decide_true, decide_false, Bool.false_eq_true, Int.reduceLT, Int.reduceLE, Int.reduceNeg, Int.reduceAdd, Int.reduceSub, Int.reduceMul, Nat.reduceMul, Nat.reduceLeDiff, Nat.zero_add, Bool.not_not, beq_self_eq_true, bne_self_eq_false, not_true_eq_false, not_false_eq_true, Bool.not_eq_true, Option.some.injEq, List.map_cons, List.map_nil, List.isEmpty_cons, List.isEmpty_nil, and_self, and_true, true_and, Int.toNat_natCast, Int.natCast_nonneg, Int.reduceToNat, Int.reduceEq, Int.reduceNe, Nat.reduceLT, Int.reduceBEq, Int.reduceBNe, Bool.not_eq_eq_eq_not, eq_self, if_true, if_false, ite_self, lt__law_draw_0, st_left, st_large, nc]
        refine ⟨[], 0, ?_, fun _ h => h, .inl rfl⟩
        simp (disch := (first | assumption | omega | (simp only [List.length_cons, List.length_nil, List.length_map, List.length_append, List.length_replicate] <;> omega))) only [rb_ok, rb_exc, rb_bad, rb_ite, m_ret, m_badE, m_opt, m_optn, m_ite, rO_some, rO_none, rW_some, rW_none, rO_map, rW_map, s_var0, s_varS, s_c, s_bin, k_bin, s_lift, s_un, s_liftU, s_eqc, k_eqc, k_eqc2, eq_ii, ne_ii, eq_ss, ne_ss, eq_bb, ne_bb, s_cmpE, s_asB, s_tru, k_tru, rT_some, tru_d, tru_c, dtru_bl, dtru_non, dtru_int, dtru_lst, dtru_tup, s_and, s_or, s_not, k_and, k_or, k_not, s_yes, m_and, m_or, s_eand, k_eand, k_eand2, s_eor, k_eor, k_eor2, s_enot, k_enot, k_enot2, s_if, k_if, m_iteD, m_iteI, m_iteB, m_iteAnd, m_iteOr, m_iteS, s_chain, k_ch, k_ch2, k_ch3, k_ch4, s_anil, s_acons, k_arg, k_arg2, s_tup, s_lst, k_tup, k_lst, rL_some, dats_nil, dats_cons, opt_map_some, opt_map_none, opt_or_some, opt_or_none, opt_bind_some, s_ix, k_ix, k_ix2, wix_dd, wix_cd, ix_t, ix_l, ix_s, cix_l, cix_d, ix_d, at_0, at_1, at_2, s_sl, k_sl, k_sl2, k_sl3, s_onone, s_osome, k_asI, sl_d, sl_c, sl_l, sl_t, cut_hi, cut_lo, cut_lh, s_fn, k_fn0, k_fn1, k_fn2, k_fn3, k_fn4, k_fn5, k_fn6, s_fnp, k_fnp1, k_fnp2, k_fnp2r, k_fnp3, s_call, k_call, s_o1, s_o2, len_d, len_c, len_l, len_t, len_scr, len_s, clen_l, int_i, int_b, min_i, max_i, sq_dl, sq_cl, csq_l, lof_t, lof_l, tof_t, tof_l, s_meth, k_meth, k_meth_str, ok_str, mt_str1, mt_join, d_I0, d_mod, d_div, d_pow, d_shr, d_neg, d_mulL, d_mulR, d_mulS, d_addI, d_addS, d_addL, d_addT, s_seq, k_seq_nx, k_seq_rt, k_seq_bk, k_seq_ct, s_nil, s_ret, k_ret, s_retn, s_brk, s_cnt, s_expr, k_expr, s_sif, k_sif, s_set, k_set, s_asg, k_asg, rE_some, t_name, t_tup, t_cons, t_nil, s_par, k_par, s_par3, k_par3, s_raise, s_put, k_put, k_put2, k_put3, k_put4, put_is, s_for, k_for, s_while, s_iseq, as_l, as_t, as_s, as_scr, s_rg1, s_rg2, k_rg1, k_rg2, s_enum, k_enum_l, k_enum_s, s_zip, k_zip_l, k_zip_t, k_zip_s, s_off, k_of, rD_some, dats_mapd, s_flc, k_lc, wipe_nil, wipe_cons, s_celf, k_celf, s_flst, k_flst, k_fin_rt, k_fin_nx, start_nil, start_cons, repl_0, repl_S, s_caught, s_frz, k_frzd, s_fld, k_fld, s_rgl1, k_rgl1, s_rgl2, k_rgl, k_rgl2, s_flc2, k_lc2, s_new, k_new2, dk_cat, dk_cat2, dk_cat3, dk_nil, dk_cons, dk_val, dk_val2, dk_dicC, dk_dicC2, dk_dic, dk_dic2, dk_rK, dk_dat, dk_datn, eq_nn, ne_nn, lo_l, lo_t, lo_s, dk_frz, dk_rF, dk_cfrz, dk_methc, dk_rLst, dk_app, dk_rApp, dk_ext, dk_rExt, dk_snoc, dk_last, dk_setl, dk_putF, dk_putF2, dk_putF3, dk_putF4, dk_rPF, dk_new, dk_newT, dk_cfrzI, List.set_cons_zero, List.set_cons_succ, List.getElem?_cons_zero, List.getElem?_cons_succ, List.length_cons, List.length_nil, ↓reduceIte, Nat.reduceAdd, decide_eq_true_eq, Bool.not_true, Bool.not_false, Bool.true_and, Bool.false_and, Bool.and_true, Bool.and_false, Bool.or_true, Bool.or_false, Bool.true_or, Bool.false_or, reduceCtorEq, decide_true, decide_false, Bool.false_eq_true, Int.reduceLT, Int.reduceLE, Int.reduceNeg, Int.reduceAdd, Int.reduceSub, Int.reduceMul, Nat.reduceMul, Nat.reduceLeDiff, Nat.zero_add, Bool.not_not, beq_self_eq_true, bne_self_eq_false, not_true_eq_false, not_false_eq_true, Bool.not_eq_true, Option.some.injEq, List.map_cons, List.map_nil, List.isEmpty_cons, List.isEmpty_nil, and_self, and_true, true_and, Int.toNat_natCast, Int.natCast_nonneg, Int.reduceToNat, Int.reduceEq, Int.reduceNe, Nat.reduceLT, Int.reduceBEq, Int.reduceBNe, Bool.not_eq_eq_eq_not, eq_self, if_true, if_false, ite_self, tt]
      | x :: xs, h, nc =>
        have tt : lt__law_draw_0 (some (.cel 1) :: r) (stC (x :: xs) cells 0 T xt) = .ok true (stC (x :: xs) cells 0 T xt) := by
          simp (disch := (first | assumption | omega | (simp only [List.length_cons, List.length_nil, List.length_map, List.length_append, List.length_replicate] <;> omega))) only [rb_ok, rb_exc, rb_bad, rb_ite, m_ret, m_badE, m_opt, m_optn, m_ite, rO_some, rO_none, rW_some, rW_none, rO_map, rW_map, s_var0, s_varS, s_c, s_bin, k_bin, s_lift, s_un, s_liftU, s_eqc, k_eqc, k_eqc2, eq_ii, ne_ii, eq_ss, ne_ss, eq_bb, ne_bb, s_cmpE, s_asB, s_tru, k_tru, rT_some, tru_d, tru_c, dtru_bl, dtru_non, dtru_int, dtru_lst, dtru_tup, s_and, s_or, s_not, k_and, k_or, k_not, s_yes, m_and, m_or, s_eand, k_eand, k_eand2, s_eor, k_eor, k_eor2, s_enot, k_enot, k_enot2, s_if, k_if, m_iteD, m_iteI, m_iteB, m_iteAnd, m_iteOr, m_iteS, s_chain, k_ch, k_ch2, k_ch3, k_ch4, s_anil, s_acons, k_arg, k_arg2, s_tup, s_lst, k_tup, k_lst, rL_some, dats_nil, dats_cons, opt_map_some, opt_map_none, opt_or_some, opt_or_none, opt_bind_some, s_ix, k_ix, k_ix2, wix_dd, wix_cd, ix_t, ix_l, ix_s, cix_l, cix_d, ix_d, at_0, at_1, at_2, s_sl, k_sl, k_sl2, k_sl3, s_onone, s_osome, k_asI, sl_d, sl_c, sl_l, sl_t, cut_hi, cut_lo, cut_lh, s_fn, k_fn0, k_fn1, k_fn2, k_fn3, k_fn4, k_fn5, k_fn6, s_fnp, k_fnp1, k_fnp2, k_fnp2r, k_fnp3, s_call, k_call, s_o1, s_o2, len_d, len_c, len_l, len_t, len_scr, len_s, clen_l, int_i, int_b, min_i, max_i, sq_dl, sq_cl, csq_l, lof_t, lof_l, tof_t, tof_l, s_meth, k_meth, k_meth_str, ok_str, mt_str1, mt_join, d_I0, d_mod, d_div, d_pow, d_shr, d_neg, d_mulL, d_mulR, d_mulS, d_addI, d_addS, d_addL, d_addT, s_seq, k_seq_nx, k_seq_rt, k_seq_bk, k_seq_ct, s_nil, s_ret, k_ret, s_retn, s_brk, s_cnt, s_expr, k_expr, s_sif, k_sif, s_set, k_set, s_asg, k_asg, rE_some, t_name, t_tup, t_cons, t_nil, s_par, k_par, s_par3, k_par3, s_raise, s_put, k_put, k_put2, k_put3, k_put4, put_is, s_for, k_for, s_while, s_iseq, as_l, as_t, as_s, as_scr, s_rg1, s_rg2, k_rg1, k_rg2, s_enum, k_enum_l, k_enum_s, s_zip, k_zip_l, k_zip_t, k_zip_s, s_off, k_of, rD_some, dats_mapd, s_flc, k_lc, wipe_nil, wipe_cons, s_celf, k_celf, s_flst, k_flst, k_fin_rt, k_fin_nx, start_nil, start_cons, repl_0, repl_S, s_caught, s_frz, k_frzd, s_fld, k_fld, s_rgl1, k_rgl1, s_rgl2, k_rgl, k_rgl2, s_flc2, k_lc2, s_new, k_new2, dk_cat, dk_cat2, dk_cat3, dk_nil, dk_cons, dk_val, dk_val2, dk_dicC, dk_dicC2, dk_dic, dk_dic2, dk_rK, dk_dat, dk_datn, eq_nn, ne_nn, lo_l, lo_t, lo_s, dk_frz, dk_rF, dk_cfrz, dk_methc, dk_rLst, dk_app, dk_rApp, dk_ext, dk_rExt, dk_snoc, dk_last, dk_setl, dk_putF, dk_putF2, dk_putF3, dk_putF4, dk_rPF, dk_new, dk_newT, dk_cfrzI, List.set_cons_zero, List.set_cons_succ, List.getElem?_cons_zero, List.getElem?_cons_succ, List.length_cons, List.length_nil, ↓reduceIte, Nat.reduceAdd, decide_eq_true_eq, Bool.not_true, Bool.not_false, Bool.true_and, Bool.false_and, Bool.and_true, Bool.and_false, Bool.or_true, Bool.or_false, Bool.true_or, Bool.false_or, reduceCtorEq, decide_true, decide_false, Bool.false_eq_true, Int.reduceLT, Int.reduceLE, Int.reduceNeg, Int.reduceAdd, Int.reduceSub, Int.reduceMul, Nat.reduceMul, Nat.reduceLeDiff, Nat.zero_add, Bool.not_not, beq_self_eq_true, bne_self_eq_false, not_true_eq_false, not_false_eq_true, Bool.not_eq_true, Option.some.injEq, List.map_cons, List.map_nil, List.isEmpty_cons, List.isEmpty_nil, and_self, and_true, true_and, Int.toNat_natCast, Int.natCast_nonneg, Int.reduceToNat, Int.reduceEq, Int.reduceNe, Nat.reduceLT, Int.reduceBEq, Int.reduceBNe, Bool.not_eq_eq_eq_not, eq_self, if_true, if_false, ite_self, lt__law_draw_0, st_left, st_large, nc]
        have bb : lw__law_draw_0 (some (.cel 1) :: r) (stC (x :: xs) cells 0 T xt) = .ok (.nx (some (.cel 1) :: r)) (stC xs cells x T xt) := by
          simp (disch := (first | assumption | omega | (simp only [List.length_cons, List.length_nil, List.length_map, List.length_append, List.length_replicate] <;> omega))) only [rb_ok, rb_exc, rb_bad, rb_ite, m_ret, m_badE, m_opt, m_optn, m_ite, rO_some, rO_none, rW_some, rW_none, rO_map, rW_map, s_var0, s_varS, s_c, s_bin, k_bin, s_lift, s_un, s_liftU, s_eqc, k_eqc, k_eqc2, eq_ii, ne_ii, eq_ss, ne_ss, eq_bb, ne_bb, s_cmpE, s_asB, s_tru, k_tru, rT_some, tru_d, tru_c, dtru_bl, dtru_non, dtru_int, dtru_lst, dtru_tup, s_and, s_or, s_not, k_and, k_or, k_not, s_yes, m_and, m_or, s_eand, k_eand, k_eand2, s_eor, k_eor, k_eor2, s_enot, k_enot, k_enot2, s_if, k_if, m_iteD, m_iteI, m_iteB, m_iteAnd, m_iteOr, m_iteS, s_chain, k_ch, k_ch2, k_ch3, k_ch4, s_anil, s_acons, k_arg, k_arg2, s_tup, s_lst, k_tup, k_lst, rL_some, dats_nil, dats_cons, opt_map_some, opt_map_none, opt_or_some, opt_or_none, opt_bind_some, s_ix, k_ix, k_ix2, wix_dd, wix_cd, ix_t, ix_l, ix_s, cix_l, cix_d, ix_d, at_0, at_1, at_2, s_sl, k_sl, k_sl2, k_sl3, s_onone, s_osome, k_asI, sl_d, sl_c, sl_l, sl_t, cut_hi, cut_lo, cut_lh, s_fn, k_fn0, k_fn1, k_fn2, k_fn3, k_fn4, k_fn5, k_fn6, s_fnp, k_fnp1, k_fnp2, k_fnp2r, k_fnp3, s_call, k_call, s_o1, s_o2, len_d, len_c, len_l, len_t, len_scr, len_s, clen_l, int_i, int_b, min_i, max_i, sq_dl, sq_cl, csq_l, lof_t, lof_l, tof_t, tof_l, s_meth, k_meth, k_meth_str, ok_str, mt_str1, mt_join, d_I0, d_mod, d_div, d_pow, d_shr, d_neg, d_mulL, d_mulR, d_mulS, d_addI, d_addS, d_addL, d_addT, s_seq, k_seq_nx, k_seq_rt, k_seq_bk, k_seq_ct, s_nil, s_ret, k_ret, s_retn, s_brk, s_cnt, s_expr, k_expr, s_sif, k_sif, s_set, k_set, s_asg, k_asg, rE_some, t_name, t_tup, t_cons, t_nil, s_par, k_par, s_par3, k_par3, s_raise, s_put, k_put, k_put2, k_put3, k_put4, put_is, s_for, k_for, s_while, s_iseq, as_l, as_t, as_s, as_scr, s_rg1, s_rg2, k_rg1, k_rg2, s_enum, k_enum_l, k_enum_s, s_zip, k_zip_l, k_zip_t, k_zip_s, s_off, k_of, rD_some, dats_mapd, s_flc, k_lc, wipe_nil, wipe_cons, s_celf, k_celf, s_flst, k_flst, k_fin_rt, k_fin_nx, start_nil, start_cons, repl_0, repl_S, s_caught, s_frz, k_frzd, s_fld, k_fld, s_rgl1, k_rgl1, s_rgl2, k_rgl, k_rgl2, s_flc2, k_lc2, s_new, k_new2, dk_cat, dk_cat2, dk_cat3, dk_nil, dk_cons, dk_val, dk_val2, dk_dicC, dk_dicC2, dk_dic, dk_dic2, dk_rK, dk_dat, dk_datn, eq_nn, ne_nn, lo_l, lo_t, lo_s, dk_frz, dk_rF, dk_cfrz, dk_methc, dk_rLst, dk_app, dk_rApp, dk_ext, dk_rExt, dk_snoc, dk_last, dk_setl, dk_putF, dk_putF2, dk_putF3, dk_putF4, dk_rPF, dk_new, dk_newT, dk_cfrzI, List.set_cons_zero, List.set_cons_succ, List.getElem?_cons_zero, List.getElem?_cons_succ, List.length_cons, List.length_nil, ↓reduceIte, Nat.reduceAdd, decide_eq_true_eq, Bool.not_true, Bool.not_false, Bool.true_and, Bool.false_and, Bool.and_true, Bool.and_false, Bool.or_true, Bool.or_false, Bool.true_or, Bool.false_or, reduceCtorEq, decide_true, decide_false, Bool.false_eq_true, Int.reduceLT, Int.reduceLE, Int.reduceNeg, Int.reduceAdd, Int.reduceSub, Int.reduceMul, Nat.reduceMul, Nat.reduceLeDiff, Nat.zero_add, Bool.not_not, beq_self_eq_true, bne_self_eq_false, not_true_eq_false, not_false_eq_true, Bool.not_eq_true, Option.some.injEq, List.map_cons, List.map_nil, List.isEmpty_cons, List.isEmpty_nil, and_self, and_true, true_and, Int.toNat_natCast, Int.natCast_nonneg, Int.reduceToNat, Int.reduceEq, Int.reduceNe, Nat.reduceLT, Int.reduceBEq, Int.reduceBNe, Bool.not_eq_eq_eq_not, eq_self, if_true, if_false, ite_self, lw__law_draw_0, st_large, st_0, st_pop, st_putL]
        obtain ⟨large', L', ih, h1, h2⟩ := draw_loop xs n cells x T xt r (by simpa using h)
        refine ⟨large', L', ?_, fun z hz => List.mem_cons_of_mem _ (h1 z hz), .inr (h2.elim (fun e => e ▸ List.mem_cons_self) (List.mem_cons_of_mem _))⟩
        simp (disch := (first | assumption | omega | (simp only [List.length_cons, List.length_nil, List.length_map, List.length_append, List.length_replicate] <;> omega))) only [rb_ok, rb_exc, rb_bad, rb_ite, m_ret, m_badE, m_opt, m_optn, m_ite, rO_some, rO_none, rW_some, rW_none, rO_map, rW_map, s_var0, s_varS, s_c, s_bin, k_bin, s_lift, s_un, s_liftU, s_eqc, k_eqc, k_eqc2, eq_ii, ne_ii, eq_ss, ne_ss, eq_bb, ne_bb, s_cmpE, s_asB, s_tru, k_tru, rT_some, tru_d, tru_c, dtru_bl, dtru_non, dtru_int, dtru_lst, dtru_tup, s_and, s_or, s_not, k_and, k_or, k_not, s_yes, m_and, m_or, s_eand, k_eand, k_eand2, s_eor, k_eor, k_eor2, s_enot, k_enot, k_enot2, s_if, k_if, m_iteD, m_iteI, m_iteB, m_iteAnd, m_iteOr, m_iteS, s_chain, k_ch, k_ch2, k_ch3, k_ch4, s_anil, s_acons, k_arg, k_arg2, s_tup, s_lst, k_tup, k_lst, rL_some, dats_nil, dats_cons, opt_map_some, opt_map_none, opt_or_some, opt_or_none, opt_bind_some, s_ix, k_ix, k_ix2, wix_dd, wix_cd, ix_t, ix_l, ix_s, cix_l, cix_d, ix_d, at_0, at_1, at_2, s_sl, k_sl, k_sl2, k_sl3, s_onone, s_osome, k_asI, sl_d, sl_c, sl_l, sl_t, cut_hi, cut_lo, cut_lh, s_fn, k_fn0, k_fn1, k_fn2, k_fn3, k_fn4, k_fn5, k_fn6, s_fnp, k_fnp1, k_fnp2, k_fnp2r, k_fnp3, s_call, k_call, s_o1, s_o2, len_d, len_c, len_l, len_t, len_scr, len_s, clen_l, int_i, int_b, min_i, max_i, sq_dl, sq_cl, csq_l, lof_t, lof_l, tof_t, tof_l, s_meth, k_meth, k_meth_str, ok_str, mt_str1, mt_join, d_I0, d_mod, d_div, d_pow, d_shr, d_neg, d_mulL, d_mulR, d_mulS, d_addI, d_addS, d_addL, d_addT, s_seq, k_seq_nx, k_seq_rt, k_seq_bk, k_seq_ct, s_nil, s_ret, k_ret, s_retn, s_brk, s_cnt, s_expr, k_expr, s_sif, k_sif, s_set, k_set, s_asg, k_asg, rE_some, t_name, t_tup, t_cons, t_nil, s_par, k_par, s_par3, k_par3, s_raise, s_put, k_put, k_put2, k_put3, k_put4, put_is, s_for, k_for, s_while, s_iseq, as_l, as_t, as_s, as_scr, s_rg1, s_rg2, k_rg1, k_rg2, s_enum, k_enum_l, k_enum_s, s_zip, k_zip_l, k_zip_t, k_zip_s, s_off, k_of, rD_some, dats_mapd, s_flc, k_lc, wipe_nil, wipe_cons, s_celf, k_celf, s_flst, k_flst, k_fin_rt, k_fin_nx, start_nil, start_cons, repl_0, repl_S, s_caught, s_frz, k_frzd, s_fld, k_fld, s_rgl1, k_rgl1, s_rgl2, k_rgl, k_rgl2, s_flc2, k_lc2, s_new, k_new2, dk_cat, dk_cat2, dk_cat3, dk_nil, dk_cons, dk_val, dk_val2, dk_dicC, dk_dicC2, dk_dic, dk_dic2, dk_rK, dk_dat, dk_datn, eq_nn, ne_nn, lo_l, lo_t, lo_s, dk_frz, dk_rF, dk_cfrz, dk_methc, dk_rLst, dk_app, dk_rApp, dk_ext, dk_rExt, dk_snoc, dk_last, dk_setl, dk_putF, dk_putF2, dk_putF3, dk_putF4, dk_rPF, dk_new, dk_newT, dk_cfrzI, List.set_cons_zero, List.set_cons_succ, List.getElem?_cons_zero, List.getElem?_cons_succ, List.length_cons, List.length_nil, ↓reduceIte, Nat.reduceAdd, decide_eq_true_eq, Bool.not_true, Bool.not_false, Bool.true_and, Bool.false_and, Bool.and_true, Bool.and_false, Bool.or_true, Bool.or_false, Bool.true_or, Bool.false_or, reduceCtorEq, decide_true, decide_false, Bool.false_eq_true, Int.reduceLT, Int.reduceLE, Int.reduceNeg, Int.reduceAdd, Int.reduceSub, Int.reduceMul, Nat.reduceMul, Nat.reduceLeDiff, Nat.zero_add, Bool.not_not, beq_self_eq_true, bne_self_eq_false, not_true_eq_false, not_false_eq_true, Bool.not_eq_true, Option.some.injEq, List.map_cons, List.map_nil, List.isEmpty_cons, List.isEmpty_nil, and_self, and_true, true_and, Int.toNat_natCast, Int.natCast_nonneg, Int.reduceToNat, Int.reduceEq, Int.reduceNe, Nat.reduceLT, Int.reduceBEq, Int.reduceBNe, Bool.not_eq_eq_eq_not, eq_self, if_true, if_false, ite_self, tt, mb, bb, ih]
    · have tt : lt__law_draw_0 (some (.cel 1) :: r) (stC large cells L T xt) = .ok false (stC large cells L T xt) := by
        simp (disch := (first | assumption | omega | (simp only [List.length_cons, List.length_nil, List.length_map, List.length_append, List.length_replicate] <;> omega))) only [rb_ok, rb_exc, rb_bad, rb_ite, m_ret, m_badE, m_opt, m_optn, m_ite, rO_some, rO_none, rW_some, rW_none, rO_map, rW_map, s_var0, s_varS, s_c, s_bin, k_bin, s_lift, s_un, s_liftU, s_eqc, k_eqc, k_eqc2, eq_ii, ne_ii, eq_ss, ne_ss, eq_bb, ne_bb, s_cmpE, s_asB, s_tru, k_tru, rT_some, tru_d, tru_c, dtru_bl, dtru_non, dtru_int, dtru_lst, dtru_tup, s_and, s_or, s_not, k_and, k_or, k_not, s_yes, m_and, m_or, s_eand, k_eand, k_eand2, s_eor, k_eor, k_eor2, s_enot, k_enot, k_enot2, s_if, k_if, m_iteD, m_iteI, m_iteB, m_iteAnd, m_iteOr, m_iteS, s_chain, k_ch, k_ch2, k_ch3, k_ch4, s_anil, s_acons, k_arg, k_arg2, s_tup, s_lst, k_tup, k_lst, rL_some, dats_nil, dats_cons, opt_map_some, opt_map_none, opt_or_some, opt_or_none, opt_bind_some, s_ix, k_ix, k_ix2, wix_dd, wix_cd, ix_t, ix_l, ix_s, cix_l, cix_d, ix_d, at_0, at_1, at_2, s_sl, k_sl, k_sl2, k_sl3, s_onone, s_osome, k_asI, sl_d, sl_c, sl_l, sl_t, cut_hi, cut_lo, cut_lh, s_fn, k_fn0, k_fn1, k_fn2, k_fn3, k_fn4, k_fn5, k_fn6, s_fnp, k_fnp1, k_fnp2, k_fnp2r, k_fnp3, s_call, k_call, s_o1, s_o2, len_d, len_c, len_l, len_t, len_scr, len_s, clen_l, int_i, int_b, min_i, max_i, sq_dl, sq_cl, csq_l, lof_t, lof_l, tof_t, tof_l, s_meth, k_meth, k_meth_str, ok_str, mt_str1, mt_join, d_I0, d_mod, d_div, d_pow, d_shr, d_neg, d_mulL, d_mulR, d_mulS, d_addI, d_addS, d_addL, d_addT, s_seq, k_seq_nx, k_seq_rt, k_seq_bk, k_seq_ct, s_nil, s_ret, k_ret, s_retn, s_brk, s_cnt, s_expr, k_expr, s_sif, k_sif, s_set, k_set, s_asg, k_asg, rE_some, t_name, t_tup, t_cons, t_nil, s_par, k_par, s_par3, k_par3, s_raise, s_put, k_put, k_put2, k_put3, k_put4, put_is, s_for, k_for, s_while, s_iseq, as_l, as_t, as_s, as_scr, s_rg1, s_rg2, k_rg1, k_rg2, s_enum, k_enum_l, k_enum_s, s_zip, k_zip_l, k_zip_t, k_zip_s, s_off, k_of, rD_some, dats_mapd, s_flc, k_lc, wipe_nil, wipe_cons, s_celf, k_celf, s_flst, k_flst, k_fin_rt, k_fin_nx, start_nil, start_cons, repl_0, repl_S, s_caught, s_frz, k_frzd, s_fld, k_fld, s_rgl1, k_rgl1, s_rgl2, k_rgl, k_rgl2, s_flc2, k_lc2, s_new, k_new2, dk_cat, dk_cat2, dk_cat3, dk_nil, dk_cons, dk_val, dk_val2, dk_dicC, dk_dicC2, dk_dic, dk_dic2, dk_rK, dk_dat, dk_datn, eq_nn, ne_nn, lo_l, lo_t, lo_s, dk_frz, dk_rF, dk_cfrz, dk_methc, dk_rLst, dk_app, dk_rApp, dk_ext, dk_rExt, dk_snoc, dk_last, dk_setl, dk_putF, dk_putF2, dk_putF3, dk_putF4, dk_rPF, dk_new, dk_newT, dk_cfrzI, List.set_cons_zero, List.set_cons_succ, List.getElem?_cons_zero, List.getElem?_cons_succ, List.length_cons, List.length_nil, ↓reduceIte, Nat.reduceAdd, decide_eq_true_eq, Bool.not_true, Bool.not_false, Bool.true_and, Bool.false_and, Bool.and_true, Bool.and_false, Bool.or_true, Bool.or_false, Bool.true_or, Bool.false_or, reduceCtorEq, decide_true, decide_false, Bool.false_eq_true, Int.reduceLT, Int.reduceLE, Int.reduceNeg, Int.reduceAdd, Int.reduceSub, Int.reduceMul, Nat.reduceMul, Nat.reduceLeDiff, Nat.zero_add, Bool.not_not, beq_self_eq_true, bne_self_eq_false, not_true_eq_false, not_false_eq_true, Bool.not_eq_true, Option.some.injEq, List.map_cons, List.map_nil, List.isEmpty_cons, List.isEmpty_nil, and_self, and_true, true_and, Int.toNat_natCast, Int.natCast_nonneg, Int.reduceToNat, Int.reduceEq, Int.reduceNe, Nat.reduceLT, Int.reduceBEq, Int.reduceBNe, Bool.not_eq_eq_eq_not, eq_self, if_true, if_false, ite_self, lt__law_draw_0, st_left, st_large, hL, nc]
      refine ⟨large, L, ?_, fun _ h => h, .inl rfl⟩
      simp (disch := (first | assumption | omega | (simp only [List.length_cons, List.length_nil, List.length_map, List.length_append, List.length_replicate] <;> omega))) only [rb_ok, rb_exc, rb_bad, rb_ite, m_ret, m_badE, m_opt, m_optn, m_ite, rO_some, rO_none, rW_some, rW_none, rO_map, rW_map, s_var0, s_varS, s_c, s_bin, k_bin, s_lift, s_un, s_liftU, s_eqc, k_eqc, k_eqc2, eq_ii, ne_ii, eq_ss, ne_ss, eq_bb, ne_bb, s_cmpE, s_asB, s_tru, k_tru, rT_some, tru_d, tru_c, dtru_bl, dtru_non, dtru_int, dtru_lst, dtru_tup, s_and, s_or, s_not, k_and, k_or, k_not, s_yes, m_and, m_or, s_eand, k_eand, k_eand2, s_eor, k_eor, k_eor2, s_enot, k_enot, k_enot2, s_if, k_if, m_iteD, m_iteI, m_iteB, m_iteAnd, m_iteOr, m_iteS, s_chain, k_ch, k_ch2, k_ch3, k_ch4, s_anil, s_acons, k_arg, k_arg2, s_tup, s_lst, k_tup, k_lst, rL_some, dats_nil, dats_cons, opt_map_some, opt_map_none, opt_or_some, opt_or_none, opt_bind_some, s_ix, k_ix, k_ix2, wix_dd, wix_cd, ix_t, ix_l, ix_s, cix_l, cix_d, ix_d, at_0, at_1, at_2, s_sl, k_sl, k_sl2, k_sl3, s_onone, s_osome, k_asI, sl_d, sl_c, sl_l, sl_t, cut_hi, cut_lo, cut_lh, s_fn, k_fn0, k_fn1, k_fn2, k_fn3, k_fn4, k_fn5, k_fn6, s_fnp, k_fnp1, k_fnp2, k_fnp2r, k_fnp3, s_call, k_call, s_o1, s_o2, len_d, len_c, len_l, len_t, len_scr, len_s, clen_l, int_i, int_b, min_i, max_i, sq_dl, sq_cl, csq_l, lof_t, lof_l, tof_t, tof_l, s_meth, k_meth, k_meth_str, ok_str, mt_str1, mt_join, d_I0, d_mod, d_div, d_pow, d_shr, d_neg, d_mulL, d_mulR, d_mulS, d_addI, d_addS, d_addL, d_addT, s_seq, k_seq_nx, k_seq_rt, k_seq_bk, k_seq_ct, s_nil, s_ret, k_ret, s_retn, s_brk, s_cnt, s_expr, k_expr, s_sif, k_sif, s_set, k_set, s_asg, k_asg, rE_some, t_name, t_tup, t_cons, t_nil, s_par, k_par, s_par3, k_par3, s_raise, s_put, k_put, k_put2, k_put3, k_put4, put_is, s_for, k_for, s_while, s_iseq, as_l, as_t, as_s, as_scr, s_rg1, s_rg2, k_rg1, k_rg2, s_enum, k_enum_l, k_enum_s, s_zip, k_zip_l, k_zip_t, k_zip_s, s_off, k_of, rD_some, dats_mapd, s_flc, k_lc, wipe_nil, wipe_cons, s_celf, k_celf, s_flst, k_flst, k_fin_rt, k_fin_nx, start_nil, start_cons, repl_0, repl_S, s_caught, s_frz, k_frzd, s_fld, k_fld, s_rgl1, k_rgl1, s_rgl2, k_rgl, k_rgl2, s_flc2, k_lc2, s_new, k_new2, dk_cat, dk_cat2, dk_cat3, dk_nil, dk_cons, dk_val, dk_val2, dk_dicC, dk_dicC2, dk_dic, dk_dic2, dk_rK, dk_dat, dk_datn, eq_nn, ne_nn, lo_l, lo_t, lo_s, dk_frz, dk_rF, dk_cfrz, dk_methc, dk_rLst, dk_app, dk_rApp, dk_ext, dk_rExt, dk_snoc, dk_last, dk_setl, dk_putF, dk_putF2, dk_putF3, dk_putF4, dk_rPF, dk_new, dk_newT, dk_cfrzI, List.set_cons_zero, List.set_cons_succ, List.getElem?_cons_zero, List.getElem?_cons_succ, List.length_cons, List.length_nil, ↓reduceIte, Nat.reduceAdd, decide_eq_true_eq, Bool.not_true, Bool.not_false, Bool.true_and, Bool.false_and, Bool.and_true, Bool.and_false, Bool.or_true, Bool.or_false, Bool.true_or, Bool.false_or, reduceCtorEq, decide_true, decide_false, Bool.false_eq_true, Int.reduceLT, Int.reduceLE, Int.reduceNeg, Int.reduceAdd, Int.reduceSub, Int.reduceMul, Nat.reduceMul, Nat.reduceLeDiff, Nat.zero_add, Bool.not_not, beq_self_eq_true, bne_self_eq_false, not_true_eq_false, not_false_eq_true, Bool.not_eq_true, Option.some.injEq, List.map_cons, List.map_nil, List.isEmpty_cons, List.isEmpty_nil, and_self, and_true, true_and, Int.toNat_natCast, Int.natCast_nonneg, Int.reduceToNat, Int.reduceEq, Int.reduceNe, Nat.reduceLT, Int.reduceBEq, Int.reduceBNe, Bool.not_eq_eq_eq_not, eq_self, if_true, if_false, ite_self, tt]
theorem atI_pos {α : Type} {l : List α} {i : Int} (h0 : 0 ≤ i) (h1 : i < l.length) : ∃ x, atI l i = some x ∧ x ∈ l := by
  have hn : i.toNat < l.length := by omega
  refine ⟨l[i.toNat], ?_, List.getElem_mem hn⟩
  rw [at_ge h0, List.getElem?_eq_getElem hn]
theorem r_draw {cs xt : List Cell} {t : Nat} {n : Int} (hs : St cs xt t) (ht : t < 1000000) (h1 : 1 ≤ n) (hn : n ≤ 1000000) : ∃ d cs', m__law_draw [.cel 1, .dat (.int n)] cs = .ok (.dat (.int d)) cs' ∧ 0 ≤ d ∧ d < n ∧ St cs' xt (t + 1) := by
  obtain ⟨large0, cells, L0, T, rfl, hL0, hl0, hT0, hT⟩ := hs.ex
  obtain ⟨large, L, q, hsub, hL1⟩ := draw_loop large0 (mu__law_draw_0 [some (.cel 1), some (.dat (.int n)), none, none, none, none] (stC large0 cells L0 T xt)) cells L0 T xt [some (.dat (.int n)), none, none, none, none] (by simp [mu__law_draw_0, largeLen, stC])
  have hL : 0 ≤ L := hL1.elim (fun e => e ▸ hL0) (hl0 L)
  have hl : ∀ x ∈ large, 0 ≤ x := fun x hx => hl0 x (hsub x hx)
  have hn0 : 0 < n := by omega
  by_cases hp : 0 < L
  · refine ⟨L % n, stC large cells (L / n) T xt, fn_ev ?_, Int.emod_nonneg _ (by omega), Int.emod_lt_of_pos _ (by omega), ⟨large, cells, L / n, T, rfl, Int.ediv_nonneg hL (by omega), hl, hT0, by omega⟩⟩
    simp (disch := (first | assumption | omega | (simp only [List.length_cons, List.length_nil, List.length_map, List.length_append, List.length_replicate] <;> omega))) only [rb_ok, rb_exc, rb_bad, rb_ite, m_ret, m_badE, m_opt, m_optn, m_ite, rO_some, rO_none, rW_some, rW_none, rO_map, rW_map, s_var0, s_varS, s_c, s_bin, k_bin, s_lift, s_un, s_liftU, s_eqc, k_eqc, k_eqc2, eq_ii, ne_ii, eq_ss, ne_ss, eq_bb, ne_bb, s_cmpE, s_asB, s_tru, k_tru, rT_some, tru_d, tru_c, dtru_bl, dtru_non, dtru_int, dtru_lst, dtru_tup, s_and, s_or, s_not, k_and, k_or, k_not, s_yes, m_and, m_or, s_eand, k_eand, k_eand2, s_eor, k_eor, k_eor2, s_enot, k_enot, k_enot2, s_if, k_if, m_iteD, m_iteI, m_iteB, m_iteAnd, m_iteOr, m_iteS, s_chain, k_ch, k_ch2, k_ch3, k_ch4, s_anil, s_acons, k_arg, k_arg2, s_tup, s_lst, k_tup, k_lst, rL_some, dats_nil, dats_cons, opt_map_some, opt_map_none, opt_or_some, opt_or_none, opt_bind_some, s_ix, k_ix, k_ix2, wix_dd, wix_cd, ix_t, ix_l, ix_s, cix_l, cix_d, ix_d, at_0, at_1, at_2, s_sl, k_sl, k_sl2, k_sl3, s_onone, s_osome, k_asI, sl_d, sl_c, sl_l, sl_t, cut_hi, cut_lo, cut_lh, s_fn, k_fn0, k_fn1, k_fn2, k_fn3, k_fn4, k_fn5, k_fn6, s_fnp, k_fnp1, k_fnp2, k_fnp2r, k_fnp3, s_call, k_call, s_o1, s_o2, len_d, len_c, len_l, len_t, len_scr, len_s, clen_l, int_i, int_b, min_i, max_i, sq_dl, sq_cl, csq_l, lof_t, lof_l, tof_t, tof_l, s_meth, k_meth, k_meth_str, ok_str, mt_str1, mt_join, d_I0, d_mod, d_div, d_pow, d_shr, d_neg, d_mulL, d_mulR, d_mulS, d_addI, d_addS, d_addL, d_addT, s_seq, k_seq_nx, k_seq_rt, k_seq_bk, k_seq_ct, s_nil, s_ret, k_ret, s_retn, s_brk, s_cnt, s_expr, k_expr, s_sif, k_sif, s_set, k_set, s_asg, k_asg, rE_some, t_name, t_tup, t_cons, t_nil, s_par, k_par, s_par3, k_par3, s_raise, s_put, k_put, k_put2, k_put3, k_put4, put_is, s_for, k_for, s_while, s_iseq, as_l, as_t, as_s, as_scr, s_rg1, s_rg2, k_rg1, k_rg2, s_enum, k_enum_l, k_enum_s, s_zip, k_zip_l, k_zip_t, k_zip_s, s_off, k_of, rD_some, dats_mapd, s_flc, k_lc, wipe_nil, wipe_cons, s_celf, k_celf, s_flst, k_flst, k_fin_rt, k_fin_nx, start_nil, start_cons, repl_0, repl_S, s_caught, s_frz, k_frzd, s_fld, k_fld, s_rgl1, k_rgl1, s_rgl2, k_rgl, k_rgl2, s_flc2, k_lc2, s_new, k_new2, dk_cat, dk_cat2, dk_cat3, dk_nil, dk_cons, dk_val, dk_val2, dk_dicC, dk_dicC2, dk_dic, dk_dic2, dk_rK, dk_dat, dk_datn, eq_nn, ne_nn, lo_l, lo_t, lo_s, dk_frz, dk_rF, dk_cfrz, dk_methc, dk_rLst, dk_app, dk_rApp, dk_ext, dk_rExt, dk_snoc, dk_last, dk_setl, dk_putF, dk_putF2, dk_putF3, dk_putF4, dk_rPF, dk_new, dk_newT, dk_cfrzI, List.set_cons_zero, List.set_cons_succ, List.getElem?_cons_zero, List.getElem?_cons_succ, List.length_cons, List.length_nil, ↓reduceIte, Nat.reduceAdd, decide_eq_true_eq, Bool.not_true, Bool.not_false, Bool.true_and, Bool.false_and, Bool.and_true, Bool.and_false, Bool.or_true, Bool.or_false, Bool.true_or, Bool.false_or, reduceCtorEq, decide_true, decide_false, Bool.false_eq_true, Int.reduceLT, Int.reduceLE, Int.reduceNeg, Int.reduceAdd, Int.reduceSub, Int.reduceMul, Nat.reduceMul, Nat.reduceLeDiff, Nat.zero_add, Bool.not_not, beq_self_eq_true, bne_self_eq_false, not_true_eq_false, not_false_eq_true, Bool.not_eq_true, Option.some.injEq, List.map_cons, List.map_nil, List.isEmpty_cons, List.isEmpty_nil, and_self, and_true, true_and, Int.toNat_natCast, Int.natCast_nonneg, Int.reduceToNat, Int.reduceEq, Int.reduceNe, Nat.reduceLT, Int.reduceBEq, Int.reduceBNe, Bool.not_eq_eq_eq_not, eq_self, if_true, if_false, ite_self, b__law_draw, start_cons, start_nil, repl_S, repl_0, q, st_left, hp, st_putL]
  · have nd := ne_nil_dat cells (stC large cells L (T + 1) xt)
    have cell : ∃ c : Int, cells = [] ∧ c = 0 ∨ cells.isEmpty = false ∧ 0 < ((cells.map Dt.int).length : Int) ∧ atI (cells.map Dt.int) ((T + 1) % ((cells.map Dt.int).length : Int)) = some (.int c) := by
      match cells with
      | [] => exact ⟨0, .inl ⟨rfl, rfl⟩⟩
      | z :: zs =>
        obtain ⟨x, hx, hm⟩ := atI_pos (l := (z :: zs).map Dt.int) (i := (T + 1) % (((z :: zs).map Dt.int).length : Int)) (Int.emod_nonneg _ (by rw [List.length_map, List.length_cons]; omega)) (Int.emod_lt_of_pos _ (by rw [List.length_map, List.length_cons]; omega))
        obtain ⟨c, _, rfl⟩ := List.mem_map.mp hm
        exact ⟨c, .inr ⟨rfl, by rw [List.length_map, List.length_cons]; omega, hx⟩⟩
    obtain ⟨c, hc⟩ := cell
    refine ⟨((c % 2147483563 + 40692 * (T + 1) + 24681) ^ 3 % 2147483629 + 104917 * (T + 1)) ^ 5 % 2147483579 / 29 % n, stC large cells L (T + 1) xt, fn_ev ?_, Int.emod_nonneg _ (by omega), Int.emod_lt_of_pos _ (by omega), ⟨large, cells, L, T + 1, rfl, hL, hl, by omega, by omega⟩⟩
    rcases hc with ⟨rfl, rfl⟩ | ⟨he, hz, hx⟩
    · simp (disch := (first | assumption | omega | (simp only [List.length_cons, List.length_nil, List.length_map, List.length_append, List.length_replicate] <;> omega))) only [rb_ok, rb_exc, rb_bad, rb_ite, m_ret, m_badE, m_opt, m_optn, m_ite, rO_some, rO_none, rW_some, rW_none, rO_map, rW_map, s_var0, s_varS, s_c, s_bin, k_bin, s_lift, s_un, s_liftU, s_eqc, k_eqc, k_eqc2, eq_ii, ne_ii, eq_ss, ne_ss, eq_bb, ne_bb, s_cmpE, s_asB, s_tru, k_tru, rT_some, tru_d, tru_c, dtru_bl, dtru_non, dtru_int, dtru_lst, dtru_tup, s_and, s_or, s_not, k_and, k_or, k_not, s_yes, m_and, m_or, s_eand, k_eand, k_eand2, s_eor, k_eor, k_eor2, s_enot, k_enot, k_enot2, s_if, k_if, m_iteD, m_iteI, m_iteB, m_iteAnd, m_iteOr, m_iteS, s_chain, k_ch, k_ch2, k_ch3, k_ch4, s_anil, s_acons, k_arg, k_arg2, s_tup, s_lst, k_tup, k_lst, rL_some, dats_nil, dats_cons, opt_map_some, opt_map_none, opt_or_some, opt_or_none, opt_bind_some, s_ix, k_ix, k_ix2, wix_dd, wix_cd, ix_t, ix_l, ix_s, cix_l, cix_d, ix_d, at_0, at_1, at_2, s_sl, k_sl, k_sl2, k_sl3, s_onone, s_osome, k_asI, sl_d, sl_c, sl_l, sl_t, cut_hi, cut_lo, cut_lh, s_fn, k_fn0, k_fn1, k_fn2, k_fn3, k_fn4, k_fn5, k_fn6, s_fnp, k_fnp1, k_fnp2, k_fnp2r, k_fnp3, s_call, k_call, s_o1, s_o2, len_d, len_c, len_l, len_t, len_scr, len_s, clen_l, int_i, int_b, min_i, max_i, sq_dl, sq_cl, csq_l, lof_t, lof_l, tof_t, tof_l, s_meth, k_meth, k_meth_str, ok_str, mt_str1, mt_join, d_I0, d_mod, d_div, d_pow, d_shr, d_neg, d_mulL, d_mulR, d_mulS, d_addI, d_addS, d_addL, d_addT, s_seq, k_seq_nx, k_seq_rt, k_seq_bk, k_seq_ct, s_nil, s_ret, k_ret, s_retn, s_brk, s_cnt, s_expr, k_expr, s_sif, k_sif, s_set, k_set, s_asg, k_asg, rE_some, t_name, t_tup, t_cons, t_nil, s_par, k_par, s_par3, k_par3, s_raise, s_put, k_put, k_put2, k_put3, k_put4, put_is, s_for, k_for, s_while, s_iseq, as_l, as_t, as_s, as_scr, s_rg1, s_rg2, k_rg1, k_rg2, s_enum, k_enum_l, k_enum_s, s_zip, k_zip_l, k_zip_t, k_zip_s, s_off, k_of, rD_some, dats_mapd, s_flc, k_lc, wipe_nil, wipe_cons, s_celf, k_celf, s_flst, k_flst, k_fin_rt, k_fin_nx, start_nil, start_cons, repl_0, repl_S, s_caught, s_frz, k_frzd, s_fld, k_fld, s_rgl1, k_rgl1, s_rgl2, k_rgl, k_rgl2, s_flc2, k_lc2, s_new, k_new2, dk_cat, dk_cat2, dk_cat3, dk_nil, dk_cons, dk_val, dk_val2, dk_dicC, dk_dicC2, dk_dic, dk_dic2, dk_rK, dk_dat, dk_datn, eq_nn, ne_nn, lo_l, lo_t, lo_s, dk_frz, dk_rF, dk_cfrz, dk_methc, dk_rLst, dk_app, dk_rApp, dk_ext, dk_rExt, dk_snoc, dk_last, dk_setl, dk_putF, dk_putF2, dk_putF3, dk_putF4, dk_rPF, dk_new, dk_newT, dk_cfrzI, List.set_cons_zero, List.set_cons_succ, List.getElem?_cons_zero, List.getElem?_cons_succ, List.length_cons, List.length_nil, ↓reduceIte, Nat.reduceAdd, decide_eq_true_eq, Bool.not_true, Bool.not_false, Bool.true_and, Bool.false_and, Bool.and_true, Bool.and_false, Bool.or_true, Bool.or_false, Bool.true_or, Bool.false_or, reduceCtorEq, decide_true, decide_false, Bool.false_eq_true, Int.reduceLT, Int.reduceLE, Int.reduceNeg, Int.reduceAdd, Int.reduceSub, Int.reduceMul, Nat.reduceMul, Nat.reduceLeDiff, Nat.zero_add, Bool.not_not, beq_self_eq_true, bne_self_eq_false, not_true_eq_false, not_false_eq_true, Bool.not_eq_true, Option.some.injEq, List.map_cons, List.map_nil, List.isEmpty_cons, List.isEmpty_nil, and_self, and_true, true_and, Int.toNat_natCast, Int.natCast_nonneg, Int.reduceToNat, Int.reduceEq, Int.reduceNe, Nat.reduceLT, Int.reduceBEq, Int.reduceBNe, Bool.not_eq_eq_eq_not, eq_self, if_true, if_false, ite_self, b__law_draw, start_cons, start_nil, repl_S, repl_0, q, st_left, hp, st_turn, st_putT, st_cells, nd]
    · rw [he] at nd
      simp (disch := (first | assumption | omega | (simp only [List.length_cons, List.length_nil, List.length_map, List.length_append, List.length_replicate] <;> omega))) only [rb_ok, rb_exc, rb_bad, rb_ite, m_ret, m_badE, m_opt, m_optn, m_ite, rO_some, rO_none, rW_some, rW_none, rO_map, rW_map, s_var0, s_varS, s_c, s_bin, k_bin, s_lift, s_un, s_liftU, s_eqc, k_eqc, k_eqc2, eq_ii, ne_ii, eq_ss, ne_ss, eq_bb, ne_bb, s_cmpE, s_asB, s_tru, k_tru, rT_some, tru_d, tru_c, dtru_bl, dtru_non, dtru_int, dtru_lst, dtru_tup, s_and, s_or, s_not, k_and, k_or, k_not, s_yes, m_and, m_or, s_eand, k_eand, k_eand2, s_eor, k_eor, k_eor2, s_enot, k_enot, k_enot2, s_if, k_if, m_iteD, m_iteI, m_iteB, m_iteAnd, m_iteOr, m_iteS, s_chain, k_ch, k_ch2, k_ch3, k_ch4, s_anil, s_acons, k_arg, k_arg2, s_tup, s_lst, k_tup, k_lst, rL_some, dats_nil, dats_cons, opt_map_some, opt_map_none, opt_or_some, opt_or_none, opt_bind_some, s_ix, k_ix, k_ix2, wix_dd, wix_cd, ix_t, ix_l, ix_s, cix_l, cix_d, ix_d, at_0, at_1, at_2, s_sl, k_sl, k_sl2, k_sl3, s_onone, s_osome, k_asI, sl_d, sl_c, sl_l, sl_t, cut_hi, cut_lo, cut_lh, s_fn, k_fn0, k_fn1, k_fn2, k_fn3, k_fn4, k_fn5, k_fn6, s_fnp, k_fnp1, k_fnp2, k_fnp2r, k_fnp3, s_call, k_call, s_o1, s_o2, len_d, len_c, len_l, len_t, len_scr, len_s, clen_l, int_i, int_b, min_i, max_i, sq_dl, sq_cl, csq_l, lof_t, lof_l, tof_t, tof_l, s_meth, k_meth, k_meth_str, ok_str, mt_str1, mt_join, d_I0, d_mod, d_div, d_pow, d_shr, d_neg, d_mulL, d_mulR, d_mulS, d_addI, d_addS, d_addL, d_addT, s_seq, k_seq_nx, k_seq_rt, k_seq_bk, k_seq_ct, s_nil, s_ret, k_ret, s_retn, s_brk, s_cnt, s_expr, k_expr, s_sif, k_sif, s_set, k_set, s_asg, k_asg, rE_some, t_name, t_tup, t_cons, t_nil, s_par, k_par, s_par3, k_par3, s_raise, s_put, k_put, k_put2, k_put3, k_put4, put_is, s_for, k_for, s_while, s_iseq, as_l, as_t, as_s, as_scr, s_rg1, s_rg2, k_rg1, k_rg2, s_enum, k_enum_l, k_enum_s, s_zip, k_zip_l, k_zip_t, k_zip_s, s_off, k_of, rD_some, dats_mapd, s_flc, k_lc, wipe_nil, wipe_cons, s_celf, k_celf, s_flst, k_flst, k_fin_rt, k_fin_nx, start_nil, start_cons, repl_0, repl_S, s_caught, s_frz, k_frzd, s_fld, k_fld, s_rgl1, k_rgl1, s_rgl2, k_rgl, k_rgl2, s_flc2, k_lc2, s_new, k_new2, dk_cat, dk_cat2, dk_cat3, dk_nil, dk_cons, dk_val, dk_val2, dk_dicC, dk_dicC2, dk_dic, dk_dic2, dk_rK, dk_dat, dk_datn, eq_nn, ne_nn, lo_l, lo_t, lo_s, dk_frz, dk_rF, dk_cfrz, dk_methc, dk_rLst, dk_app, dk_rApp, dk_ext, dk_rExt, dk_snoc, dk_last, dk_setl, dk_putF, dk_putF2, dk_putF3, dk_putF4, dk_rPF, dk_new, dk_newT, dk_cfrzI, List.set_cons_zero, List.set_cons_succ, List.getElem?_cons_zero, List.getElem?_cons_succ, List.length_cons, List.length_nil, ↓reduceIte, Nat.reduceAdd, decide_eq_true_eq, Bool.not_true, Bool.not_false, Bool.true_and, Bool.false_and, Bool.and_true, Bool.and_false, Bool.or_true, Bool.or_false, Bool.true_or, Bool.false_or, reduceCtorEq, decide_true, decide_false, Bool.false_eq_true, Int.reduceLT, Int.reduceLE, Int.reduceNeg, Int.reduceAdd, Int.reduceSub, Int.reduceMul, Nat.reduceMul, Nat.reduceLeDiff, Nat.zero_add, Bool.not_not, beq_self_eq_true, bne_self_eq_false, not_true_eq_false, not_false_eq_true, Bool.not_eq_true, Option.some.injEq, List.map_cons, List.map_nil, List.isEmpty_cons, List.isEmpty_nil, and_self, and_true, true_and, Int.toNat_natCast, Int.natCast_nonneg, Int.reduceToNat, Int.reduceEq, Int.reduceNe, Nat.reduceLT, Int.reduceBEq, Int.reduceBNe, Bool.not_eq_eq_eq_not, eq_self, if_true, if_false, ite_self, b__law_draw, start_cons, start_nil, repl_S, repl_0, q, st_left, hp, st_turn, st_putT, st_cells, nd, hx]
theorem r_begun {ns : List Int} (hn : ns.length ≤ 63) : ∃ cs, m__law_begun [.dat (.scr ns)] [] = .ok (.cel 1) cs ∧ St cs [] 0 := by
  have big : (1000000000000000000 : Int) = 10 ^ (18 : Int).toNat := by decide
  have e1 : loopC (tName 3) tYesE ce__law_begun_0 [some (.dat (.scr ns)), none, none, none] (ns.map fun i => .dat (.int i)) [] = .ok (((ns.map fun i => if i < 0 then -i else i).map Dt.int).map Wv.dat) [] := by
    rw [lc_map (fun i => .dat (.int i)) (fun i => .int (if i < 0 then -i else i))]
    · rw [List.map_map (f := fun i : Int => if i < 0 then -i else i)]; rfl
    · intro x hx
      refine ⟨_, rfl, ?_⟩
      simp (disch := (first | assumption | omega | (simp only [List.length_cons, List.length_nil, List.length_map, List.length_append, List.length_replicate] <;> omega))) only [rb_ok, rb_exc, rb_bad, rb_ite, m_ret, m_badE, m_opt, m_optn, m_ite, rO_some, rO_none, rW_some, rW_none, rO_map, rW_map, s_var0, s_varS, s_c, s_bin, k_bin, s_lift, s_un, s_liftU, s_eqc, k_eqc, k_eqc2, eq_ii, ne_ii, eq_ss, ne_ss, eq_bb, ne_bb, s_cmpE, s_asB, s_tru, k_tru, rT_some, tru_d, tru_c, dtru_bl, dtru_non, dtru_int, dtru_lst, dtru_tup, s_and, s_or, s_not, k_and, k_or, k_not, s_yes, m_and, m_or, s_eand, k_eand, k_eand2, s_eor, k_eor, k_eor2, s_enot, k_enot, k_enot2, s_if, k_if, m_iteD, m_iteI, m_iteB, m_iteAnd, m_iteOr, m_iteS, s_chain, k_ch, k_ch2, k_ch3, k_ch4, s_anil, s_acons, k_arg, k_arg2, s_tup, s_lst, k_tup, k_lst, rL_some, dats_nil, dats_cons, opt_map_some, opt_map_none, opt_or_some, opt_or_none, opt_bind_some, s_ix, k_ix, k_ix2, wix_dd, wix_cd, ix_t, ix_l, ix_s, cix_l, cix_d, ix_d, at_0, at_1, at_2, s_sl, k_sl, k_sl2, k_sl3, s_onone, s_osome, k_asI, sl_d, sl_c, sl_l, sl_t, cut_hi, cut_lo, cut_lh, s_fn, k_fn0, k_fn1, k_fn2, k_fn3, k_fn4, k_fn5, k_fn6, s_fnp, k_fnp1, k_fnp2, k_fnp2r, k_fnp3, s_call, k_call, s_o1, s_o2, len_d, len_c, len_l, len_t, len_scr, len_s, clen_l, int_i, int_b, min_i, max_i, sq_dl, sq_cl, csq_l, lof_t, lof_l, tof_t, tof_l, s_meth, k_meth, k_meth_str, ok_str, mt_str1, mt_join, d_I0, d_mod, d_div, d_pow, d_shr, d_neg, d_mulL, d_mulR, d_mulS, d_addI, d_addS, d_addL, d_addT, s_seq, k_seq_nx, k_seq_rt, k_seq_bk, k_seq_ct, s_nil, s_ret, k_ret, s_retn, s_brk, s_cnt, s_expr, k_expr, s_sif, k_sif, s_set, k_set, s_asg, k_asg, rE_some, t_name, t_tup, t_cons, t_nil, s_par, k_par, s_par3, k_par3, s_raise, s_put, k_put, k_put2, k_put3, k_put4, put_is, s_for, k_for, s_while, s_iseq, as_l, as_t, as_s, as_scr, s_rg1, s_rg2, k_rg1, k_rg2, s_enum, k_enum_l, k_enum_s, s_zip, k_zip_l, k_zip_t, k_zip_s, s_off, k_of, rD_some, dats_mapd, s_flc, k_lc, wipe_nil, wipe_cons, s_celf, k_celf, s_flst, k_flst, k_fin_rt, k_fin_nx, start_nil, start_cons, repl_0, repl_S, s_caught, s_frz, k_frzd, s_fld, k_fld, s_rgl1, k_rgl1, s_rgl2, k_rgl, k_rgl2, s_flc2, k_lc2, s_new, k_new2, dk_cat, dk_cat2, dk_cat3, dk_nil, dk_cons, dk_val, dk_val2, dk_dicC, dk_dicC2, dk_dic, dk_dic2, dk_rK, dk_dat, dk_datn, eq_nn, ne_nn, lo_l, lo_t, lo_s, dk_frz, dk_rF, dk_cfrz, dk_methc, dk_rLst, dk_app, dk_rApp, dk_ext, dk_rExt, dk_snoc, dk_last, dk_setl, dk_putF, dk_putF2, dk_putF3, dk_putF4, dk_rPF, dk_new, dk_newT, dk_cfrzI, List.set_cons_zero, List.set_cons_succ, List.getElem?_cons_zero, List.getElem?_cons_succ, List.length_cons, List.length_nil, ↓reduceIte, Nat.reduceAdd, decide_eq_true_eq, Bool.not_true, Bool.not_false, Bool.true_and, Bool.false_and, Bool.and_true, Bool.and_false, Bool.or_true, Bool.or_false, Bool.true_or, Bool.false_or, reduceCtorEq, decide_true, decide_false, Bool.false_eq_true, Int.reduceLT, Int.reduceLE, Int.reduceNeg, Int.reduceAdd, Int.reduceSub, Int.reduceMul, Nat.reduceMul, Nat.reduceLeDiff, Nat.zero_add, Bool.not_not, beq_self_eq_true, bne_self_eq_false, not_true_eq_false, not_false_eq_true, Bool.not_eq_true, Option.some.injEq, List.map_cons, List.map_nil, List.isEmpty_cons, List.isEmpty_nil, and_self, and_true, true_and, Int.toNat_natCast, Int.natCast_nonneg, Int.reduceToNat, Int.reduceEq, Int.reduceNe, Nat.reduceLT, Int.reduceBEq, Int.reduceBNe, Bool.not_eq_eq_eq_not, eq_self, if_true, if_false, ite_self, ce__law_begun_0]
      rfl
  have e2 : loopC (tName 3) ci__law_begun_0 ce__law_begun_1 [some (.dat (.scr ns)), some (.dat (.lst ((ns.map fun i => if i < 0 then -i else i).map Dt.int))), none, none] (((ns.map fun i => if i < 0 then -i else i).map Dt.int).map Wv.dat) [] = .ok ((((ns.map fun i => if i < 0 then -i else i).filter fun i => decide (10 ^ (18 : Int).toNat ≤ i)).map fun i => .int (i - 10 ^ (18 : Int).toNat)).map Wv.dat) [] := by
    refine lc_filterD Dt.int (fun i => .int (i - 10 ^ (18 : Int).toNat)) (fun i => decide (10 ^ (18 : Int).toNat ≤ i)) _ fun x hx => ⟨_, rfl, ?_, fun _ => ?_⟩
    · simp (disch := (first | assumption | omega | (simp only [List.length_cons, List.length_nil, List.length_map, List.length_append, List.length_replicate] <;> omega))) only [rb_ok, rb_exc, rb_bad, rb_ite, m_ret, m_badE, m_opt, m_optn, m_ite, rO_some, rO_none, rW_some, rW_none, rO_map, rW_map, s_var0, s_varS, s_c, s_bin, k_bin, s_lift, s_un, s_liftU, s_eqc, k_eqc, k_eqc2, eq_ii, ne_ii, eq_ss, ne_ss, eq_bb, ne_bb, s_cmpE, s_asB, s_tru, k_tru, rT_some, tru_d, tru_c, dtru_bl, dtru_non, dtru_int, dtru_lst, dtru_tup, s_and, s_or, s_not, k_and, k_or, k_not, s_yes, m_and, m_or, s_eand, k_eand, k_eand2, s_eor, k_eor, k_eor2, s_enot, k_enot, k_enot2, s_if, k_if, m_iteD, m_iteI, m_iteB, m_iteAnd, m_iteOr, m_iteS, s_chain, k_ch, k_ch2, k_ch3, k_ch4, s_anil, s_acons, k_arg, k_arg2, s_tup, s_lst, k_tup, k_lst, rL_some, dats_nil, dats_cons, opt_map_some, opt_map_none, opt_or_some, opt_or_none, opt_bind_some, s_ix, k_ix, k_ix2, wix_dd, wix_cd, ix_t, ix_l, ix_s, cix_l, cix_d, ix_d, at_0, at_1, at_2, s_sl, k_sl, k_sl2, k_sl3, s_onone, s_osome, k_asI, sl_d, sl_c, sl_l, sl_t, cut_hi, cut_lo, cut_lh, s_fn, k_fn0, k_fn1, k_fn2, k_fn3, k_fn4, k_fn5, k_fn6, s_fnp, k_fnp1, k_fnp2, k_fnp2r, k_fnp3, s_call, k_call, s_o1, s_o2, len_d, len_c, len_l, len_t, len_scr, len_s, clen_l, int_i, int_b, min_i, max_i, sq_dl, sq_cl, csq_l, lof_t, lof_l, tof_t, tof_l, s_meth, k_meth, k_meth_str, ok_str, mt_str1, mt_join, d_I0, d_mod, d_div, d_pow, d_shr, d_neg, d_mulL, d_mulR, d_mulS, d_addI, d_addS, d_addL, d_addT, s_seq, k_seq_nx, k_seq_rt, k_seq_bk, k_seq_ct, s_nil, s_ret, k_ret, s_retn, s_brk, s_cnt, s_expr, k_expr, s_sif, k_sif, s_set, k_set, s_asg, k_asg, rE_some, t_name, t_tup, t_cons, t_nil, s_par, k_par, s_par3, k_par3, s_raise, s_put, k_put, k_put2, k_put3, k_put4, put_is, s_for, k_for, s_while, s_iseq, as_l, as_t, as_s, as_scr, s_rg1, s_rg2, k_rg1, k_rg2, s_enum, k_enum_l, k_enum_s, s_zip, k_zip_l, k_zip_t, k_zip_s, s_off, k_of, rD_some, dats_mapd, s_flc, k_lc, wipe_nil, wipe_cons, s_celf, k_celf, s_flst, k_flst, k_fin_rt, k_fin_nx, start_nil, start_cons, repl_0, repl_S, s_caught, s_frz, k_frzd, s_fld, k_fld, s_rgl1, k_rgl1, s_rgl2, k_rgl, k_rgl2, s_flc2, k_lc2, s_new, k_new2, dk_cat, dk_cat2, dk_cat3, dk_nil, dk_cons, dk_val, dk_val2, dk_dicC, dk_dicC2, dk_dic, dk_dic2, dk_rK, dk_dat, dk_datn, eq_nn, ne_nn, lo_l, lo_t, lo_s, dk_frz, dk_rF, dk_cfrz, dk_methc, dk_rLst, dk_app, dk_rApp, dk_ext, dk_rExt, dk_snoc, dk_last, dk_setl, dk_putF, dk_putF2, dk_putF3, dk_putF4, dk_rPF, dk_new, dk_newT, dk_cfrzI, List.set_cons_zero, List.set_cons_succ, List.getElem?_cons_zero, List.getElem?_cons_succ, List.length_cons, List.length_nil, ↓reduceIte, Nat.reduceAdd, decide_eq_true_eq, Bool.not_true, Bool.not_false, Bool.true_and, Bool.false_and, Bool.and_true, Bool.and_false, Bool.or_true, Bool.or_false, Bool.true_or, Bool.false_or, reduceCtorEq, decide_true, decide_false, Bool.false_eq_true, Int.reduceLT, Int.reduceLE, Int.reduceNeg, Int.reduceAdd, Int.reduceSub, Int.reduceMul, Nat.reduceMul, Nat.reduceLeDiff, Nat.zero_add, Bool.not_not, beq_self_eq_true, bne_self_eq_false, not_true_eq_false, not_false_eq_true, Bool.not_eq_true, Option.some.injEq, List.map_cons, List.map_nil, List.isEmpty_cons, List.isEmpty_nil, and_self, and_true, true_and, Int.toNat_natCast, Int.natCast_nonneg, Int.reduceToNat, Int.reduceEq, Int.reduceNe, Nat.reduceLT, Int.reduceBEq, Int.reduceBNe, Bool.not_eq_eq_eq_not, eq_self, if_true, if_false, ite_self, ci__law_begun_0]
    · simp (disch := (first | assumption | omega | (simp only [List.length_cons, List.length_nil, List.length_map, List.length_append, List.length_replicate] <;> omega))) only [rb_ok, rb_exc, rb_bad, rb_ite, m_ret, m_badE, m_opt, m_optn, m_ite, rO_some, rO_none, rW_some, rW_none, rO_map, rW_map, s_var0, s_varS, s_c, s_bin, k_bin, s_lift, s_un, s_liftU, s_eqc, k_eqc, k_eqc2, eq_ii, ne_ii, eq_ss, ne_ss, eq_bb, ne_bb, s_cmpE, s_asB, s_tru, k_tru, rT_some, tru_d, tru_c, dtru_bl, dtru_non, dtru_int, dtru_lst, dtru_tup, s_and, s_or, s_not, k_and, k_or, k_not, s_yes, m_and, m_or, s_eand, k_eand, k_eand2, s_eor, k_eor, k_eor2, s_enot, k_enot, k_enot2, s_if, k_if, m_iteD, m_iteI, m_iteB, m_iteAnd, m_iteOr, m_iteS, s_chain, k_ch, k_ch2, k_ch3, k_ch4, s_anil, s_acons, k_arg, k_arg2, s_tup, s_lst, k_tup, k_lst, rL_some, dats_nil, dats_cons, opt_map_some, opt_map_none, opt_or_some, opt_or_none, opt_bind_some, s_ix, k_ix, k_ix2, wix_dd, wix_cd, ix_t, ix_l, ix_s, cix_l, cix_d, ix_d, at_0, at_1, at_2, s_sl, k_sl, k_sl2, k_sl3, s_onone, s_osome, k_asI, sl_d, sl_c, sl_l, sl_t, cut_hi, cut_lo, cut_lh, s_fn, k_fn0, k_fn1, k_fn2, k_fn3, k_fn4, k_fn5, k_fn6, s_fnp, k_fnp1, k_fnp2, k_fnp2r, k_fnp3, s_call, k_call, s_o1, s_o2, len_d, len_c, len_l, len_t, len_scr, len_s, clen_l, int_i, int_b, min_i, max_i, sq_dl, sq_cl, csq_l, lof_t, lof_l, tof_t, tof_l, s_meth, k_meth, k_meth_str, ok_str, mt_str1, mt_join, d_I0, d_mod, d_div, d_pow, d_shr, d_neg, d_mulL, d_mulR, d_mulS, d_addI, d_addS, d_addL, d_addT, s_seq, k_seq_nx, k_seq_rt, k_seq_bk, k_seq_ct, s_nil, s_ret, k_ret, s_retn, s_brk, s_cnt, s_expr, k_expr, s_sif, k_sif, s_set, k_set, s_asg, k_asg, rE_some, t_name, t_tup, t_cons, t_nil, s_par, k_par, s_par3, k_par3, s_raise, s_put, k_put, k_put2, k_put3, k_put4, put_is, s_for, k_for, s_while, s_iseq, as_l, as_t, as_s, as_scr, s_rg1, s_rg2, k_rg1, k_rg2, s_enum, k_enum_l, k_enum_s, s_zip, k_zip_l, k_zip_t, k_zip_s, s_off, k_of, rD_some, dats_mapd, s_flc, k_lc, wipe_nil, wipe_cons, s_celf, k_celf, s_flst, k_flst, k_fin_rt, k_fin_nx, start_nil, start_cons, repl_0, repl_S, s_caught, s_frz, k_frzd, s_fld, k_fld, s_rgl1, k_rgl1, s_rgl2, k_rgl, k_rgl2, s_flc2, k_lc2, s_new, k_new2, dk_cat, dk_cat2, dk_cat3, dk_nil, dk_cons, dk_val, dk_val2, dk_dicC, dk_dicC2, dk_dic, dk_dic2, dk_rK, dk_dat, dk_datn, eq_nn, ne_nn, lo_l, lo_t, lo_s, dk_frz, dk_rF, dk_cfrz, dk_methc, dk_rLst, dk_app, dk_rApp, dk_ext, dk_rExt, dk_snoc, dk_last, dk_setl, dk_putF, dk_putF2, dk_putF3, dk_putF4, dk_rPF, dk_new, dk_newT, dk_cfrzI, List.set_cons_zero, List.set_cons_succ, List.getElem?_cons_zero, List.getElem?_cons_succ, List.length_cons, List.length_nil, ↓reduceIte, Nat.reduceAdd, decide_eq_true_eq, Bool.not_true, Bool.not_false, Bool.true_and, Bool.false_and, Bool.and_true, Bool.and_false, Bool.or_true, Bool.or_false, Bool.true_or, Bool.false_or, reduceCtorEq, decide_true, decide_false, Bool.false_eq_true, Int.reduceLT, Int.reduceLE, Int.reduceNeg, Int.reduceAdd, Int.reduceSub, Int.reduceMul, Nat.reduceMul, Nat.reduceLeDiff, Nat.zero_add, Bool.not_not, beq_self_eq_true, bne_self_eq_false, not_true_eq_false, not_false_eq_true, Bool.not_eq_true, Option.some.injEq, List.map_cons, List.map_nil, List.isEmpty_cons, List.isEmpty_nil, and_self, and_true, true_and, Int.toNat_natCast, Int.natCast_nonneg, Int.reduceToNat, Int.reduceEq, Int.reduceNe, Nat.reduceLT, Int.reduceBEq, Int.reduceBNe, Bool.not_eq_eq_eq_not, eq_self, if_true, if_false, ite_self, ce__law_begun_1]
  refine ⟨stC (((ns.map fun i => if i < 0 then -i else i).filter fun i => decide (10 ^ (18 : Int).toNat ≤ i)).map fun i => i - 10 ^ (18 : Int).toNat) (ns.map fun i => if i < 0 then -i else i) 0 0 [], fn_ev ?_, ⟨_, _, 0, 0, rfl, Int.le_refl _, fun x hx => ?_, Int.le_refl _, by omega⟩⟩
  · simp (disch := (first | assumption | omega | (simp only [List.length_cons, List.length_nil, List.length_map, List.length_append, List.length_replicate] <;> omega))) only [rb_ok, rb_exc, rb_bad, rb_ite, m_ret, m_badE, m_opt, m_optn, m_ite, rO_some, rO_none, rW_some, rW_none, rO_map, rW_map, s_var0, s_varS, s_c, s_bin, k_bin, s_lift, s_un, s_liftU, s_eqc, k_eqc, k_eqc2, eq_ii, ne_ii, eq_ss, ne_ss, eq_bb, ne_bb, s_cmpE, s_asB, s_tru, k_tru, rT_some, tru_d, tru_c, dtru_bl, dtru_non, dtru_int, dtru_lst, dtru_tup, s_and, s_or, s_not, k_and, k_or, k_not, s_yes, m_and, m_or, s_eand, k_eand, k_eand2, s_eor, k_eor, k_eor2, s_enot, k_enot, k_enot2, s_if, k_if, m_iteD, m_iteI, m_iteB, m_iteAnd, m_iteOr, m_iteS, s_chain, k_ch, k_ch2, k_ch3, k_ch4, s_anil, s_acons, k_arg, k_arg2, s_tup, s_lst, k_tup, k_lst, rL_some, dats_nil, dats_cons, opt_map_some, opt_map_none, opt_or_some, opt_or_none, opt_bind_some, s_ix, k_ix, k_ix2, wix_dd, wix_cd, ix_t, ix_l, ix_s, cix_l, cix_d, ix_d, at_0, at_1, at_2, s_sl, k_sl, k_sl2, k_sl3, s_onone, s_osome, k_asI, sl_d, sl_c, sl_l, sl_t, cut_hi, cut_lo, cut_lh, s_fn, k_fn0, k_fn1, k_fn2, k_fn3, k_fn4, k_fn5, k_fn6, s_fnp, k_fnp1, k_fnp2, k_fnp2r, k_fnp3, s_call, k_call, s_o1, s_o2, len_d, len_c, len_l, len_t, len_scr, len_s, clen_l, int_i, int_b, min_i, max_i, sq_dl, sq_cl, csq_l, lof_t, lof_l, tof_t, tof_l, s_meth, k_meth, k_meth_str, ok_str, mt_str1, mt_join, d_I0, d_mod, d_div, d_pow, d_shr, d_neg, d_mulL, d_mulR, d_mulS, d_addI, d_addS, d_addL, d_addT, s_seq, k_seq_nx, k_seq_rt, k_seq_bk, k_seq_ct, s_nil, s_ret, k_ret, s_retn, s_brk, s_cnt, s_expr, k_expr, s_sif, k_sif, s_set, k_set, s_asg, k_asg, rE_some, t_name, t_tup, t_cons, t_nil, s_par, k_par, s_par3, k_par3, s_raise, s_put, k_put, k_put2, k_put3, k_put4, put_is, s_for, k_for, s_while, s_iseq, as_l, as_t, as_s, as_scr, s_rg1, s_rg2, k_rg1, k_rg2, s_enum, k_enum_l, k_enum_s, s_zip, k_zip_l, k_zip_t, k_zip_s, s_off, k_of, rD_some, dats_mapd, s_flc, k_lc, wipe_nil, wipe_cons, s_celf, k_celf, s_flst, k_flst, k_fin_rt, k_fin_nx, start_nil, start_cons, repl_0, repl_S, s_caught, s_frz, k_frzd, s_fld, k_fld, s_rgl1, k_rgl1, s_rgl2, k_rgl, k_rgl2, s_flc2, k_lc2, s_new, k_new2, dk_cat, dk_cat2, dk_cat3, dk_nil, dk_cons, dk_val, dk_val2, dk_dicC, dk_dicC2, dk_dic, dk_dic2, dk_rK, dk_dat, dk_datn, eq_nn, ne_nn, lo_l, lo_t, lo_s, dk_frz, dk_rF, dk_cfrz, dk_methc, dk_rLst, dk_app, dk_rApp, dk_ext, dk_rExt, dk_snoc, dk_last, dk_setl, dk_putF, dk_putF2, dk_putF3, dk_putF4, dk_rPF, dk_new, dk_newT, dk_cfrzI, List.set_cons_zero, List.set_cons_succ, List.getElem?_cons_zero, List.getElem?_cons_succ, List.length_cons, List.length_nil, ↓reduceIte, Nat.reduceAdd, decide_eq_true_eq, Bool.not_true, Bool.not_false, Bool.true_and, Bool.false_and, Bool.and_true, Bool.and_false, Bool.or_true, Bool.or_false, Bool.true_or, Bool.false_or, reduceCtorEq, decide_true, decide_false, Bool.false_eq_true, Int.reduceLT, Int.reduceLE, Int.reduceNeg, Int.reduceAdd, Int.reduceSub, Int.reduceMul, Nat.reduceMul, Nat.reduceLeDiff, Nat.zero_add, Bool.not_not, beq_self_eq_true, bne_self_eq_false, not_true_eq_false, not_false_eq_true, Bool.not_eq_true, Option.some.injEq, List.map_cons, List.map_nil, List.isEmpty_cons, List.isEmpty_nil, and_self, and_true, true_and, Int.toNat_natCast, Int.natCast_nonneg, Int.reduceToNat, Int.reduceEq, Int.reduceNe, Nat.reduceLT, Int.reduceBEq, Int.reduceBNe, Bool.not_eq_eq_eq_not, eq_self, if_true, if_false, ite_self, b__law_begun, start_cons, start_nil, repl_S, repl_0, wipe_nil, wipe_cons, e1, e2]
    unfold stC
    simp [List.map_map, Function.comp_def]
  · obtain ⟨y, hy, rfl⟩ := List.mem_map.mp hx
    have := (List.mem_filter.mp hy).2
    simp only [decide_eq_true_eq] at this
    omega
theorem r_pick {cs xt : List Cell} {t : Nat} {l : List Dt} (hs : St cs xt t) (ht : t < 1000000) (h1 : 1 ≤ l.length) (hn : l.length ≤ 1000000) : ∃ x cs', m__law_pick [.cel 1, .dat (.lst l)] cs = .ok (.dat x) cs' ∧ x ∈ l ∧ St cs' xt (t + 1) := by
  obtain ⟨d, cs', q, d0, d1, s1⟩ := r_draw (n := (l.length : Int)) hs ht (by omega) (by omega)
  obtain ⟨x, hx, hm⟩ := atI_pos (l := l) d0 d1
  refine ⟨x, cs', fn_ev ?_, hm, s1⟩
  simp (disch := (first | assumption | omega | (simp only [List.length_cons, List.length_nil, List.length_map, List.length_append, List.length_replicate] <;> omega))) only [rb_ok, rb_exc, rb_bad, rb_ite, m_ret, m_badE, m_opt, m_optn, m_ite, rO_some, rO_none, rW_some, rW_none, rO_map, rW_map, s_var0, s_varS, s_c, s_bin, k_bin, s_lift, s_un, s_liftU, s_eqc, k_eqc, k_eqc2, eq_ii, ne_ii, eq_ss, ne_ss, eq_bb, ne_bb, s_cmpE, s_asB, s_tru, k_tru, rT_some, tru_d, tru_c, dtru_bl, dtru_non, dtru_int, dtru_lst, dtru_tup, s_and, s_or, s_not, k_and, k_or, k_not, s_yes, m_and, m_or, s_eand, k_eand, k_eand2, s_eor, k_eor, k_eor2, s_enot, k_enot, k_enot2, s_if, k_if, m_iteD, m_iteI, m_iteB, m_iteAnd, m_iteOr, m_iteS, s_chain, k_ch, k_ch2, k_ch3, k_ch4, s_anil, s_acons, k_arg, k_arg2, s_tup, s_lst, k_tup, k_lst, rL_some, dats_nil, dats_cons, opt_map_some, opt_map_none, opt_or_some, opt_or_none, opt_bind_some, s_ix, k_ix, k_ix2, wix_dd, wix_cd, ix_t, ix_l, ix_s, cix_l, cix_d, ix_d, at_0, at_1, at_2, s_sl, k_sl, k_sl2, k_sl3, s_onone, s_osome, k_asI, sl_d, sl_c, sl_l, sl_t, cut_hi, cut_lo, cut_lh, s_fn, k_fn0, k_fn1, k_fn2, k_fn3, k_fn4, k_fn5, k_fn6, s_fnp, k_fnp1, k_fnp2, k_fnp2r, k_fnp3, s_call, k_call, s_o1, s_o2, len_d, len_c, len_l, len_t, len_scr, len_s, clen_l, int_i, int_b, min_i, max_i, sq_dl, sq_cl, csq_l, lof_t, lof_l, tof_t, tof_l, s_meth, k_meth, k_meth_str, ok_str, mt_str1, mt_join, d_I0, d_mod, d_div, d_pow, d_shr, d_neg, d_mulL, d_mulR, d_mulS, d_addI, d_addS, d_addL, d_addT, s_seq, k_seq_nx, k_seq_rt, k_seq_bk, k_seq_ct, s_nil, s_ret, k_ret, s_retn, s_brk, s_cnt, s_expr, k_expr, s_sif, k_sif, s_set, k_set, s_asg, k_asg, rE_some, t_name, t_tup, t_cons, t_nil, s_par, k_par, s_par3, k_par3, s_raise, s_put, k_put, k_put2, k_put3, k_put4, put_is, s_for, k_for, s_while, s_iseq, as_l, as_t, as_s, as_scr, s_rg1, s_rg2, k_rg1, k_rg2, s_enum, k_enum_l, k_enum_s, s_zip, k_zip_l, k_zip_t, k_zip_s, s_off, k_of, rD_some, dats_mapd, s_flc, k_lc, wipe_nil, wipe_cons, s_celf, k_celf, s_flst, k_flst, k_fin_rt, k_fin_nx, start_nil, start_cons, repl_0, repl_S, s_caught, s_frz, k_frzd, s_fld, k_fld, s_rgl1, k_rgl1, s_rgl2, k_rgl, k_rgl2, s_flc2, k_lc2, s_new, k_new2, dk_cat, dk_cat2, dk_cat3, dk_nil, dk_cons, dk_val, dk_val2, dk_dicC, dk_dicC2, dk_dic, dk_dic2, dk_rK, dk_dat, dk_datn, eq_nn, ne_nn, lo_l, lo_t, lo_s, dk_frz, dk_rF, dk_cfrz, dk_methc, dk_rLst, dk_app, dk_rApp, dk_ext, dk_rExt, dk_snoc, dk_last, dk_setl, dk_putF, dk_putF2, dk_putF3, dk_putF4, dk_rPF, dk_new, dk_newT, dk_cfrzI, List.set_cons_zero, List.set_cons_succ, List.getElem?_cons_zero, List.getElem?_cons_succ, List.length_cons, List.length_nil, ↓reduceIte, Nat.reduceAdd, decide_eq_true_eq, Bool.not_true, Bool.not_false, Bool.true_and, Bool.false_and, Bool.and_true, Bool.and_false, Bool.or_true, Bool.or_false, Bool.true_or, Bool.false_or, reduceCtorEq, decide_true, decide_false, Bool.false_eq_true, Int.reduceLT, Int.reduceLE, Int.reduceNeg, Int.reduceAdd, Int.reduceSub, Int.reduceMul, Nat.reduceMul, Nat.reduceLeDiff, Nat.zero_add, Bool.not_not, beq_self_eq_true, bne_self_eq_false, not_true_eq_false, not_false_eq_true, Bool.not_eq_true, Option.some.injEq, List.map_cons, List.map_nil, List.isEmpty_cons, List.isEmpty_nil, and_self, and_true, true_and, Int.toNat_natCast, Int.natCast_nonneg, Int.reduceToNat, Int.reduceEq, Int.reduceNe, Nat.reduceLT, Int.reduceBEq, Int.reduceBNe, Bool.not_eq_eq_eq_not, eq_self, if_true, if_false, ite_self, b__law_pick, start_cons, start_nil, repl_S, repl_0, q, hx]
end DX

set_option Elab.async false
set_option linter.all false
set_option maxRecDepth 100000
set_option maxHeartbeats 1000000
/-! LW: words. -/
namespace DX
open PySem PySem.Spec PyProof.Rows L2
def mu_is_odd_0 (env : En) (_ : List Cell) : Nat := match env with
  | some (.dat (.int i)) :: _ => i.toNat + 1
  | _ => 0
def lt_is_odd_0 : EvT := tCmpE (eBin (dI0 fun i j => .bl (decide (j < i))) (eVar 0) (eC (.int 0)))
def lw_is_odd_0 : Sv := sPar 0 1 (aCons (eBin (dI0 fun i j => .int (Builtin.bitAnd i j)) (eVar 0) (eBin (dI0 fun i j => .int (i - j)) (eVar 0) (eC (.int 1)))) (aCons (eNot (eVar 1)) (aNil)))
def b_is_odd : Sv := sSeq (sSet 1 (eC (.bl false))) (sSeq (sWhile mu_is_odd_0 (lt_is_odd_0) (lw_is_odd_0)) (sRet (eVar 1)))
abbrev m_is_odd : Fn := fnOf 2 (b_is_odd)
def b_is_number : Sv := sRet (eAnd (eCall oIsi (aCons (eVar 0) (aCons (eC (.op (.ty "int"))) (aNil)))) (eNot (eCall oIsi (aCons (eVar 0) (aCons (eC (.op (.ty "bool"))) (aNil))))))
abbrev m_is_number : Fn := fnOf 1 (b_is_number)
def b_is_sign : Sv := sRet (eAnd (eFn 1 (m_is_number) (aCons (eVar 0) (aNil))) (eBin dIn (eVar 0) (eTup (aCons (eC (.int 1)) (aCons (eUn dNeg (eC (.int 1))) (aNil))))))
abbrev m_is_sign : Fn := fnOf 1 (b_is_sign)
def ce_is_word_0 : Ev := eBin dIn (eVar 2) (eC (.str "1abc"))
def b_is_word : Sv := sSeq (sIf (tOr' (tNot' (tTru (eCall oIsi (aCons (eVar 0) (aCons (eC (.op (.ty "tuple"))) (aNil)))))) (tOr' (tCmpE (eEqC true (eCall oLen (aCons (eVar 0) (aNil))) (eC (.int 2)))) (tNot' (tTru (eFn 1 (m_is_sign) (aCons (eIx (eVar 0) (eC (.int 0))) (aNil))))))) (sRet (eC (.bl false))) (sNil)) (sSeq (sSet 1 (eIx (eVar 0) (eC (.int 1)))) (sRet (eAnd (eCall oIsi (aCons (eVar 1) (aCons (eC (.op (.ty "str"))) (aNil)))) (eAnd (eChain (dI0 fun i j => .bl (decide (i ≤ j))) (dI0 fun i j => .bl (decide (i ≤ j))) (eC (.int 1)) (eCall oLen (aCons (eVar 1) (aNil))) (eC (.int 12))) (eCall (o1 dAll) (aCons (eOfF (fLc (iSeq (eVar 1)) (tName 2) (tYesE) (ce_is_word_0) [2])) (aNil)))))))
abbrev m_is_word : Fn := fnOf 3 (b_is_word)
def b_need_word : Sv := sIf (tNot' (tTru (eFn 1 (m_is_word) (aCons (eVar 0) (aNil))))) (sRaise "BadWord") (sNil)
abbrev m_need_word : Fn := fnOf 1 (b_need_word)
def b_need_like : Sv := sSeq (sExpr (eFn 1 (m_need_word) (aCons (eVar 0) (aNil)))) (sSeq (sExpr (eFn 1 (m_need_word) (aCons (eVar 1) (aNil)))) (sIf (tCmpE (eEqC true (eCall oLen (aCons (eIx (eVar 0) (eC (.int 1))) (aNil))) (eCall oLen (aCons (eIx (eVar 1) (eC (.int 1))) (aNil))))) (sRaise "OtherLength") (sNil)))
abbrev m_need_like : Fn := fnOf 2 (b_need_like)
def ce_code_of_0 : Ev := eBin (dI cPow fun i j => .int (i * 2 ^ j.toNat)) (eMeth okStr (oStr1 kIndex) (eC (.str "1abc")) (aCons (eVar 2) (aNil))) (eBin dMul (eC (.int 2)) (eVar 1))
def b_code_of : Sv := sRet (eCall (o1 dSum) (aCons (eOfF (fLc (iEnumE (aCons (eIx (eVar 0) (eC (.int 1))) (aNil))) (tTupG 2 (tgCons (tName 1) (tgCons (tName 2) (tgNil)))) (tYesE) (ce_code_of_0) [1, 2])) (aNil)))
abbrev m_code_of : Fn := fnOf 3 (b_code_of)
def ce_letters_of_0 : Ev := eIx (eC (.str "1abc")) (eBin (dI0 fun i j => .int (Builtin.bitAnd i j)) (eBin (dI cShr fun i j => .int (i / 2 ^ j.toNat)) (eVar 0) (eBin dMul (eC (.int 2)) (eVar 2))) (eC (.int 3)))
def b_letters_of : Sv := sRet (eMeth okStr oJoin (eC (.str "")) (aCons (eOfF (fLc (iRg1 (aCons (eVar 1) (aNil))) (tName 2) (tYesE) (ce_letters_of_0) [2])) (aNil)))
abbrev m_letters_of : Fn := fnOf 3 (b_letters_of)
def b_is_crossed : Sv := sRet (eFn 1 (m_is_odd) (aCons (eBin (dI0 fun i j => .int (Builtin.bitAnd i j)) (eBin (dI0 fun i j => .int (Builtin.bitAnd i j)) (eBin (dI cShr fun i j => .int (i / 2 ^ j.toNat)) (eVar 0) (eC (.int 1))) (eVar 1)) (eC (.int 5592405))) (aNil)))
abbrev m_is_crossed : Fn := fnOf 2 (b_is_crossed)
def b_put_of : Sv := sSeq (sPar 2 3 (aCons (eFn 1 (m_code_of) (aCons (eVar 0) (aNil))) (aCons (eFn 1 (m_code_of) (aCons (eVar 1) (aNil))) (aNil)))) (sSeq (sSet 4 (eIf (tTru (eFn 2 (m_is_crossed) (aCons (eVar 2) (aCons (eVar 3) (aNil))))) (eBin dMul (eUn dNeg (eIx (eVar 0) (eC (.int 0)))) (eIx (eVar 1) (eC (.int 0)))) (eBin dMul (eIx (eVar 0) (eC (.int 0))) (eIx (eVar 1) (eC (.int 0)))))) (sRet (eTup (aCons (eVar 4) (aCons (eFn 2 (m_letters_of) (aCons (eBin (dI0 fun i j => .int (Builtin.bitXor i j)) (eVar 2) (eVar 3)) (aCons (eCall oLen (aCons (eIx (eVar 0) (eC (.int 1))) (aNil))) (aNil)))) (aNil))))))
abbrev m_put_of : Fn := fnOf 5 (b_put_of)
def b_is_past : Sv := sRet (eEqC false (eFn 2 (m_is_crossed) (aCons (eVar 0) (aCons (eVar 1) (aNil)))) (eFn 2 (m_is_crossed) (aCons (eVar 1) (aCons (eVar 0) (aNil)))))
abbrev m_is_past : Fn := fnOf 2 (b_is_past)
def b_past_of : Sv := sRet (eFn 2 (m_is_past) (aCons (eFn 1 (m_code_of) (aCons (eVar 0) (aNil))) (aCons (eFn 1 (m_code_of) (aCons (eVar 1) (aNil))) (aNil))))
abbrev m_past_of : Fn := fnOf 2 (b_past_of)
def b_is_turning : Sv := sRet (eEqC false (eBin (dI cMod fun i j => .int (i % j)) (eMeth okStr (oStr1 kCount) (eIx (eVar 0) (eC (.int 1))) (aCons (eC (.str "c")) (aNil))) (eC (.int 2))) (eC (.int 0)))
abbrev m_is_turning : Fn := fnOf 1 (b_is_turning)
def b_put_together : Sv := sSeq (sExpr (eFn 2 (m_need_like) (aCons (eVar 0) (aCons (eVar 1) (aNil))))) (sRet (eFn 2 (m_put_of) (aCons (eVar 0) (aCons (eVar 1) (aNil)))))
abbrev m_put_together : Fn := fnOf 2 (b_put_together)
def b_goes_past : Sv := sSeq (sExpr (eFn 2 (m_need_like) (aCons (eVar 0) (aCons (eVar 1) (aNil))))) (sRet (eFn 2 (m_past_of) (aCons (eVar 0) (aCons (eVar 1) (aNil)))))
abbrev m_goes_past : Fn := fnOf 2 (b_goes_past)
def b_is_turner : Sv := sSeq (sExpr (eFn 1 (m_need_word) (aCons (eVar 0) (aNil)))) (sRet (eFn 1 (m_is_turning) (aCons (eVar 0) (aNil))))
abbrev m_is_turner : Fn := fnOf 1 (b_is_turner)
def lb__law_word_0 : Sv := sSet 2 (eBin dAdd (eVar 2) (eFn 2 (m__law_pick) (aCons (eVar 0) (aCons (eLst (aCons (eC (.str "1")) (aCons (eC (.str "a")) (aCons (eC (.str "b")) (aCons (eC (.str "c")) (aNil)))))) (aNil)))))
def b__law_word : Sv := sSeq (sSet 2 (eC (.str ""))) (sSeq (sFor (iRg1 (aCons (eVar 1) (aNil))) (tName 3) (lb__law_word_0)) (sRet (eTup (aCons (eFn 2 (m__law_pick) (aCons (eVar 0) (aCons (eLst (aCons (eC (.int 1)) (aCons (eC (.int 1)) (aCons (eUn dNeg (eC (.int 1))) (aNil))))) (aNil)))) (aCons (eVar 2) (aNil))))))
abbrev m__law_word : Fn := fnOf 4 (b__law_word)
def b__law_minus : Sv := sRet (eTup (aCons (eUn dNeg (eIx (eVar 0) (eC (.int 0)))) (aCons (eIx (eVar 0) (eC (.int 1))) (aNil))))
abbrev m__law_minus : Fn := fnOf 1 (b__law_minus)
def b__law_is_whole : Sv := sRet (eAnd (eCall oIsi (aCons (eVar 0) (aCons (eC (.op (.ty "int"))) (aNil)))) (eNot (eCall oIsi (aCons (eVar 0) (aCons (eC (.op (.ty "bool"))) (aNil))))))
abbrev m__law_is_whole : Fn := fnOf 1 (b__law_is_whole)
def b__law_nothing : Sv := sRet (eTup (aCons (eVar 1) (aCons (eBin dMul (eC (.str "1")) (eVar 0)) (aNil))))
abbrev m__law_nothing : Fn := fnOf 2 (b__law_nothing)
def b__law_says : Sv := sRet (eIf (tTru (eVar 1)) (eBin dIs (eVar 0) (eC (.bl true))) (eBin dIs (eVar 0) (eC (.bl false))))
abbrev m__law_says : Fn := fnOf 2 (b__law_says)
def lb__law_two_0 : Sv := sSeq (sPar 6 7 (aCons (eMeth okStr (oStr1 kIndex) (eC (.str "1abc")) (aCons (eVar 4) (aNil))) (aCons (eMeth okStr (oStr1 kIndex) (eC (.str "1abc")) (aCons (eVar 5) (aNil))) (aNil)))) (sSeq (sIf (tAnd' (tCmpE (eBin (dI0 fun i j => .bl (decide (j < i))) (eVar 6) (eC (.int 1)))) (tCmpE (eEqC false (eBin (dI cMod fun i j => .int (i % j)) (eCall (o1 dInt1) (aCons (eVar 7) (aNil))) (eC (.int 2))) (eC (.int 1))))) (sSet 2 (eUn dNeg (eVar 2))) (sNil)) (sSet 3 (eBin dAdd (eVar 3) (eIx (eC (.str "1abc")) (eBin (dI0 fun i j => .int (Builtin.bitXor i j)) (eVar 6) (eVar 7))))))
def b__law_two : Sv := sSeq (sPar 2 3 (aCons (eBin dMul (eIx (eVar 0) (eC (.int 0))) (eIx (eVar 1) (eC (.int 0)))) (aCons (eC (.str "")) (aNil)))) (sSeq (sFor (iZipE (aCons (eIx (eVar 0) (eC (.int 1))) (aCons (eIx (eVar 1) (eC (.int 1))) (aNil)))) (tTupG 2 (tgCons (tName 4) (tgCons (tName 5) (tgNil)))) (lb__law_two_0)) (sRet (eTup (aCons (eVar 2) (aCons (eVar 3) (aNil))))))
abbrev m__law_two : Fn := fnOf 8 (b__law_two)
def b__law_past : Sv := sRet (eEqC false (eFn 2 (m__law_two) (aCons (eVar 0) (aCons (eVar 1) (aNil)))) (eFn 2 (m__law_two) (aCons (eVar 1) (aCons (eVar 0) (aNil)))))
abbrev m__law_past : Fn := fnOf 2 (b__law_past)
def ci__law_is_word_0 : EvT := tCmpE (eBin dNotIn (eVar 1) (eC (.str "1abc")))
def ce__law_is_word_0 : Ev := eC (.int 1)
def b__law_is_word : Sv := sSeq (sIf (tOr' (tNot' (tTru (eCall oIsi (aCons (eVar 0) (aCons (eC (.op (.ty "tuple"))) (aNil)))))) (tOr' (tCmpE (eEqC true (eCall oLen (aCons (eVar 0) (aNil))) (eC (.int 2)))) (tOr' (tNot' (tTru (eFn 1 (m__law_is_whole) (aCons (eIx (eVar 0) (eC (.int 0))) (aNil))))) (tCmpE (eBin dNotIn (eIx (eVar 0) (eC (.int 0))) (eLst (aCons (eC (.int 1)) (aCons (eUn dNeg (eC (.int 1))) (aNil))))))))) (sRet (eC (.bl false))) (sNil)) (sSeq (sIf (tOr' (tNot' (tTru (eCall oIsi (aCons (eIx (eVar 0) (eC (.int 1))) (aCons (eC (.op (.ty "str"))) (aNil)))))) (tNot' (tCmpE (eChain (dI0 fun i j => .bl (decide (i ≤ j))) (dI0 fun i j => .bl (decide (i ≤ j))) (eC (.int 1)) (eCall oLen (aCons (eIx (eVar 0) (eC (.int 1))) (aNil))) (eC (.int 12)))))) (sRet (eC (.bl false))) (sNil)) (sRet (eEqC false (eOfF (fLc (iSeq (eIx (eVar 0) (eC (.int 1)))) (tName 1) (ci__law_is_word_0) (ce__law_is_word_0) [1])) (eLst (aNil)))))
abbrev m__law_is_word : Fn := fnOf 2 (b__law_is_word)
def b__law_bad_word : Sv := sSeq (sSet 1 (eLst (aCons (eC .non) (aCons (eC (.int 5)) (aCons (eC (.str "a")) (aCons (eTup (aNil)) (aCons (eTup (aCons (eC (.int 1)) (aNil))) (aCons (eTup (aCons (eC (.int 1)) (aCons (eC (.str "")) (aNil)))) (aCons (eTup (aCons (eC (.int 0)) (aCons (eC (.str "a")) (aNil)))) (aCons (eTup (aCons (eC (.int 2)) (aCons (eC (.str "a")) (aNil)))) (aCons (eTup (aCons (eC (.bl true)) (aCons (eC (.str "a")) (aNil)))) (aCons (eTup (aCons (eC (.int 1)) (aCons (eC (.str "d")) (aNil)))) (aCons (eTup (aCons (eC (.int 1)) (aCons (eC (.str "A")) (aNil)))) (aCons (eLst (aCons (eC (.int 1)) (aCons (eC (.str "a")) (aNil)))) (aCons (eTup (aCons (eC (.int 1)) (aCons (eC (.int 5)) (aNil)))) (aNil)))))))))))))))) (sSeq (sSet 1 (eBin dAdd (eVar 1) (eLst (aCons (eTup (aCons (eC (.int 1)) (aCons (eBin dMul (eC (.str "a")) (eC (.int 13))) (aNil)))) (aCons (eTup (aCons (eC (.str "1")) (aCons (eC (.str "a")) (aNil)))) (aCons (eTup (aCons (eC (.int 1)) (aCons (eTup (aCons (eC (.str "a")) (aNil))) (aNil)))) (aCons (eTup (aCons (eC (.int 1)) (aCons (eC (.str "a")) (aCons (eC (.int 1)) (aNil))))) (aCons (eTup (aCons (eUn dNeg (eC (.int 1))) (aCons (eC (.str "ab ")) (aNil)))) (aCons (eTup (aCons (eC .non) (aCons (eC (.str "1")) (aNil)))) (aCons ((fun _ => M.ret (.dat (.dic [])))) (aNil))))))))))) (sRet (eFn 2 (m__law_pick) (aCons (eVar 0) (aCons (eVar 1) (aNil))))))
abbrev m__law_bad_word : Fn := fnOf 2 (b__law_bad_word)
theorem bitAnd_nat (a b : Nat) : Builtin.bitAnd (a : Int) b = ((a &&& b : Nat) : Int) := by
  unfold Builtin.bitAnd
  rw [decide_eq_true (Int.natCast_nonneg a), decide_eq_true (Int.natCast_nonneg b)]
  simp
theorem nat_parts (n : Nat) : n = n % 2 + 2 * (n / 2) := by omega
theorem and_m2 (a b : Nat) : (a &&& b) % 2 = a % 2 &&& b % 2 := by simpa using Nat.and_mod_two_pow (a := a) (b := b) (n := 1)
theorem xor_m2 (a b : Nat) : (a ^^^ b) % 2 = a % 2 ^^^ b % 2 := by simpa using Nat.xor_mod_two_pow (a := a) (b := b) (n := 1)
theorem xor_and : ∀ a b : Nat, (a ^^^ b) + 2 * (a &&& b) = a + b := by
  intro a
  induction a using Nat.strongRecOn with
  | ind a ih =>
    intro b
    by_cases h : a = 0
    · subst h; simp
    · have q := ih (a / 2) (by omega) (b / 2)
      have e2 : (a &&& b) / 2 = a / 2 &&& b / 2 := Nat.and_div_two
      have e3 : (a ^^^ b) / 2 = a / 2 ^^^ b / 2 := Nat.xor_div_two
      have c : (a % 2 ^^^ b % 2) + 2 * (a % 2 &&& b % 2) = a % 2 + b % 2 := by
        have h1 : a % 2 = 0 ∨ a % 2 = 1 := by omega
        have h2 : b % 2 = 0 ∨ b % 2 = 1 := by omega
        rcases h1 with h1 | h1 <;> rcases h2 with h2 | h2 <;> rw [h1, h2] <;> decide
      have p1 := nat_parts (a &&& b)
      have p2 := nat_parts (a ^^^ b)
      rw [e2, and_m2] at p1
      rw [e3, xor_m2] at p2
      omega
theorem bitXor_nat (a b : Nat) : Builtin.bitXor (a : Int) b = ((a ^^^ b : Nat) : Int) := by
  rw [PyProof.Rows.bitXor_and, bitAnd_nat]
  have := xor_and a b
  omega
/-! parity of the ones -/
def par (n : Nat) : Bool := if h : n = 0 then false else xor (n % 2 == 1) (par (n / 2))
termination_by n
decreasing_by omega
theorem par_zero : par 0 = false := by unfold par; rfl
theorem par_rec (n : Nat) : par n = xor (n % 2 == 1) (par (n / 2)) := by
  by_cases h : n = 0
  · subst h
    rw [par_zero]
    rfl
  · conv => lhs; unfold par
    rw [dif_neg h]
theorem par_step : ∀ n : Nat, 0 < n → par (n &&& (n - 1)) = !par n := by
  intro n
  induction n using Nat.strongRecOn with
  | ind n ih =>
    intro hn
    have e2 : (n &&& (n - 1)) / 2 = n / 2 &&& (n - 1) / 2 := Nat.and_div_two
    have m2 : (n &&& (n - 1)) % 2 = 0 := by
      rw [and_m2]
      have h1 : (n % 2 = 0 ∧ (n - 1) % 2 = 1) ∨ (n % 2 = 1 ∧ (n - 1) % 2 = 0) := by omega
      rcases h1 with ⟨h1, h2⟩ | ⟨h1, h2⟩ <;> rw [h1, h2] <;> decide
    rw [par_rec (n &&& (n - 1)), par_rec n, e2, m2]
    by_cases h : n % 2 = 1
    · have : (n - 1) / 2 = n / 2 := by omega
      rw [this, Nat.and_self, h]
      simp
    · have h0 : n % 2 = 0 := by omega
      have : (n - 1) / 2 = n / 2 - 1 := by omega
      rw [this, ih (n / 2) (by omega) (by omega), h0]
      simp
theorem land_lt {n : Nat} (h : 0 < n) : (n &&& (n - 1)) < n := Nat.lt_of_le_of_lt Nat.and_le_right (by omega)
/-! digits -/
def code : List Nat → Nat
  | [] => 0
  | x :: l => x + 4 * code l
theorem m4_and (a b : Nat) : (a &&& b) % 4 = a % 4 &&& b % 4 := by simpa using Nat.and_mod_two_pow (a := a) (b := b) (n := 2)
theorem m4_xor (a b : Nat) : (a ^^^ b) % 4 = a % 4 ^^^ b % 4 := by simpa using Nat.xor_mod_two_pow (a := a) (b := b) (n := 2)
theorem d4_and (a b : Nat) : (a &&& b) / 4 = a / 4 &&& b / 4 := by
  have e : ∀ n : Nat, n / 4 = n / 2 / 2 := fun n => by omega
  rw [e, e a, e b, Nat.and_div_two, Nat.and_div_two]
theorem d4_xor (a b : Nat) : (a ^^^ b) / 4 = a / 4 ^^^ b / 4 := by
  have e : ∀ n : Nat, n / 4 = n / 2 / 2 := fun n => by omega
  rw [e, e a, e b, Nat.xor_div_two, Nat.xor_div_two]
theorem code_xor : ∀ l m : List Nat, l.length = m.length → (∀ x ∈ l, x < 4) → (∀ x ∈ m, x < 4) → code (List.zipWith (fun x y => x ^^^ y) l m) = code l ^^^ code m
  | [], [], _, _, _ => rfl
  | x :: l, y :: m, h, hl, hm => by
    have ih := code_xor l m (by simpa using h) (fun z hz => hl z (List.mem_cons_of_mem _ hz)) (fun z hz => hm z (List.mem_cons_of_mem _ hz))
    have hx := hl x List.mem_cons_self
    have hy := hm y List.mem_cons_self
    show (x ^^^ y) + 4 * code (List.zipWith _ l m) = (x + 4 * code l) ^^^ (y + 4 * code m)
    rw [ih]
    have a1 : (x + 4 * code l) % 4 = x := by omega
    have a2 : (x + 4 * code l) / 4 = code l := by omega
    have b1 : (y + 4 * code m) % 4 = y := by omega
    have b2 : (y + 4 * code m) / 4 = code m := by omega
    have p := m4_xor (x + 4 * code l) (y + 4 * code m)
    have q := d4_xor (x + 4 * code l) (y + 4 * code m)
    rw [a1, b1] at p
    rw [a2, b2] at q
    have lt : x ^^^ y < 4 := Nat.xor_lt_two_pow (n := 2) hx hy
    omega
theorem code_digit : ∀ (l : List Nat) (i : Nat), (∀ x ∈ l, x < 4) → code l / 2 ^ (2 * i) % 4 = l.getD i 0
  | [], i, _ => by simp [code]
  | x :: l, 0, h => by
    have := h x List.mem_cons_self
    show (x + 4 * code l) / 2 ^ (2 * 0) % 4 = x
    simp
    omega
  | x :: l, i + 1, h => by
    have ih := code_digit l i fun z hz => h z (List.mem_cons_of_mem _ hz)
    have hx := h x List.mem_cons_self
    show (x + 4 * code l) / 2 ^ (2 * (i + 1)) % 4 = l.getD i 0
    have e : 2 ^ (2 * (i + 1)) = 4 * 2 ^ (2 * i) := by rw [show 2 * (i + 1) = 2 + 2 * i by omega, Nat.pow_add]
    rw [e, ← Nat.div_div_eq_div_mul, show (x + 4 * code l) / 4 = code l by omega]
    exact ih
/-- the crossings, place by place -/
def cross : List Nat → List Nat → Bool
  | x :: l, y :: m => xor (decide (2 ≤ x) && decide (y % 2 = 1)) (cross l m)
  | _, _ => false
theorem par4 (n : Nat) : par n = xor (n % 2 == 1) (xor (n / 2 % 2 == 1) (par (n / 4))) := by
  rw [par_rec n, par_rec (n / 2), Nat.div_div_eq_div_mul]
def figs : Nat → Nat
  | 0 => 0
  | n + 1 => 1 + 4 * figs n
theorem cross_par : ∀ (l m : List Nat) (n : Nat), l.length = m.length → l.length ≤ n → (∀ x ∈ l, x < 4) → (∀ x ∈ m, x < 4) → par ((code l / 2 &&& code m) &&& figs n) = cross l m
  | [], [], n, _, _, _, _ => by simp [code, cross, par_zero]
  | x :: l, y :: m, n + 1, h, hn, hl, hm => by
    have ih := cross_par l m n (by simpa using h) (by simpa using hn) (fun z hz => hl z (List.mem_cons_of_mem _ hz)) (fun z hz => hm z (List.mem_cons_of_mem _ hz))
    have hx := hl x List.mem_cons_self
    have hy := hm y List.mem_cons_self
    show par ((((x + 4 * code l) / 2) &&& (y + 4 * code m)) &&& (1 + 4 * figs n)) = xor (decide (2 ≤ x) && decide (y % 2 = 1)) (cross l m)
    have a2 : (x + 4 * code l) / 2 / 4 = code l / 2 := by omega
    have b2 : (y + 4 * code m) / 4 = code m := by omega
    have c2 : (1 + 4 * figs n) / 4 = figs n := by omega
    have q : ((((x + 4 * code l) / 2) &&& (y + 4 * code m)) &&& (1 + 4 * figs n)) / 4 = (code l / 2 &&& code m) &&& figs n := by rw [d4_and, d4_and, a2, b2, c2]
    have r0 : ((((x + 4 * code l) / 2) &&& (y + 4 * code m)) &&& (1 + 4 * figs n)) / 2 % 2 = 0 := by
      rw [Nat.and_div_two, and_m2, show (1 + 4 * figs n) / 2 % 2 = 0 by omega]
      exact Nat.and_zero _
    have r1 : ((((x + 4 * code l) / 2) &&& (y + 4 * code m)) &&& (1 + 4 * figs n)) % 2 = (x / 2) &&& (y % 2) := by
      rw [and_m2, and_m2, show (1 + 4 * figs n) % 2 = 1 by omega, show (x + 4 * code l) / 2 % 2 = x / 2 by omega, show (y + 4 * code m) % 2 = y % 2 by omega]
      have h1 : x / 2 = 0 ∨ x / 2 = 1 := by omega
      have h2 : y % 2 = 0 ∨ y % 2 = 1 := by omega
      rcases h1 with h1 | h1 <;> rcases h2 with h2 | h2 <;> rw [h1, h2] <;> decide
    rw [par4, q, r0, r1, ih]
    have h1 : (x / 2 = 0 ∧ ¬ 2 ≤ x) ∨ (x / 2 = 1 ∧ 2 ≤ x) := by omega
    have h2 : y % 2 = 0 ∨ y % 2 = 1 := by omega
    rcases h1 with ⟨h1, h3⟩ | ⟨h1, h3⟩ <;> rcases h2 with h2 | h2 <;> simp [h1, h2, h3]
  | _ :: _, _ :: _, 0, _, h, _, _ => by simp at h
theorem figs12 : figs 12 = 5592405 := rfl
def chr4 (x : Nat) : Nat := match x with
  | 0 => 49
  | 1 => 97
  | 2 => 98
  | _ => 99
def strOf (l : List Nat) : Str := ⟨(l.map chr4).toArray⟩
def wdD (s : Int) (l : List Nat) : Dt := .tup [.int s, .str (strOf l)]
abbrev wd (s : Int) (l : List Nat) : Wv := .dat (wdD s l)
def Fig (l : List Nat) : Prop := ∀ x ∈ l, x < 4
theorem strOf_len (l : List Nat) : (strOf l).length = l.length := by simp [strOf, Str.length]
theorem strOf_app (l m : List Nat) : strOf l ++ strOf m = strOf (l ++ m) := by
  show Str.mk _ = _
  simp [strOf]
theorem ix1 {c : Nat} (h : c < 4) : Txt.index0 "1abc" ⟨#[chr4 c]⟩ = some c := by
  match c, h with
  | 0, _ => decide +kernel
  | 1, _ => decide +kernel
  | 2, _ => decide +kernel
  | 3, _ => decide +kernel
theorem intsOf_map : ∀ ns : List Int, intsOf (ns.map .int) = some ns
  | [] => rfl
  | n :: ns => by simp [intsOf, intsOf_map ns]
theorem sum_code : ∀ (l : List Nat) (k : Nat), (l.mapIdx fun i (x : Nat) => (x : Int) * 2 ^ (2 * (i + k))).sum = 2 ^ (2 * k) * (code l : Int)
  | [], k => by simp [code]
  | x :: l, k => by
    rw [List.mapIdx_cons, List.sum_cons]
    have ih := sum_code l (k + 1)
    have e : (List.mapIdx (fun i (x : Nat) => (x : Int) * 2 ^ (2 * (i + 1 + k))) l).sum = 2 ^ (2 * (k + 1)) * (code l : Int) := by
      rw [← ih]
      congr 1
      congr 1
      funext i x
      rw [show i + 1 + k = i + (k + 1) by omega]
    rw [e]
    show (x : Int) * 2 ^ (2 * (0 + k)) + _ = 2 ^ (2 * k) * ((x + 4 * code l : Nat) : Int)
    rw [show 2 * (k + 1) = 2 * k + 2 by omega, Int.pow_add, Nat.zero_add]
    push_cast
    rw [Int.mul_add, Int.mul_comm (x : Int), ← Int.mul_assoc]
theorem join_eq' (y : Str) (parts : List Str) : Txt.join y parts = Str.join y parts := TL.join_eq y parts
theorem join0 : ∀ l : List Nat, Str.join ⟨#[]⟩ (l.map fun c => (⟨#[c]⟩ : Str)) = ⟨l.toArray⟩
  | [] => rfl
  | [c] => rfl
  | c :: d :: l => by
    have ih := join0 (d :: l)
    show (⟨#[c]⟩ : Str) ++ ⟨#[]⟩ ++ Str.join ⟨#[]⟩ ((d :: l).map fun c => (⟨#[c]⟩ : Str)) = _
    rw [ih]
    show Str.mk ((#[c] ++ #[]) ++ (d :: l).toArray) = _
    simp
theorem strsOf_map (l : List Nat) : strsOf (l.map fun c => Dt.str ⟨#[c]⟩) = some (l.map fun c => (⟨#[c]⟩ : Str)) := by
  induction l with
  | nil => rfl
  | cons c l ih => simp [strsOf, ih]
theorem letter {x : Nat} (h : x < 4) : dIx (.str "1abc") (.int x) = some (.str ⟨#[chr4 x]⟩) := by
  match x, h with
  | 0, _ => rfl
  | 1, _ => rfl
  | 2, _ => rfl
  | 3, _ => rfl

theorem sum_zip : ∀ (l : List Nat) (k : Nat), ((l.zipIdx k).map fun q : Nat × Nat => (q.1 : Int) * 2 ^ (2 * q.2)).sum = 2 ^ (2 * k) * (code l : Int)
  | [], k => by simp [code]
  | x :: l, k => by
    have ih := sum_zip l (k + 1)
    rw [List.zipIdx_cons, List.map_cons, List.sum_cons, ih]
    show (x : Int) * 2 ^ (2 * k) + 2 ^ (2 * (k + 1)) * (code l : Int) = 2 ^ (2 * k) * ((x + 4 * code l : Nat) : Int)
    rw [show 2 * (k + 1) = 2 * k + 2 by omega, Int.pow_add]
    push_cast
    rw [Int.mul_add, Int.mul_comm (x : Int), Int.mul_assoc]
theorem signD_strOf (l : List Nat) : signD (strOf l) = l.map fun x => .str ⟨#[chr4 x]⟩ := by simp [signD, strOf]
theorem signs_strOf (l : List Nat) : signs (strOf l) = l.map fun x => .dat (.str ⟨#[chr4 x]⟩) := by simp [signs, strOf]
theorem dix_w0 {s : Int} {l : List Nat} : dIx (wdD s l) (.int 0) = some (.int s) := (rfl)
theorem dix_w1 {s : Int} {l : List Nat} : dIx (wdD s l) (.int 1) = some (.str (strOf l)) := (rfl)
theorem kidx {x : Nat} (h : x < 4) : kIndex "1abc" ⟨#[chr4 x]⟩ = some (.int x) := by
  unfold kIndex
  rw [ix1 h]
  rfl
theorem r_code_of {s : Int} {l : List Nat} {cs : List Cell} (hl : l.length ≤ 12) (hf : Fig l) : m_code_of [wd s l] cs = .ok (.dat (.int (code l))) cs := by
  have e1 : loopC (tTupG 2 (tgCons (tName 1) (tgCons (tName 2) tgNil))) tYesE ce_code_of_0 [some (wd s l), none, none] (l.zipIdx.map fun q => .dat (.tup [.int (q.2 : Nat), .str ⟨#[chr4 q.1]⟩])) cs = .ok ((l.zipIdx.map fun q => Dt.int ((q.1 : Int) * 2 ^ (2 * q.2))).map Wv.dat) cs := by
    refine lc_map (fun q : Nat × Nat => .dat (.tup [.int (q.2 : Nat), .str ⟨#[chr4 q.1]⟩])) _ _ fun q hq => ⟨_, rfl, ?_⟩
    have hx : q.1 < 4 := hf _ (List.fst_mem_of_mem_zipIdx hq)
    have hi := List.snd_lt_of_mem_zipIdx hq
    have ki := kidx hx
    have : (2 * (q.2 : Int)).toNat = 2 * q.2 := by omega
    simp (disch := (first | assumption | omega | (simp only [List.length_cons, List.length_nil, List.length_map, List.length_append, List.length_replicate] <;> omega))) only [rb_ok, rb_exc, rb_bad, rb_ite, m_ret, m_badE, m_opt, m_optn, m_ite, rO_some, rO_none, rW_some, rW_none, rO_map, rW_map, s_var0, s_varS, s_c, s_bin, k_bin, s_lift, s_un, s_liftU, s_eqc, k_eqc, k_eqc2, eq_ii, ne_ii, eq_ss, ne_ss, eq_bb, ne_bb, s_cmpE, s_asB, s_tru, k_tru, rT_some, tru_d, tru_c, dtru_bl, dtru_non, dtru_int, dtru_lst, dtru_tup, s_and, s_or, s_not, k_and, k_or, k_not, s_yes, m_and, m_or, s_eand, k_eand, k_eand2, s_eor, k_eor, k_eor2, s_enot, k_enot, k_enot2, s_if, k_if, m_iteD, m_iteI, m_iteB, m_iteAnd, m_iteOr, m_iteS, s_chain, k_ch, k_ch2, k_ch3, k_ch4, s_anil, s_acons, k_arg, k_arg2, s_tup, s_lst, k_tup, k_lst, rL_some, dats_nil, dats_cons, opt_map_some, opt_map_none, opt_or_some, opt_or_none, opt_bind_some, s_ix, k_ix, k_ix2, wix_dd, wix_cd, ix_t, ix_l, ix_s, cix_l, cix_d, ix_d, at_0, at_1, at_2, s_sl, k_sl, k_sl2, k_sl3, s_onone, s_osome, k_asI, sl_d, sl_c, sl_l, sl_t, cut_hi, cut_lo, cut_lh, s_fn, k_fn0, k_fn1, k_fn2, k_fn3, k_fn4, k_fn5, k_fn6, s_fnp, k_fnp1, k_fnp2, k_fnp2r, k_fnp3, s_call, k_call, s_o1, s_o2, len_d, len_c, len_l, len_t, len_scr, len_s, clen_l, int_i, int_b, min_i, max_i, sq_dl, sq_cl, csq_l, lof_t, lof_l, tof_t, tof_l, s_meth, k_meth, k_meth_str, ok_str, mt_str1, mt_join, d_I0, d_mod, d_div, d_pow, d_shr, d_neg, d_mulL, d_mulR, d_mulS, d_addI, d_addS, d_addL, d_addT, s_seq, k_seq_nx, k_seq_rt, k_seq_bk, k_seq_ct, s_nil, s_ret, k_ret, s_retn, s_brk, s_cnt, s_expr, k_expr, s_sif, k_sif, s_set, k_set, s_asg, k_asg, rE_some, t_name, t_tup, t_cons, t_nil, s_par, k_par, s_par3, k_par3, s_raise, s_put, k_put, k_put2, k_put3, k_put4, put_is, s_for, k_for, s_while, s_iseq, as_l, as_t, as_s, as_scr, s_rg1, s_rg2, k_rg1, k_rg2, s_enum, k_enum_l, k_enum_s, s_zip, k_zip_l, k_zip_t, k_zip_s, s_off, k_of, rD_some, dats_mapd, s_flc, k_lc, wipe_nil, wipe_cons, s_celf, k_celf, s_flst, k_flst, k_fin_rt, k_fin_nx, start_nil, start_cons, repl_0, repl_S, s_caught, s_frz, k_frzd, s_fld, k_fld, s_rgl1, k_rgl1, s_rgl2, k_rgl, k_rgl2, s_flc2, k_lc2, s_new, k_new2, dk_cat, dk_cat2, dk_cat3, dk_nil, dk_cons, dk_val, dk_val2, dk_dicC, dk_dicC2, dk_dic, dk_dic2, dk_rK, dk_dat, dk_datn, eq_nn, ne_nn, lo_l, lo_t, lo_s, dk_frz, dk_rF, dk_cfrz, dk_methc, dk_rLst, dk_app, dk_rApp, dk_ext, dk_rExt, dk_snoc, dk_last, dk_setl, dk_putF, dk_putF2, dk_putF3, dk_putF4, dk_rPF, dk_new, dk_newT, dk_cfrzI, List.set_cons_zero, List.set_cons_succ, List.getElem?_cons_zero, List.getElem?_cons_succ, List.length_cons, List.length_nil, ↓reduceIte, Nat.reduceAdd, decide_eq_true_eq, Bool.not_true, Bool.not_false, Bool.true_and, Bool.false_and, Bool.and_true, Bool.and_false, Bool.or_true, Bool.or_false, Bool.true_or, Bool.false_or, reduceCtorEq, decide_true, decide_false, Bool.false_eq_true, Int.reduceLT, Int.reduceLE, Int.reduceNeg, Int.reduceAdd, Int.reduceSub, Int.reduceMul, Nat.reduceMul, Nat.reduceLeDiff, Nat.zero_add, Bool.not_not, beq_self_eq_true, bne_self_eq_false, not_true_eq_false, not_false_eq_true, Bool.not_eq_true, Option.some.injEq, List.map_cons, List.map_nil, List.isEmpty_cons, List.isEmpty_nil, and_self, and_true, true_and, Int.toNat_natCast, Int.natCast_nonneg, Int.reduceToNat, Int.reduceEq, Int.reduceNe, Nat.reduceLT, Int.reduceBEq, Int.reduceBNe, Bool.not_eq_eq_eq_not, eq_self, if_true, if_false, ite_self, ce_code_of_0, ki, this]
  have rl : l.zipIdx.length = l.length := List.length_zipIdx
  refine fn_ev ?_
  simp (disch := (first | assumption | omega | (simp only [List.length_cons, List.length_nil, List.length_map, List.length_append, List.length_replicate] <;> omega))) only [rb_ok, rb_exc, rb_bad, rb_ite, m_ret, m_badE, m_opt, m_optn, m_ite, rO_some, rO_none, rW_some, rW_none, rO_map, rW_map, s_var0, s_varS, s_c, s_bin, k_bin, s_lift, s_un, s_liftU, s_eqc, k_eqc, k_eqc2, eq_ii, ne_ii, eq_ss, ne_ss, eq_bb, ne_bb, s_cmpE, s_asB, s_tru, k_tru, rT_some, tru_d, tru_c, dtru_bl, dtru_non, dtru_int, dtru_lst, dtru_tup, s_and, s_or, s_not, k_and, k_or, k_not, s_yes, m_and, m_or, s_eand, k_eand, k_eand2, s_eor, k_eor, k_eor2, s_enot, k_enot, k_enot2, s_if, k_if, m_iteD, m_iteI, m_iteB, m_iteAnd, m_iteOr, m_iteS, s_chain, k_ch, k_ch2, k_ch3, k_ch4, s_anil, s_acons, k_arg, k_arg2, s_tup, s_lst, k_tup, k_lst, rL_some, dats_nil, dats_cons, opt_map_some, opt_map_none, opt_or_some, opt_or_none, opt_bind_some, s_ix, k_ix, k_ix2, wix_dd, wix_cd, ix_t, ix_l, ix_s, cix_l, cix_d, ix_d, at_0, at_1, at_2, s_sl, k_sl, k_sl2, k_sl3, s_onone, s_osome, k_asI, sl_d, sl_c, sl_l, sl_t, cut_hi, cut_lo, cut_lh, s_fn, k_fn0, k_fn1, k_fn2, k_fn3, k_fn4, k_fn5, k_fn6, s_fnp, k_fnp1, k_fnp2, k_fnp2r, k_fnp3, s_call, k_call, s_o1, s_o2, len_d, len_c, len_l, len_t, len_scr, len_s, clen_l, int_i, int_b, min_i, max_i, sq_dl, sq_cl, csq_l, lof_t, lof_l, tof_t, tof_l, s_meth, k_meth, k_meth_str, ok_str, mt_str1, mt_join, d_I0, d_mod, d_div, d_pow, d_shr, d_neg, d_mulL, d_mulR, d_mulS, d_addI, d_addS, d_addL, d_addT, s_seq, k_seq_nx, k_seq_rt, k_seq_bk, k_seq_ct, s_nil, s_ret, k_ret, s_retn, s_brk, s_cnt, s_expr, k_expr, s_sif, k_sif, s_set, k_set, s_asg, k_asg, rE_some, t_name, t_tup, t_cons, t_nil, s_par, k_par, s_par3, k_par3, s_raise, s_put, k_put, k_put2, k_put3, k_put4, put_is, s_for, k_for, s_while, s_iseq, as_l, as_t, as_s, as_scr, s_rg1, s_rg2, k_rg1, k_rg2, s_enum, k_enum_l, k_enum_s, s_zip, k_zip_l, k_zip_t, k_zip_s, s_off, k_of, rD_some, dats_mapd, s_flc, k_lc, wipe_nil, wipe_cons, s_celf, k_celf, s_flst, k_flst, k_fin_rt, k_fin_nx, start_nil, start_cons, repl_0, repl_S, s_caught, s_frz, k_frzd, s_fld, k_fld, s_rgl1, k_rgl1, s_rgl2, k_rgl, k_rgl2, s_flc2, k_lc2, s_new, k_new2, dk_cat, dk_cat2, dk_cat3, dk_nil, dk_cons, dk_val, dk_val2, dk_dicC, dk_dicC2, dk_dic, dk_dic2, dk_rK, dk_dat, dk_datn, eq_nn, ne_nn, lo_l, lo_t, lo_s, dk_frz, dk_rF, dk_cfrz, dk_methc, dk_rLst, dk_app, dk_rApp, dk_ext, dk_rExt, dk_snoc, dk_last, dk_setl, dk_putF, dk_putF2, dk_putF3, dk_putF4, dk_rPF, dk_new, dk_newT, dk_cfrzI, List.set_cons_zero, List.set_cons_succ, List.getElem?_cons_zero, List.getElem?_cons_succ, List.length_cons, List.length_nil, ↓reduceIte, Nat.reduceAdd, decide_eq_true_eq, Bool.not_true, Bool.not_false, Bool.true_and, Bool.false_and, Bool.and_true, Bool.and_false, Bool.or_true, Bool.or_false, Bool.true_or, Bool.false_or, reduceCtorEq, decide_true, decide_false, Bool.false_eq_true, Int.reduceLT, Int.reduceLE, Int.reduceNeg, Int.reduceAdd, Int.reduceSub, Int.reduceMul, Nat.reduceMul, Nat.reduceLeDiff, Nat.zero_add, Bool.not_not, beq_self_eq_true, bne_self_eq_false, not_true_eq_false, not_false_eq_true, Bool.not_eq_true, Option.some.injEq, List.map_cons, List.map_nil, List.isEmpty_cons, List.isEmpty_nil, and_self, and_true, true_and, Int.toNat_natCast, Int.natCast_nonneg, Int.reduceToNat, Int.reduceEq, Int.reduceNe, Nat.reduceLT, Int.reduceBEq, Int.reduceBNe, Bool.not_eq_eq_eq_not, eq_self, if_true, if_false, ite_self, b_code_of, start_cons, start_nil, repl_S, repl_0, dix_w1, signD_strOf, enum_map, wipe_nil, wipe_cons, e1, dats_mapd]
  have e2 := sum_zip l 0
  have e3 : (l.zipIdx.map fun q => Dt.int ((q.1 : Int) * 2 ^ (2 * q.2))) = (l.zipIdx.map fun q : Nat × Nat => (q.1 : Int) * 2 ^ (2 * q.2)).map Dt.int := by rw [List.map_map]; rfl
  have e4 : dSum (.lst (l.zipIdx.map fun q => Dt.int ((q.1 : Int) * 2 ^ (2 * q.2)))) = some (.int (code l)) := by
    show (intsOf _).map _ = _
    rw [e3, intsOf_map]
    show some (Dt.int (List.sum _)) = _
    rw [e2]
    simp
  simp (disch := (first | assumption | omega | (simp only [List.length_cons, List.length_nil, List.length_map, List.length_append, List.length_replicate] <;> omega))) only [rb_ok, rb_exc, rb_bad, rb_ite, m_ret, m_badE, m_opt, m_optn, m_ite, rO_some, rO_none, rW_some, rW_none, rO_map, rW_map, s_var0, s_varS, s_c, s_bin, k_bin, s_lift, s_un, s_liftU, s_eqc, k_eqc, k_eqc2, eq_ii, ne_ii, eq_ss, ne_ss, eq_bb, ne_bb, s_cmpE, s_asB, s_tru, k_tru, rT_some, tru_d, tru_c, dtru_bl, dtru_non, dtru_int, dtru_lst, dtru_tup, s_and, s_or, s_not, k_and, k_or, k_not, s_yes, m_and, m_or, s_eand, k_eand, k_eand2, s_eor, k_eor, k_eor2, s_enot, k_enot, k_enot2, s_if, k_if, m_iteD, m_iteI, m_iteB, m_iteAnd, m_iteOr, m_iteS, s_chain, k_ch, k_ch2, k_ch3, k_ch4, s_anil, s_acons, k_arg, k_arg2, s_tup, s_lst, k_tup, k_lst, rL_some, dats_nil, dats_cons, opt_map_some, opt_map_none, opt_or_some, opt_or_none, opt_bind_some, s_ix, k_ix, k_ix2, wix_dd, wix_cd, ix_t, ix_l, ix_s, cix_l, cix_d, ix_d, at_0, at_1, at_2, s_sl, k_sl, k_sl2, k_sl3, s_onone, s_osome, k_asI, sl_d, sl_c, sl_l, sl_t, cut_hi, cut_lo, cut_lh, s_fn, k_fn0, k_fn1, k_fn2, k_fn3, k_fn4, k_fn5, k_fn6, s_fnp, k_fnp1, k_fnp2, k_fnp2r, k_fnp3, s_call, k_call, s_o1, s_o2, len_d, len_c, len_l, len_t, len_scr, len_s, clen_l, int_i, int_b, min_i, max_i, sq_dl, sq_cl, csq_l, lof_t, lof_l, tof_t, tof_l, s_meth, k_meth, k_meth_str, ok_str, mt_str1, mt_join, d_I0, d_mod, d_div, d_pow, d_shr, d_neg, d_mulL, d_mulR, d_mulS, d_addI, d_addS, d_addL, d_addT, s_seq, k_seq_nx, k_seq_rt, k_seq_bk, k_seq_ct, s_nil, s_ret, k_ret, s_retn, s_brk, s_cnt, s_expr, k_expr, s_sif, k_sif, s_set, k_set, s_asg, k_asg, rE_some, t_name, t_tup, t_cons, t_nil, s_par, k_par, s_par3, k_par3, s_raise, s_put, k_put, k_put2, k_put3, k_put4, put_is, s_for, k_for, s_while, s_iseq, as_l, as_t, as_s, as_scr, s_rg1, s_rg2, k_rg1, k_rg2, s_enum, k_enum_l, k_enum_s, s_zip, k_zip_l, k_zip_t, k_zip_s, s_off, k_of, rD_some, dats_mapd, s_flc, k_lc, wipe_nil, wipe_cons, s_celf, k_celf, s_flst, k_flst, k_fin_rt, k_fin_nx, start_nil, start_cons, repl_0, repl_S, s_caught, s_frz, k_frzd, s_fld, k_fld, s_rgl1, k_rgl1, s_rgl2, k_rgl, k_rgl2, s_flc2, k_lc2, s_new, k_new2, dk_cat, dk_cat2, dk_cat3, dk_nil, dk_cons, dk_val, dk_val2, dk_dicC, dk_dicC2, dk_dic, dk_dic2, dk_rK, dk_dat, dk_datn, eq_nn, ne_nn, lo_l, lo_t, lo_s, dk_frz, dk_rF, dk_cfrz, dk_methc, dk_rLst, dk_app, dk_rApp, dk_ext, dk_rExt, dk_snoc, dk_last, dk_setl, dk_putF, dk_putF2, dk_putF3, dk_putF4, dk_rPF, dk_new, dk_newT, dk_cfrzI, List.set_cons_zero, List.set_cons_succ, List.getElem?_cons_zero, List.getElem?_cons_succ, List.length_cons, List.length_nil, ↓reduceIte, Nat.reduceAdd, decide_eq_true_eq, Bool.not_true, Bool.not_false, Bool.true_and, Bool.false_and, Bool.and_true, Bool.and_false, Bool.or_true, Bool.or_false, Bool.true_or, Bool.false_or, reduceCtorEq, decide_true, decide_false, Bool.false_eq_true, Int.reduceLT, Int.reduceLE, Int.reduceNeg, Int.reduceAdd, Int.reduceSub, Int.reduceMul, Nat.reduceMul, Nat.reduceLeDiff, Nat.zero_add, Bool.not_not, beq_self_eq_true, bne_self_eq_false, not_true_eq_false, not_false_eq_true, Bool.not_eq_true, Option.some.injEq, List.map_cons, List.map_nil, List.isEmpty_cons, List.isEmpty_nil, and_self, and_true, true_and, Int.toNat_natCast, Int.natCast_nonneg, Int.reduceToNat, Int.reduceEq, Int.reduceNe, Nat.reduceLT, Int.reduceBEq, Int.reduceBNe, Bool.not_eq_eq_eq_not, eq_self, if_true, if_false, ite_self, e4]
theorem joinS (l : List Nat) (h : l.length ≤ 12) : kJoin "" (l.map fun x => .str ⟨#[chr4 x]⟩) = some (.str (strOf l)) := by
  have e0 : (l.map fun x => Dt.str ⟨#[chr4 x]⟩) = (l.map chr4).map fun c => Dt.str ⟨#[c]⟩ := by rw [List.map_map]; rfl
  unfold kJoin
  rw [e0, strsOf_map]
  dsimp only [Option.bind]
  rw [if_pos ?_, join_eq', show (("" : Str)) = ⟨#[]⟩ from rfl, join0]
  · rfl
  · have e : (List.map (fun x => x.length) (List.map (fun c => (⟨#[c]⟩ : Str)) (List.map chr4 l))).sum = l.length := by
      clear e0 h
      induction l with
      | nil => rfl
      | cons x l ih => simp only [List.map_cons, List.sum_cons, ih, List.length_cons]; show 1 + _ = _; omega
    rw [decide_eq_true_eq, e]
    simp only [List.length_map]
    show l.length + l.length * 0 ≤ _
    omega
theorem r_letters_of {l : List Nat} {cs : List Cell} (hl : l.length ≤ 12) (hf : Fig l) : m_letters_of [.dat (.int (code l)), .dat (.int l.length)] cs = .ok (.dat (.str (strOf l))) cs := by
  have e1 : loopC (tName 2) tYesE ce_letters_of_0 [some (.dat (.int (code l))), some (.dat (.int l.length)), none] (rangeW 0 l.length) cs = .ok ((l.map fun x => .str ⟨#[chr4 x]⟩).map Wv.dat) cs := by
    have q := lc_map (t := tName 2) (f := ce_letters_of_0) (env := [some (.dat (.int (code l))), some (.dat (.int l.length)), none]) (cs := cs) (fun i : Nat => .dat (.int (0 + i))) (fun i => .str ⟨#[chr4 (l.getD i 0)]⟩) (List.range l.length) fun i hi => ⟨_, rfl, by
      have hi := List.mem_range.mp hi
      have hx : l.getD i 0 < 4 := by rw [List.getD_eq_getElem?_getD, List.getElem?_eq_getElem hi]; exact hf _ (List.getElem_mem hi)
      have t2 : (2 * (0 + (i : Int))).toNat = 2 * i := by omega
      have a1 : Builtin.bitAnd ((code l : Int) / 2 ^ (2 * i)) 3 = (l.getD i 0 : Nat) := by
        rw [PyProof.Rows.bitAnd_m2]
        have q := code_digit l i hf
        have q3 : ((code l : Int) / 2 ^ (2 * i)) = ((code l / 2 ^ (2 * i) : Nat) : Int) := by push_cast; rfl
        rw [q3]
        omega
      have le := letter hx
      simp (disch := (first | assumption | omega | (simp only [List.length_cons, List.length_nil, List.length_map, List.length_append, List.length_replicate] <;> omega))) only [rb_ok, rb_exc, rb_bad, rb_ite, m_ret, m_badE, m_opt, m_optn, m_ite, rO_some, rO_none, rW_some, rW_none, rO_map, rW_map, s_var0, s_varS, s_c, s_bin, k_bin, s_lift, s_un, s_liftU, s_eqc, k_eqc, k_eqc2, eq_ii, ne_ii, eq_ss, ne_ss, eq_bb, ne_bb, s_cmpE, s_asB, s_tru, k_tru, rT_some, tru_d, tru_c, dtru_bl, dtru_non, dtru_int, dtru_lst, dtru_tup, s_and, s_or, s_not, k_and, k_or, k_not, s_yes, m_and, m_or, s_eand, k_eand, k_eand2, s_eor, k_eor, k_eor2, s_enot, k_enot, k_enot2, s_if, k_if, m_iteD, m_iteI, m_iteB, m_iteAnd, m_iteOr, m_iteS, s_chain, k_ch, k_ch2, k_ch3, k_ch4, s_anil, s_acons, k_arg, k_arg2, s_tup, s_lst, k_tup, k_lst, rL_some, dats_nil, dats_cons, opt_map_some, opt_map_none, opt_or_some, opt_or_none, opt_bind_some, s_ix, k_ix, k_ix2, wix_dd, wix_cd, ix_t, ix_l, cix_l, cix_d, ix_d, at_0, at_1, at_2, s_sl, k_sl, k_sl2, k_sl3, s_onone, s_osome, k_asI, sl_d, sl_c, sl_l, sl_t, cut_hi, cut_lo, cut_lh, s_fn, k_fn0, k_fn1, k_fn2, k_fn3, k_fn4, k_fn5, k_fn6, s_fnp, k_fnp1, k_fnp2, k_fnp2r, k_fnp3, s_call, k_call, s_o1, s_o2, len_d, len_c, len_l, len_t, len_scr, len_s, clen_l, int_i, int_b, min_i, max_i, sq_dl, sq_cl, csq_l, lof_t, lof_l, tof_t, tof_l, s_meth, k_meth, k_meth_str, ok_str, mt_str1, mt_join, d_I0, d_mod, d_div, d_pow, d_shr, d_neg, d_mulL, d_mulR, d_mulS, d_addI, d_addS, d_addL, d_addT, s_seq, k_seq_nx, k_seq_rt, k_seq_bk, k_seq_ct, s_nil, s_ret, k_ret, s_retn, s_brk, s_cnt, s_expr, k_expr, s_sif, k_sif, s_set, k_set, s_asg, k_asg, rE_some, t_name, t_tup, t_cons, t_nil, s_par, k_par, s_par3, k_par3, s_raise, s_put, k_put, k_put2, k_put3, k_put4, put_is, s_for, k_for, s_while, s_iseq, as_l, as_t, as_s, as_scr, s_rg1, s_rg2, k_rg1, k_rg2, s_enum, k_enum_l, k_enum_s, s_zip, k_zip_l, k_zip_t, k_zip_s, s_off, k_of, rD_some, dats_mapd, s_flc, k_lc, wipe_nil, wipe_cons, s_celf, k_celf, s_flst, k_flst, k_fin_rt, k_fin_nx, start_nil, start_cons, repl_0, repl_S, s_caught, s_frz, k_frzd, s_fld, k_fld, s_rgl1, k_rgl1, s_rgl2, k_rgl, k_rgl2, s_flc2, k_lc2, s_new, k_new2, dk_cat, dk_cat2, dk_cat3, dk_nil, dk_cons, dk_val, dk_val2, dk_dicC, dk_dicC2, dk_dic, dk_dic2, dk_rK, dk_dat, dk_datn, eq_nn, ne_nn, lo_l, lo_t, lo_s, dk_frz, dk_rF, dk_cfrz, dk_methc, dk_rLst, dk_app, dk_rApp, dk_ext, dk_rExt, dk_snoc, dk_last, dk_setl, dk_putF, dk_putF2, dk_putF3, dk_putF4, dk_rPF, dk_new, dk_newT, dk_cfrzI, List.set_cons_zero, List.set_cons_succ, List.getElem?_cons_zero, List.getElem?_cons_succ, List.length_cons, List.length_nil, ↓reduceIte, Nat.reduceAdd, decide_eq_true_eq, Bool.not_true, Bool.not_false, Bool.true_and, Bool.false_and, Bool.and_true, Bool.and_false, Bool.or_true, Bool.or_false, Bool.true_or, Bool.false_or, reduceCtorEq, decide_true, decide_false, Bool.false_eq_true, Int.reduceLT, Int.reduceLE, Int.reduceNeg, Int.reduceAdd, Int.reduceSub, Int.reduceMul, Nat.reduceMul, Nat.reduceLeDiff, Nat.zero_add, Bool.not_not, beq_self_eq_true, bne_self_eq_false, not_true_eq_false, not_false_eq_true, Bool.not_eq_true, Option.some.injEq, List.map_cons, List.map_nil, List.isEmpty_cons, List.isEmpty_nil, and_self, and_true, true_and, Int.toNat_natCast, Int.natCast_nonneg, Int.reduceToNat, Int.reduceEq, Int.reduceNe, Nat.reduceLT, Int.reduceBEq, Int.reduceBNe, Bool.not_eq_eq_eq_not, eq_self, if_true, if_false, ite_self, ce_letters_of_0, t2, a1, le]⟩
    have e2 : (List.range l.length).map (fun i => Dt.str ⟨#[chr4 (l.getD i 0)]⟩) = l.map fun x => .str ⟨#[chr4 x]⟩ := by
      refine List.ext_getElem (by simp) fun i h1 h2 => ?_
      have hi : i < l.length := by simpa using h1
      simp [List.getElem?_eq_getElem hi]
    rw [e2] at q
    exact q
  have e3 := joinS l hl
  have rl : (rangeW 0 l.length).length = l.length := by simp [rangeW]
  refine fn_ev ?_
  simp (disch := (first | assumption | omega | (simp only [List.length_cons, List.length_nil, List.length_map, List.length_append, List.length_replicate] <;> omega))) only [rb_ok, rb_exc, rb_bad, rb_ite, m_ret, m_badE, m_opt, m_optn, m_ite, rO_some, rO_none, rW_some, rW_none, rO_map, rW_map, s_var0, s_varS, s_c, s_bin, k_bin, s_lift, s_un, s_liftU, s_eqc, k_eqc, k_eqc2, eq_ii, ne_ii, eq_ss, ne_ss, eq_bb, ne_bb, s_cmpE, s_asB, s_tru, k_tru, rT_some, tru_d, tru_c, dtru_bl, dtru_non, dtru_int, dtru_lst, dtru_tup, s_and, s_or, s_not, k_and, k_or, k_not, s_yes, m_and, m_or, s_eand, k_eand, k_eand2, s_eor, k_eor, k_eor2, s_enot, k_enot, k_enot2, s_if, k_if, m_iteD, m_iteI, m_iteB, m_iteAnd, m_iteOr, m_iteS, s_chain, k_ch, k_ch2, k_ch3, k_ch4, s_anil, s_acons, k_arg, k_arg2, s_tup, s_lst, k_tup, k_lst, rL_some, dats_nil, dats_cons, opt_map_some, opt_map_none, opt_or_some, opt_or_none, opt_bind_some, s_ix, k_ix, k_ix2, wix_dd, wix_cd, ix_t, ix_l, ix_s, cix_l, cix_d, ix_d, at_0, at_1, at_2, s_sl, k_sl, k_sl2, k_sl3, s_onone, s_osome, k_asI, sl_d, sl_c, sl_l, sl_t, cut_hi, cut_lo, cut_lh, s_fn, k_fn0, k_fn1, k_fn2, k_fn3, k_fn4, k_fn5, k_fn6, s_fnp, k_fnp1, k_fnp2, k_fnp2r, k_fnp3, s_call, k_call, s_o1, s_o2, len_d, len_c, len_l, len_t, len_scr, len_s, clen_l, int_i, int_b, min_i, max_i, sq_dl, sq_cl, csq_l, lof_t, lof_l, tof_t, tof_l, s_meth, k_meth, k_meth_str, ok_str, mt_str1, mt_join, d_I0, d_mod, d_div, d_pow, d_shr, d_neg, d_mulL, d_mulR, d_mulS, d_addI, d_addS, d_addL, d_addT, s_seq, k_seq_nx, k_seq_rt, k_seq_bk, k_seq_ct, s_nil, s_ret, k_ret, s_retn, s_brk, s_cnt, s_expr, k_expr, s_sif, k_sif, s_set, k_set, s_asg, k_asg, rE_some, t_name, t_tup, t_cons, t_nil, s_par, k_par, s_par3, k_par3, s_raise, s_put, k_put, k_put2, k_put3, k_put4, put_is, s_for, k_for, s_while, s_iseq, as_l, as_t, as_s, as_scr, s_rg1, s_rg2, k_rg1, k_rg2, s_enum, k_enum_l, k_enum_s, s_zip, k_zip_l, k_zip_t, k_zip_s, s_off, k_of, rD_some, dats_mapd, s_flc, k_lc, wipe_nil, wipe_cons, s_celf, k_celf, s_flst, k_flst, k_fin_rt, k_fin_nx, start_nil, start_cons, repl_0, repl_S, s_caught, s_frz, k_frzd, s_fld, k_fld, s_rgl1, k_rgl1, s_rgl2, k_rgl, k_rgl2, s_flc2, k_lc2, s_new, k_new2, dk_cat, dk_cat2, dk_cat3, dk_nil, dk_cons, dk_val, dk_val2, dk_dicC, dk_dicC2, dk_dic, dk_dic2, dk_rK, dk_dat, dk_datn, eq_nn, ne_nn, lo_l, lo_t, lo_s, dk_frz, dk_rF, dk_cfrz, dk_methc, dk_rLst, dk_app, dk_rApp, dk_ext, dk_rExt, dk_snoc, dk_last, dk_setl, dk_putF, dk_putF2, dk_putF3, dk_putF4, dk_rPF, dk_new, dk_newT, dk_cfrzI, List.set_cons_zero, List.set_cons_succ, List.getElem?_cons_zero, List.getElem?_cons_succ, List.length_cons, List.length_nil, ↓reduceIte, Nat.reduceAdd, decide_eq_true_eq, Bool.not_true, Bool.not_false, Bool.true_and, Bool.false_and, Bool.and_true, Bool.and_false, Bool.or_true, Bool.or_false, Bool.true_or, Bool.false_or, reduceCtorEq, decide_true, decide_false, Bool.false_eq_true, Int.reduceLT, Int.reduceLE, Int.reduceNeg, Int.reduceAdd, Int.reduceSub, Int.reduceMul, Nat.reduceMul, Nat.reduceLeDiff, Nat.zero_add, Bool.not_not, beq_self_eq_true, bne_self_eq_false, not_true_eq_false, not_false_eq_true, Bool.not_eq_true, Option.some.injEq, List.map_cons, List.map_nil, List.isEmpty_cons, List.isEmpty_nil, and_self, and_true, true_and, Int.toNat_natCast, Int.natCast_nonneg, Int.reduceToNat, Int.reduceEq, Int.reduceNe, Nat.reduceLT, Int.reduceBEq, Int.reduceBNe, Bool.not_eq_eq_eq_not, eq_self, if_true, if_false, ite_self, b_letters_of, start_cons, start_nil, repl_S, repl_0, wipe_nil, wipe_cons, rl, e1, dats_mapd, e3]
theorem odd_loop : ∀ (n z : Nat) (b : Bool) (cs : List Cell), z < n → loopW lt_is_odd_0 lw_is_odd_0 n [some (.dat (.int z)), some (.dat (.bl b))] cs = .ok (.nx [some (.dat (.int 0)), some (.dat (.bl (xor b (par z))))]) cs
  | n + 1, z, b, cs, h => by
    unfold loopW
    rw [mb]
    have t : lt_is_odd_0 [some (.dat (.int z)), some (.dat (.bl b))] cs = .ok (decide ((0 : Int) < z)) cs := by simp (disch := (first | assumption | omega | (simp only [List.length_cons, List.length_nil, List.length_map, List.length_append, List.length_replicate] <;> omega))) only [rb_ok, rb_exc, rb_bad, rb_ite, m_ret, m_badE, m_opt, m_optn, m_ite, rO_some, rO_none, rW_some, rW_none, rO_map, rW_map, s_var0, s_varS, s_c, s_bin, k_bin, s_lift, s_un, s_liftU, s_eqc, k_eqc, k_eqc2, eq_ii, ne_ii, eq_ss, ne_ss, eq_bb, ne_bb, s_cmpE, s_asB, s_tru, k_tru, rT_some, tru_d, tru_c, dtru_bl, dtru_non, dtru_int, dtru_lst, dtru_tup, s_and, s_or, s_not, k_and, k_or, k_not, s_yes, m_and, m_or, s_eand, k_eand, k_eand2, s_eor, k_eor, k_eor2, s_enot, k_enot, k_enot2, s_if, k_if, m_iteD, m_iteI, m_iteB, m_iteAnd, m_iteOr, m_iteS, s_chain, k_ch, k_ch2, k_ch3, k_ch4, s_anil, s_acons, k_arg, k_arg2, s_tup, s_lst, k_tup, k_lst, rL_some, dats_nil, dats_cons, opt_map_some, opt_map_none, opt_or_some, opt_or_none, opt_bind_some, s_ix, k_ix, k_ix2, wix_dd, wix_cd, ix_t, ix_l, ix_s, cix_l, cix_d, ix_d, at_0, at_1, at_2, s_sl, k_sl, k_sl2, k_sl3, s_onone, s_osome, k_asI, sl_d, sl_c, sl_l, sl_t, cut_hi, cut_lo, cut_lh, s_fn, k_fn0, k_fn1, k_fn2, k_fn3, k_fn4, k_fn5, k_fn6, s_fnp, k_fnp1, k_fnp2, k_fnp2r, k_fnp3, s_call, k_call, s_o1, s_o2, len_d, len_c, len_l, len_t, len_scr, len_s, clen_l, int_i, int_b, min_i, max_i, sq_dl, sq_cl, csq_l, lof_t, lof_l, tof_t, tof_l, s_meth, k_meth, k_meth_str, ok_str, mt_str1, mt_join, d_I0, d_mod, d_div, d_pow, d_shr, d_neg, d_mulL, d_mulR, d_mulS, d_addI, d_addS, d_addL, d_addT, s_seq, k_seq_nx, k_seq_rt, k_seq_bk, k_seq_ct, s_nil, s_ret, k_ret, s_retn, s_brk, s_cnt, s_expr, k_expr, s_sif, k_sif, s_set, k_set, s_asg, k_asg, rE_some, t_name, t_tup, t_cons, t_nil, s_par, k_par, s_par3, k_par3, s_raise, s_put, k_put, k_put2, k_put3, k_put4, put_is, s_for, k_for, s_while, s_iseq, as_l, as_t, as_s, as_scr, s_rg1, s_rg2, k_rg1, k_rg2, s_enum, k_enum_l, k_enum_s, s_zip, k_zip_l, k_zip_t, k_zip_s, s_off, k_of, rD_some, dats_mapd, s_flc, k_lc, wipe_nil, wipe_cons, s_celf, k_celf, s_flst, k_flst, k_fin_rt, k_fin_nx, start_nil, start_cons, repl_0, repl_S, s_caught, s_frz, k_frzd, s_fld, k_fld, s_rgl1, k_rgl1, s_rgl2, k_rgl, k_rgl2, s_flc2, k_lc2, s_new, k_new2, dk_cat, dk_cat2, dk_cat3, dk_nil, dk_cons, dk_val, dk_val2, dk_dicC, dk_dicC2, dk_dic, dk_dic2, dk_rK, dk_dat, dk_datn, eq_nn, ne_nn, lo_l, lo_t, lo_s, dk_frz, dk_rF, dk_cfrz, dk_methc, dk_rLst, dk_app, dk_rApp, dk_ext, dk_rExt, dk_snoc, dk_last, dk_setl, dk_putF, dk_putF2, dk_putF3, dk_putF4, dk_rPF, dk_new, dk_newT, dk_cfrzI, List.set_cons_zero, List.set_cons_succ, List.getElem?_cons_zero, List.getElem?_cons_succ, List.length_cons, List.length_nil, ↓reduceIte, Nat.reduceAdd, decide_eq_true_eq, Bool.not_true, Bool.not_false, Bool.true_and, Bool.false_and, Bool.and_true, Bool.and_false, Bool.or_true, Bool.or_false, Bool.true_or, Bool.false_or, reduceCtorEq, decide_true, decide_false, Bool.false_eq_true, Int.reduceLT, Int.reduceLE, Int.reduceNeg, Int.reduceAdd, Int.reduceSub, Int.reduceMul, Nat.reduceMul, Nat.reduceLeDiff, Nat.zero_add, Bool.not_not, beq_self_eq_true, bne_self_eq_false, not_true_eq_false, not_false_eq_true, Bool.not_eq_true, Option.some.injEq, List.map_cons, List.map_nil, List.isEmpty_cons, List.isEmpty_nil, and_self, and_true, true_and, Int.toNat_natCast, Int.natCast_nonneg, Int.reduceToNat, Int.reduceEq, Int.reduceNe, Nat.reduceLT, Int.reduceBEq, Int.reduceBNe, Bool.not_eq_eq_eq_not, eq_self, if_true, if_false, ite_self, lt_is_odd_0]
    by_cases hz : 0 < z
    · have hz' : (0 : Int) < z := by omega
      have e : Builtin.bitAnd (z : Int) ((z : Int) - 1) = ((z &&& (z - 1) : Nat) : Int) := by
        rw [show ((z : Int) - 1) = ((z - 1 : Nat) : Int) by omega, bitAnd_nat]
      have s1 : lw_is_odd_0 [some (.dat (.int z)), some (.dat (.bl b))] cs = .ok (.nx [some (.dat (.int ((z &&& (z - 1) : Nat) : Int))), some (.dat (.bl (!b)))]) cs := by simp (disch := (first | assumption | omega | (simp only [List.length_cons, List.length_nil, List.length_map, List.length_append, List.length_replicate] <;> omega))) only [rb_ok, rb_exc, rb_bad, rb_ite, m_ret, m_badE, m_opt, m_optn, m_ite, rO_some, rO_none, rW_some, rW_none, rO_map, rW_map, s_var0, s_varS, s_c, s_bin, k_bin, s_lift, s_un, s_liftU, s_eqc, k_eqc, k_eqc2, eq_ii, ne_ii, eq_ss, ne_ss, eq_bb, ne_bb, s_cmpE, s_asB, s_tru, k_tru, rT_some, tru_d, tru_c, dtru_bl, dtru_non, dtru_int, dtru_lst, dtru_tup, s_and, s_or, s_not, k_and, k_or, k_not, s_yes, m_and, m_or, s_eand, k_eand, k_eand2, s_eor, k_eor, k_eor2, s_enot, k_enot, k_enot2, s_if, k_if, m_iteD, m_iteI, m_iteB, m_iteAnd, m_iteOr, m_iteS, s_chain, k_ch, k_ch2, k_ch3, k_ch4, s_anil, s_acons, k_arg, k_arg2, s_tup, s_lst, k_tup, k_lst, rL_some, dats_nil, dats_cons, opt_map_some, opt_map_none, opt_or_some, opt_or_none, opt_bind_some, s_ix, k_ix, k_ix2, wix_dd, wix_cd, ix_t, ix_l, ix_s, cix_l, cix_d, ix_d, at_0, at_1, at_2, s_sl, k_sl, k_sl2, k_sl3, s_onone, s_osome, k_asI, sl_d, sl_c, sl_l, sl_t, cut_hi, cut_lo, cut_lh, s_fn, k_fn0, k_fn1, k_fn2, k_fn3, k_fn4, k_fn5, k_fn6, s_fnp, k_fnp1, k_fnp2, k_fnp2r, k_fnp3, s_call, k_call, s_o1, s_o2, len_d, len_c, len_l, len_t, len_scr, len_s, clen_l, int_i, int_b, min_i, max_i, sq_dl, sq_cl, csq_l, lof_t, lof_l, tof_t, tof_l, s_meth, k_meth, k_meth_str, ok_str, mt_str1, mt_join, d_I0, d_mod, d_div, d_pow, d_shr, d_neg, d_mulL, d_mulR, d_mulS, d_addI, d_addS, d_addL, d_addT, s_seq, k_seq_nx, k_seq_rt, k_seq_bk, k_seq_ct, s_nil, s_ret, k_ret, s_retn, s_brk, s_cnt, s_expr, k_expr, s_sif, k_sif, s_set, k_set, s_asg, k_asg, rE_some, t_name, t_tup, t_cons, t_nil, s_par, k_par, s_par3, k_par3, s_raise, s_put, k_put, k_put2, k_put3, k_put4, put_is, s_for, k_for, s_while, s_iseq, as_l, as_t, as_s, as_scr, s_rg1, s_rg2, k_rg1, k_rg2, s_enum, k_enum_l, k_enum_s, s_zip, k_zip_l, k_zip_t, k_zip_s, s_off, k_of, rD_some, dats_mapd, s_flc, k_lc, wipe_nil, wipe_cons, s_celf, k_celf, s_flst, k_flst, k_fin_rt, k_fin_nx, start_nil, start_cons, repl_0, repl_S, s_caught, s_frz, k_frzd, s_fld, k_fld, s_rgl1, k_rgl1, s_rgl2, k_rgl, k_rgl2, s_flc2, k_lc2, s_new, k_new2, dk_cat, dk_cat2, dk_cat3, dk_nil, dk_cons, dk_val, dk_val2, dk_dicC, dk_dicC2, dk_dic, dk_dic2, dk_rK, dk_dat, dk_datn, eq_nn, ne_nn, lo_l, lo_t, lo_s, dk_frz, dk_rF, dk_cfrz, dk_methc, dk_rLst, dk_app, dk_rApp, dk_ext, dk_rExt, dk_snoc, dk_last, dk_setl, dk_putF, dk_putF2, dk_putF3, dk_putF4, dk_rPF, dk_new, dk_newT, dk_cfrzI, List.set_cons_zero, List.set_cons_succ, List.getElem?_cons_zero, List.getElem?_cons_succ, List.length_cons, List.length_nil, ↓reduceIte, Nat.reduceAdd, decide_eq_true_eq, Bool.not_true, Bool.not_false, Bool.true_and, Bool.false_and, Bool.and_true, Bool.and_false, Bool.or_true, Bool.or_false, Bool.true_or, Bool.false_or, reduceCtorEq, decide_true, decide_false, Bool.false_eq_true, Int.reduceLT, Int.reduceLE, Int.reduceNeg, Int.reduceAdd, Int.reduceSub, Int.reduceMul, Nat.reduceMul, Nat.reduceLeDiff, Nat.zero_add, Bool.not_not, beq_self_eq_true, bne_self_eq_false, not_true_eq_false, not_false_eq_true, Bool.not_eq_true, Option.some.injEq, List.map_cons, List.map_nil, List.isEmpty_cons, List.isEmpty_nil, and_self, and_true, true_and, Int.toNat_natCast, Int.natCast_nonneg, Int.reduceToNat, Int.reduceEq, Int.reduceNe, Nat.reduceLT, Int.reduceBEq, Int.reduceBNe, Bool.not_eq_eq_eq_not, eq_self, if_true, if_false, ite_self, lw_is_odd_0, e]
      have ih := odd_loop n (z &&& (z - 1)) (!b) cs (by have := land_lt hz; omega)
      simp (disch := (first | assumption | omega | (simp only [List.length_cons, List.length_nil, List.length_map, List.length_append, List.length_replicate] <;> omega))) only [rb_ok, rb_exc, rb_bad, rb_ite, m_ret, m_badE, m_opt, m_optn, m_ite, rO_some, rO_none, rW_some, rW_none, rO_map, rW_map, s_var0, s_varS, s_c, s_bin, k_bin, s_lift, s_un, s_liftU, s_eqc, k_eqc, k_eqc2, eq_ii, ne_ii, eq_ss, ne_ss, eq_bb, ne_bb, s_cmpE, s_asB, s_tru, k_tru, rT_some, tru_d, tru_c, dtru_bl, dtru_non, dtru_int, dtru_lst, dtru_tup, s_and, s_or, s_not, k_and, k_or, k_not, s_yes, m_and, m_or, s_eand, k_eand, k_eand2, s_eor, k_eor, k_eor2, s_enot, k_enot, k_enot2, s_if, k_if, m_iteD, m_iteI, m_iteB, m_iteAnd, m_iteOr, m_iteS, s_chain, k_ch, k_ch2, k_ch3, k_ch4, s_anil, s_acons, k_arg, k_arg2, s_tup, s_lst, k_tup, k_lst, rL_some, dats_nil, dats_cons, opt_map_some, opt_map_none, opt_or_some, opt_or_none, opt_bind_some, s_ix, k_ix, k_ix2, wix_dd, wix_cd, ix_t, ix_l, ix_s, cix_l, cix_d, ix_d, at_0, at_1, at_2, s_sl, k_sl, k_sl2, k_sl3, s_onone, s_osome, k_asI, sl_d, sl_c, sl_l, sl_t, cut_hi, cut_lo, cut_lh, s_fn, k_fn0, k_fn1, k_fn2, k_fn3, k_fn4, k_fn5, k_fn6, s_fnp, k_fnp1, k_fnp2, k_fnp2r, k_fnp3, s_call, k_call, s_o1, s_o2, len_d, len_c, len_l, len_t, len_scr, len_s, clen_l, int_i, int_b, min_i, max_i, sq_dl, sq_cl, csq_l, lof_t, lof_l, tof_t, tof_l, s_meth, k_meth, k_meth_str, ok_str, mt_str1, mt_join, d_I0, d_mod, d_div, d_pow, d_shr, d_neg, d_mulL, d_mulR, d_mulS, d_addI, d_addS, d_addL, d_addT, s_seq, k_seq_nx, k_seq_rt, k_seq_bk, k_seq_ct, s_nil, s_ret, k_ret, s_retn, s_brk, s_cnt, s_expr, k_expr, s_sif, k_sif, s_set, k_set, s_asg, k_asg, rE_some, t_name, t_tup, t_cons, t_nil, s_par, k_par, s_par3, k_par3, s_raise, s_put, k_put, k_put2, k_put3, k_put4, put_is, s_for, k_for, s_while, s_iseq, as_l, as_t, as_s, as_scr, s_rg1, s_rg2, k_rg1, k_rg2, s_enum, k_enum_l, k_enum_s, s_zip, k_zip_l, k_zip_t, k_zip_s, s_off, k_of, rD_some, dats_mapd, s_flc, k_lc, wipe_nil, wipe_cons, s_celf, k_celf, s_flst, k_flst, k_fin_rt, k_fin_nx, start_nil, start_cons, repl_0, repl_S, s_caught, s_frz, k_frzd, s_fld, k_fld, s_rgl1, k_rgl1, s_rgl2, k_rgl, k_rgl2, s_flc2, k_lc2, s_new, k_new2, dk_cat, dk_cat2, dk_cat3, dk_nil, dk_cons, dk_val, dk_val2, dk_dicC, dk_dicC2, dk_dic, dk_dic2, dk_rK, dk_dat, dk_datn, eq_nn, ne_nn, lo_l, lo_t, lo_s, dk_frz, dk_rF, dk_cfrz, dk_methc, dk_rLst, dk_app, dk_rApp, dk_ext, dk_rExt, dk_snoc, dk_last, dk_setl, dk_putF, dk_putF2, dk_putF3, dk_putF4, dk_rPF, dk_new, dk_newT, dk_cfrzI, List.set_cons_zero, List.set_cons_succ, List.getElem?_cons_zero, List.getElem?_cons_succ, List.length_cons, List.length_nil, ↓reduceIte, Nat.reduceAdd, decide_eq_true_eq, Bool.not_true, Bool.not_false, Bool.true_and, Bool.false_and, Bool.and_true, Bool.and_false, Bool.or_true, Bool.or_false, Bool.true_or, Bool.false_or, reduceCtorEq, decide_true, decide_false, Bool.false_eq_true, Int.reduceLT, Int.reduceLE, Int.reduceNeg, Int.reduceAdd, Int.reduceSub, Int.reduceMul, Nat.reduceMul, Nat.reduceLeDiff, Nat.zero_add, Bool.not_not, beq_self_eq_true, bne_self_eq_false, not_true_eq_false, not_false_eq_true, Bool.not_eq_true, Option.some.injEq, List.map_cons, List.map_nil, List.isEmpty_cons, List.isEmpty_nil, and_self, and_true, true_and, Int.toNat_natCast, Int.natCast_nonneg, Int.reduceToNat, Int.reduceEq, Int.reduceNe, Nat.reduceLT, Int.reduceBEq, Int.reduceBNe, Bool.not_eq_eq_eq_not, eq_self, if_true, if_false, ite_self, t, hz', mb, s1, ih]
      rw [par_step z hz]
      cases b <;> cases par z <;> rfl
    · have : z = 0 := by omega
      subst this
      simp (disch := (first | assumption | omega | (simp only [List.length_cons, List.length_nil, List.length_map, List.length_append, List.length_replicate] <;> omega))) only [rb_ok, rb_exc, rb_bad, rb_ite, m_ret, m_badE, m_opt, m_optn, m_ite, rO_some, rO_none, rW_some, rW_none, rO_map, rW_map, s_var0, s_varS, s_c, s_bin, k_bin, s_lift, s_un, s_liftU, s_eqc, k_eqc, k_eqc2, eq_ii, ne_ii, eq_ss, ne_ss, eq_bb, ne_bb, s_cmpE, s_asB, s_tru, k_tru, rT_some, tru_d, tru_c, dtru_bl, dtru_non, dtru_int, dtru_lst, dtru_tup, s_and, s_or, s_not, k_and, k_or, k_not, s_yes, m_and, m_or, s_eand, k_eand, k_eand2, s_eor, k_eor, k_eor2, s_enot, k_enot, k_enot2, s_if, k_if, m_iteD, m_iteI, m_iteB, m_iteAnd, m_iteOr, m_iteS, s_chain, k_ch, k_ch2, k_ch3, k_ch4, s_anil, s_acons, k_arg, k_arg2, s_tup, s_lst, k_tup, k_lst, rL_some, dats_nil, dats_cons, opt_map_some, opt_map_none, opt_or_some, opt_or_none, opt_bind_some, s_ix, k_ix, k_ix2, wix_dd, wix_cd, ix_t, ix_l, ix_s, cix_l, cix_d, ix_d, at_0, at_1, at_2, s_sl, k_sl, k_sl2, k_sl3, s_onone, s_osome, k_asI, sl_d, sl_c, sl_l, sl_t, cut_hi, cut_lo, cut_lh, s_fn, k_fn0, k_fn1, k_fn2, k_fn3, k_fn4, k_fn5, k_fn6, s_fnp, k_fnp1, k_fnp2, k_fnp2r, k_fnp3, s_call, k_call, s_o1, s_o2, len_d, len_c, len_l, len_t, len_scr, len_s, clen_l, int_i, int_b, min_i, max_i, sq_dl, sq_cl, csq_l, lof_t, lof_l, tof_t, tof_l, s_meth, k_meth, k_meth_str, ok_str, mt_str1, mt_join, d_I0, d_mod, d_div, d_pow, d_shr, d_neg, d_mulL, d_mulR, d_mulS, d_addI, d_addS, d_addL, d_addT, s_seq, k_seq_nx, k_seq_rt, k_seq_bk, k_seq_ct, s_nil, s_ret, k_ret, s_retn, s_brk, s_cnt, s_expr, k_expr, s_sif, k_sif, s_set, k_set, s_asg, k_asg, rE_some, t_name, t_tup, t_cons, t_nil, s_par, k_par, s_par3, k_par3, s_raise, s_put, k_put, k_put2, k_put3, k_put4, put_is, s_for, k_for, s_while, s_iseq, as_l, as_t, as_s, as_scr, s_rg1, s_rg2, k_rg1, k_rg2, s_enum, k_enum_l, k_enum_s, s_zip, k_zip_l, k_zip_t, k_zip_s, s_off, k_of, rD_some, dats_mapd, s_flc, k_lc, wipe_nil, wipe_cons, s_celf, k_celf, s_flst, k_flst, k_fin_rt, k_fin_nx, start_nil, start_cons, repl_0, repl_S, s_caught, s_frz, k_frzd, s_fld, k_fld, s_rgl1, k_rgl1, s_rgl2, k_rgl, k_rgl2, s_flc2, k_lc2, s_new, k_new2, dk_cat, dk_cat2, dk_cat3, dk_nil, dk_cons, dk_val, dk_val2, dk_dicC, dk_dicC2, dk_dic, dk_dic2, dk_rK, dk_dat, dk_datn, eq_nn, ne_nn, lo_l, lo_t, lo_s, dk_frz, dk_rF, dk_cfrz, dk_methc, dk_rLst, dk_app, dk_rApp, dk_ext, dk_rExt, dk_snoc, dk_last, dk_setl, dk_putF, dk_putF2, dk_putF3, dk_putF4, dk_rPF, dk_new, dk_newT, dk_cfrzI, List.set_cons_zero, List.set_cons_succ, List.getElem?_cons_zero, List.getElem?_cons_succ, List.length_cons, List.length_nil, ↓reduceIte, Nat.reduceAdd, decide_eq_true_eq, Bool.not_true, Bool.not_false, Bool.true_and, Bool.false_and, Bool.and_true, Bool.and_false, Bool.or_true, Bool.or_false, Bool.true_or, Bool.false_or, reduceCtorEq, decide_true, decide_false, Bool.false_eq_true, Int.reduceLT, Int.reduceLE, Int.reduceNeg, Int.reduceAdd, Int.reduceSub, Int.reduceMul, Nat.reduceMul, Nat.reduceLeDiff, Nat.zero_add, Bool.not_not, beq_self_eq_true, bne_self_eq_false, not_true_eq_false, not_false_eq_true, Bool.not_eq_true, Option.some.injEq, List.map_cons, List.map_nil, List.isEmpty_cons, List.isEmpty_nil, and_self, and_true, true_and, Int.toNat_natCast, Int.natCast_nonneg, Int.reduceToNat, Int.reduceEq, Int.reduceNe, Nat.reduceLT, Int.reduceBEq, Int.reduceBNe, Bool.not_eq_eq_eq_not, eq_self, if_true, if_false, ite_self, t]
      rw [par_zero]
      simp
theorem r_is_odd {z : Nat} {cs : List Cell} : m_is_odd [.dat (.int z)] cs = .ok (.dat (.bl (par z))) cs := by
  refine fn_ev ?_
  have q := odd_loop (mu_is_odd_0 [some (.dat (.int z)), some (.dat (.bl false))] cs) z false cs (by show z < (z : Int).toNat + 1; omega)
  simp (disch := (first | assumption | omega | (simp only [List.length_cons, List.length_nil, List.length_map, List.length_append, List.length_replicate] <;> omega))) only [rb_ok, rb_exc, rb_bad, rb_ite, m_ret, m_badE, m_opt, m_optn, m_ite, rO_some, rO_none, rW_some, rW_none, rO_map, rW_map, s_var0, s_varS, s_c, s_bin, k_bin, s_lift, s_un, s_liftU, s_eqc, k_eqc, k_eqc2, eq_ii, ne_ii, eq_ss, ne_ss, eq_bb, ne_bb, s_cmpE, s_asB, s_tru, k_tru, rT_some, tru_d, tru_c, dtru_bl, dtru_non, dtru_int, dtru_lst, dtru_tup, s_and, s_or, s_not, k_and, k_or, k_not, s_yes, m_and, m_or, s_eand, k_eand, k_eand2, s_eor, k_eor, k_eor2, s_enot, k_enot, k_enot2, s_if, k_if, m_iteD, m_iteI, m_iteB, m_iteAnd, m_iteOr, m_iteS, s_chain, k_ch, k_ch2, k_ch3, k_ch4, s_anil, s_acons, k_arg, k_arg2, s_tup, s_lst, k_tup, k_lst, rL_some, dats_nil, dats_cons, opt_map_some, opt_map_none, opt_or_some, opt_or_none, opt_bind_some, s_ix, k_ix, k_ix2, wix_dd, wix_cd, ix_t, ix_l, ix_s, cix_l, cix_d, ix_d, at_0, at_1, at_2, s_sl, k_sl, k_sl2, k_sl3, s_onone, s_osome, k_asI, sl_d, sl_c, sl_l, sl_t, cut_hi, cut_lo, cut_lh, s_fn, k_fn0, k_fn1, k_fn2, k_fn3, k_fn4, k_fn5, k_fn6, s_fnp, k_fnp1, k_fnp2, k_fnp2r, k_fnp3, s_call, k_call, s_o1, s_o2, len_d, len_c, len_l, len_t, len_scr, len_s, clen_l, int_i, int_b, min_i, max_i, sq_dl, sq_cl, csq_l, lof_t, lof_l, tof_t, tof_l, s_meth, k_meth, k_meth_str, ok_str, mt_str1, mt_join, d_I0, d_mod, d_div, d_pow, d_shr, d_neg, d_mulL, d_mulR, d_mulS, d_addI, d_addS, d_addL, d_addT, s_seq, k_seq_nx, k_seq_rt, k_seq_bk, k_seq_ct, s_nil, s_ret, k_ret, s_retn, s_brk, s_cnt, s_expr, k_expr, s_sif, k_sif, s_set, k_set, s_asg, k_asg, rE_some, t_name, t_tup, t_cons, t_nil, s_par, k_par, s_par3, k_par3, s_raise, s_put, k_put, k_put2, k_put3, k_put4, put_is, s_for, k_for, s_while, s_iseq, as_l, as_t, as_s, as_scr, s_rg1, s_rg2, k_rg1, k_rg2, s_enum, k_enum_l, k_enum_s, s_zip, k_zip_l, k_zip_t, k_zip_s, s_off, k_of, rD_some, dats_mapd, s_flc, k_lc, wipe_nil, wipe_cons, s_celf, k_celf, s_flst, k_flst, k_fin_rt, k_fin_nx, start_nil, start_cons, repl_0, repl_S, s_caught, s_frz, k_frzd, s_fld, k_fld, s_rgl1, k_rgl1, s_rgl2, k_rgl, k_rgl2, s_flc2, k_lc2, s_new, k_new2, dk_cat, dk_cat2, dk_cat3, dk_nil, dk_cons, dk_val, dk_val2, dk_dicC, dk_dicC2, dk_dic, dk_dic2, dk_rK, dk_dat, dk_datn, eq_nn, ne_nn, lo_l, lo_t, lo_s, dk_frz, dk_rF, dk_cfrz, dk_methc, dk_rLst, dk_app, dk_rApp, dk_ext, dk_rExt, dk_snoc, dk_last, dk_setl, dk_putF, dk_putF2, dk_putF3, dk_putF4, dk_rPF, dk_new, dk_newT, dk_cfrzI, List.set_cons_zero, List.set_cons_succ, List.getElem?_cons_zero, List.getElem?_cons_succ, List.length_cons, List.length_nil, ↓reduceIte, Nat.reduceAdd, decide_eq_true_eq, Bool.not_true, Bool.not_false, Bool.true_and, Bool.false_and, Bool.and_true, Bool.and_false, Bool.or_true, Bool.or_false, Bool.true_or, Bool.false_or, reduceCtorEq, decide_true, decide_false, Bool.false_eq_true, Int.reduceLT, Int.reduceLE, Int.reduceNeg, Int.reduceAdd, Int.reduceSub, Int.reduceMul, Nat.reduceMul, Nat.reduceLeDiff, Nat.zero_add, Bool.not_not, beq_self_eq_true, bne_self_eq_false, not_true_eq_false, not_false_eq_true, Bool.not_eq_true, Option.some.injEq, List.map_cons, List.map_nil, List.isEmpty_cons, List.isEmpty_nil, and_self, and_true, true_and, Int.toNat_natCast, Int.natCast_nonneg, Int.reduceToNat, Int.reduceEq, Int.reduceNe, Nat.reduceLT, Int.reduceBEq, Int.reduceBNe, Bool.not_eq_eq_eq_not, eq_self, if_true, if_false, ite_self, b_is_odd, start_cons, start_nil, repl_S, repl_0, q]
  simp
theorem r_is_crossed {l m : List Nat} {cs : List Cell} (h : l.length = m.length) (hl : l.length ≤ 12) (fl : Fig l) (fm : Fig m) : m_is_crossed [.dat (.int (code l)), .dat (.int (code m))] cs = .ok (.dat (.bl (cross l m))) cs := by
  refine fn_ev ?_
  have e : Builtin.bitAnd (Builtin.bitAnd ((code l : Int) / 2 ^ 1) (code m)) 5592405 = (((code l / 2 &&& code m) &&& figs 12 : Nat) : Int) := by
    rw [show ((code l : Int) / 2 ^ 1) = ((code l / 2 : Nat) : Int) by simp, bitAnd_nat, show (5592405 : Int) = ((figs 12 : Nat) : Int) from rfl, bitAnd_nat]
  have q := r_is_odd (z := (code l / 2 &&& code m) &&& figs 12) (cs := cs)
  rw [cross_par l m 12 h hl fl fm] at q
  simp (disch := (first | assumption | omega | (simp only [List.length_cons, List.length_nil, List.length_map, List.length_append, List.length_replicate] <;> omega))) only [rb_ok, rb_exc, rb_bad, rb_ite, m_ret, m_badE, m_opt, m_optn, m_ite, rO_some, rO_none, rW_some, rW_none, rO_map, rW_map, s_var0, s_varS, s_c, s_bin, k_bin, s_lift, s_un, s_liftU, s_eqc, k_eqc, k_eqc2, eq_ii, ne_ii, eq_ss, ne_ss, eq_bb, ne_bb, s_cmpE, s_asB, s_tru, k_tru, rT_some, tru_d, tru_c, dtru_bl, dtru_non, dtru_int, dtru_lst, dtru_tup, s_and, s_or, s_not, k_and, k_or, k_not, s_yes, m_and, m_or, s_eand, k_eand, k_eand2, s_eor, k_eor, k_eor2, s_enot, k_enot, k_enot2, s_if, k_if, m_iteD, m_iteI, m_iteB, m_iteAnd, m_iteOr, m_iteS, s_chain, k_ch, k_ch2, k_ch3, k_ch4, s_anil, s_acons, k_arg, k_arg2, s_tup, s_lst, k_tup, k_lst, rL_some, dats_nil, dats_cons, opt_map_some, opt_map_none, opt_or_some, opt_or_none, opt_bind_some, s_ix, k_ix, k_ix2, wix_dd, wix_cd, ix_t, ix_l, ix_s, cix_l, cix_d, ix_d, at_0, at_1, at_2, s_sl, k_sl, k_sl2, k_sl3, s_onone, s_osome, k_asI, sl_d, sl_c, sl_l, sl_t, cut_hi, cut_lo, cut_lh, s_fn, k_fn0, k_fn1, k_fn2, k_fn3, k_fn4, k_fn5, k_fn6, s_fnp, k_fnp1, k_fnp2, k_fnp2r, k_fnp3, s_call, k_call, s_o1, s_o2, len_d, len_c, len_l, len_t, len_scr, len_s, clen_l, int_i, int_b, min_i, max_i, sq_dl, sq_cl, csq_l, lof_t, lof_l, tof_t, tof_l, s_meth, k_meth, k_meth_str, ok_str, mt_str1, mt_join, d_I0, d_mod, d_div, d_pow, d_shr, d_neg, d_mulL, d_mulR, d_mulS, d_addI, d_addS, d_addL, d_addT, s_seq, k_seq_nx, k_seq_rt, k_seq_bk, k_seq_ct, s_nil, s_ret, k_ret, s_retn, s_brk, s_cnt, s_expr, k_expr, s_sif, k_sif, s_set, k_set, s_asg, k_asg, rE_some, t_name, t_tup, t_cons, t_nil, s_par, k_par, s_par3, k_par3, s_raise, s_put, k_put, k_put2, k_put3, k_put4, put_is, s_for, k_for, s_while, s_iseq, as_l, as_t, as_s, as_scr, s_rg1, s_rg2, k_rg1, k_rg2, s_enum, k_enum_l, k_enum_s, s_zip, k_zip_l, k_zip_t, k_zip_s, s_off, k_of, rD_some, dats_mapd, s_flc, k_lc, wipe_nil, wipe_cons, s_celf, k_celf, s_flst, k_flst, k_fin_rt, k_fin_nx, start_nil, start_cons, repl_0, repl_S, s_caught, s_frz, k_frzd, s_fld, k_fld, s_rgl1, k_rgl1, s_rgl2, k_rgl, k_rgl2, s_flc2, k_lc2, s_new, k_new2, dk_cat, dk_cat2, dk_cat3, dk_nil, dk_cons, dk_val, dk_val2, dk_dicC, dk_dicC2, dk_dic, dk_dic2, dk_rK, dk_dat, dk_datn, eq_nn, ne_nn, lo_l, lo_t, lo_s, dk_frz, dk_rF, dk_cfrz, dk_methc, dk_rLst, dk_app, dk_rApp, dk_ext, dk_rExt, dk_snoc, dk_last, dk_setl, dk_putF, dk_putF2, dk_putF3, dk_putF4, dk_rPF, dk_new, dk_newT, dk_cfrzI, List.set_cons_zero, List.set_cons_succ, List.getElem?_cons_zero, List.getElem?_cons_succ, List.length_cons, List.length_nil, ↓reduceIte, Nat.reduceAdd, decide_eq_true_eq, Bool.not_true, Bool.not_false, Bool.true_and, Bool.false_and, Bool.and_true, Bool.and_false, Bool.or_true, Bool.or_false, Bool.true_or, Bool.false_or, reduceCtorEq, decide_true, decide_false, Bool.false_eq_true, Int.reduceLT, Int.reduceLE, Int.reduceNeg, Int.reduceAdd, Int.reduceSub, Int.reduceMul, Nat.reduceMul, Nat.reduceLeDiff, Nat.zero_add, Bool.not_not, beq_self_eq_true, bne_self_eq_false, not_true_eq_false, not_false_eq_true, Bool.not_eq_true, Option.some.injEq, List.map_cons, List.map_nil, List.isEmpty_cons, List.isEmpty_nil, and_self, and_true, true_and, Int.toNat_natCast, Int.natCast_nonneg, Int.reduceToNat, Int.reduceEq, Int.reduceNe, Nat.reduceLT, Int.reduceBEq, Int.reduceBNe, Bool.not_eq_eq_eq_not, eq_self, if_true, if_false, ite_self, b_is_crossed, start_cons, start_nil, repl_S, repl_0, e, q]
def Sg (s : Int) : Prop := s = 1 ∨ s = -1
def zx (l m : List Nat) : List Nat := List.zipWith (fun x y => x ^^^ y) l m
def ps (s t : Int) (l m : List Nat) : Int := if cross l m = true then -(s * t) else s * t
theorem sg_ps {s t : Int} {l m : List Nat} (hs : Sg s) (ht : Sg t) : Sg (ps s t l m) := by
  unfold ps
  rcases hs with rfl | rfl <;> rcases ht with rfl | rfl <;> cases cross l m <;> simp [Sg]
theorem zx_len {l m : List Nat} (h : l.length = m.length) : (zx l m).length = l.length := by simp [zx, h]
theorem zx_fig : ∀ {l m : List Nat}, Fig l → Fig m → Fig (zx l m)
  | [], _, _, _ => by simp [zx, Fig]
  | _ :: _, [], _, _ => by simp [zx, Fig]
  | x :: l, y :: m, hl, hm => by
    have ih := zx_fig (l := l) (m := m) (fun z h => hl z (List.mem_cons_of_mem _ h)) (fun z h => hm z (List.mem_cons_of_mem _ h))
    intro z hz
    rcases List.mem_cons.mp (show z ∈ (x ^^^ y) :: zx l m from hz) with h | h
    · rw [h]
      exact Nat.xor_lt_two_pow (n := 2) (hl x List.mem_cons_self) (hm y List.mem_cons_self)
    · exact ih z h
theorem mul_sg {s t : Int} (hs : Sg s) (ht : Sg t) : -18446744073709551616 < s ∧ s < 18446744073709551616 ∧ -18446744073709551616 < -s ∧ -s < 18446744073709551616 := by
  rcases hs with rfl | rfl <;> decide
theorem r_put_of {s t : Int} {l m : List Nat} {cs : List Cell} (hs : Sg s) (ht : Sg t) (h : l.length = m.length) (hl : l.length ≤ 12) (fl : Fig l) (fm : Fig m) : m_put_of [wd s l, wd t m] cs = .ok (wd (ps s t l m) (zx l m)) cs := by
  have q1 := r_code_of (s := s) (cs := cs) hl fl
  have q2 := r_code_of (s := t) (cs := cs) (h ▸ hl) fm
  have q3 := r_is_crossed (cs := cs) h hl fl fm
  have q4 := r_letters_of (cs := cs) (by rw [zx_len h]; exact hl) (zx_fig fl fm)
  rw [zx_len h] at q4
  have e : Builtin.bitXor (code l : Int) (code m) = (code (zx l m) : Nat) := by rw [bitXor_nat, show zx l m = List.zipWith (fun x y => x ^^^ y) l m from rfl, code_xor l m h fl fm]
  have sl := strOf_len l
  obtain ⟨b1, b2, b3, b4⟩ := mul_sg hs ht
  refine fn_ev ?_
  cases hc : cross l m with
  | true =>
    rw [hc] at q3
    simp (disch := (first | assumption | omega | (simp only [List.length_cons, List.length_nil, List.length_map, List.length_append, List.length_replicate] <;> omega))) only [rb_ok, rb_exc, rb_bad, rb_ite, m_ret, m_badE, m_opt, m_optn, m_ite, rO_some, rO_none, rW_some, rW_none, rO_map, rW_map, s_var0, s_varS, s_c, s_bin, k_bin, s_lift, s_un, s_liftU, s_eqc, k_eqc, k_eqc2, eq_ii, ne_ii, eq_ss, ne_ss, eq_bb, ne_bb, s_cmpE, s_asB, s_tru, k_tru, rT_some, tru_d, tru_c, dtru_bl, dtru_non, dtru_int, dtru_lst, dtru_tup, s_and, s_or, s_not, k_and, k_or, k_not, s_yes, m_and, m_or, s_eand, k_eand, k_eand2, s_eor, k_eor, k_eor2, s_enot, k_enot, k_enot2, s_if, k_if, m_iteD, m_iteI, m_iteB, m_iteAnd, m_iteOr, m_iteS, s_chain, k_ch, k_ch2, k_ch3, k_ch4, s_anil, s_acons, k_arg, k_arg2, s_tup, s_lst, k_tup, k_lst, rL_some, dats_nil, dats_cons, opt_map_some, opt_map_none, opt_or_some, opt_or_none, opt_bind_some, s_ix, k_ix, k_ix2, wix_dd, wix_cd, ix_t, ix_l, ix_s, cix_l, cix_d, ix_d, at_0, at_1, at_2, s_sl, k_sl, k_sl2, k_sl3, s_onone, s_osome, k_asI, sl_d, sl_c, sl_l, sl_t, cut_hi, cut_lo, cut_lh, s_fn, k_fn0, k_fn1, k_fn2, k_fn3, k_fn4, k_fn5, k_fn6, s_fnp, k_fnp1, k_fnp2, k_fnp2r, k_fnp3, s_call, k_call, s_o1, s_o2, len_d, len_c, len_l, len_t, len_scr, len_s, clen_l, int_i, int_b, min_i, max_i, sq_dl, sq_cl, csq_l, lof_t, lof_l, tof_t, tof_l, s_meth, k_meth, k_meth_str, ok_str, mt_str1, mt_join, d_I0, d_mod, d_div, d_pow, d_shr, d_neg, d_mulL, d_mulR, d_mulS, d_addI, d_addS, d_addL, d_addT, s_seq, k_seq_nx, k_seq_rt, k_seq_bk, k_seq_ct, s_nil, s_ret, k_ret, s_retn, s_brk, s_cnt, s_expr, k_expr, s_sif, k_sif, s_set, k_set, s_asg, k_asg, rE_some, t_name, t_tup, t_cons, t_nil, s_par, k_par, s_par3, k_par3, s_raise, s_put, k_put, k_put2, k_put3, k_put4, put_is, s_for, k_for, s_while, s_iseq, as_l, as_t, as_s, as_scr, s_rg1, s_rg2, k_rg1, k_rg2, s_enum, k_enum_l, k_enum_s, s_zip, k_zip_l, k_zip_t, k_zip_s, s_off, k_of, rD_some, dats_mapd, s_flc, k_lc, wipe_nil, wipe_cons, s_celf, k_celf, s_flst, k_flst, k_fin_rt, k_fin_nx, start_nil, start_cons, repl_0, repl_S, s_caught, s_frz, k_frzd, s_fld, k_fld, s_rgl1, k_rgl1, s_rgl2, k_rgl, k_rgl2, s_flc2, k_lc2, s_new, k_new2, dk_cat, dk_cat2, dk_cat3, dk_nil, dk_cons, dk_val, dk_val2, dk_dicC, dk_dicC2, dk_dic, dk_dic2, dk_rK, dk_dat, dk_datn, eq_nn, ne_nn, lo_l, lo_t, lo_s, dk_frz, dk_rF, dk_cfrz, dk_methc, dk_rLst, dk_app, dk_rApp, dk_ext, dk_rExt, dk_snoc, dk_last, dk_setl, dk_putF, dk_putF2, dk_putF3, dk_putF4, dk_rPF, dk_new, dk_newT, dk_cfrzI, List.set_cons_zero, List.set_cons_succ, List.getElem?_cons_zero, List.getElem?_cons_succ, List.length_cons, List.length_nil, ↓reduceIte, Nat.reduceAdd, decide_eq_true_eq, Bool.not_true, Bool.not_false, Bool.true_and, Bool.false_and, Bool.and_true, Bool.and_false, Bool.or_true, Bool.or_false, Bool.true_or, Bool.false_or, reduceCtorEq, decide_true, decide_false, Bool.false_eq_true, Int.reduceLT, Int.reduceLE, Int.reduceNeg, Int.reduceAdd, Int.reduceSub, Int.reduceMul, Nat.reduceMul, Nat.reduceLeDiff, Nat.zero_add, Bool.not_not, beq_self_eq_true, bne_self_eq_false, not_true_eq_false, not_false_eq_true, Bool.not_eq_true, Option.some.injEq, List.map_cons, List.map_nil, List.isEmpty_cons, List.isEmpty_nil, and_self, and_true, true_and, Int.toNat_natCast, Int.natCast_nonneg, Int.reduceToNat, Int.reduceEq, Int.reduceNe, Nat.reduceLT, Int.reduceBEq, Int.reduceBNe, Bool.not_eq_eq_eq_not, eq_self, if_true, if_false, ite_self, b_put_of, start_cons, start_nil, repl_S, repl_0, q1, q2, q3, dix_w0, dix_w1, e, sl, q4]
    simp [ps, hc, Int.neg_mul, wdD]
  | false =>
    rw [hc] at q3
    simp (disch := (first | assumption | omega | (simp only [List.length_cons, List.length_nil, List.length_map, List.length_append, List.length_replicate] <;> omega))) only [rb_ok, rb_exc, rb_bad, rb_ite, m_ret, m_badE, m_opt, m_optn, m_ite, rO_some, rO_none, rW_some, rW_none, rO_map, rW_map, s_var0, s_varS, s_c, s_bin, k_bin, s_lift, s_un, s_liftU, s_eqc, k_eqc, k_eqc2, eq_ii, ne_ii, eq_ss, ne_ss, eq_bb, ne_bb, s_cmpE, s_asB, s_tru, k_tru, rT_some, tru_d, tru_c, dtru_bl, dtru_non, dtru_int, dtru_lst, dtru_tup, s_and, s_or, s_not, k_and, k_or, k_not, s_yes, m_and, m_or, s_eand, k_eand, k_eand2, s_eor, k_eor, k_eor2, s_enot, k_enot, k_enot2, s_if, k_if, m_iteD, m_iteI, m_iteB, m_iteAnd, m_iteOr, m_iteS, s_chain, k_ch, k_ch2, k_ch3, k_ch4, s_anil, s_acons, k_arg, k_arg2, s_tup, s_lst, k_tup, k_lst, rL_some, dats_nil, dats_cons, opt_map_some, opt_map_none, opt_or_some, opt_or_none, opt_bind_some, s_ix, k_ix, k_ix2, wix_dd, wix_cd, ix_t, ix_l, ix_s, cix_l, cix_d, ix_d, at_0, at_1, at_2, s_sl, k_sl, k_sl2, k_sl3, s_onone, s_osome, k_asI, sl_d, sl_c, sl_l, sl_t, cut_hi, cut_lo, cut_lh, s_fn, k_fn0, k_fn1, k_fn2, k_fn3, k_fn4, k_fn5, k_fn6, s_fnp, k_fnp1, k_fnp2, k_fnp2r, k_fnp3, s_call, k_call, s_o1, s_o2, len_d, len_c, len_l, len_t, len_scr, len_s, clen_l, int_i, int_b, min_i, max_i, sq_dl, sq_cl, csq_l, lof_t, lof_l, tof_t, tof_l, s_meth, k_meth, k_meth_str, ok_str, mt_str1, mt_join, d_I0, d_mod, d_div, d_pow, d_shr, d_neg, d_mulL, d_mulR, d_mulS, d_addI, d_addS, d_addL, d_addT, s_seq, k_seq_nx, k_seq_rt, k_seq_bk, k_seq_ct, s_nil, s_ret, k_ret, s_retn, s_brk, s_cnt, s_expr, k_expr, s_sif, k_sif, s_set, k_set, s_asg, k_asg, rE_some, t_name, t_tup, t_cons, t_nil, s_par, k_par, s_par3, k_par3, s_raise, s_put, k_put, k_put2, k_put3, k_put4, put_is, s_for, k_for, s_while, s_iseq, as_l, as_t, as_s, as_scr, s_rg1, s_rg2, k_rg1, k_rg2, s_enum, k_enum_l, k_enum_s, s_zip, k_zip_l, k_zip_t, k_zip_s, s_off, k_of, rD_some, dats_mapd, s_flc, k_lc, wipe_nil, wipe_cons, s_celf, k_celf, s_flst, k_flst, k_fin_rt, k_fin_nx, start_nil, start_cons, repl_0, repl_S, s_caught, s_frz, k_frzd, s_fld, k_fld, s_rgl1, k_rgl1, s_rgl2, k_rgl, k_rgl2, s_flc2, k_lc2, s_new, k_new2, dk_cat, dk_cat2, dk_cat3, dk_nil, dk_cons, dk_val, dk_val2, dk_dicC, dk_dicC2, dk_dic, dk_dic2, dk_rK, dk_dat, dk_datn, eq_nn, ne_nn, lo_l, lo_t, lo_s, dk_frz, dk_rF, dk_cfrz, dk_methc, dk_rLst, dk_app, dk_rApp, dk_ext, dk_rExt, dk_snoc, dk_last, dk_setl, dk_putF, dk_putF2, dk_putF3, dk_putF4, dk_rPF, dk_new, dk_newT, dk_cfrzI, List.set_cons_zero, List.set_cons_succ, List.getElem?_cons_zero, List.getElem?_cons_succ, List.length_cons, List.length_nil, ↓reduceIte, Nat.reduceAdd, decide_eq_true_eq, Bool.not_true, Bool.not_false, Bool.true_and, Bool.false_and, Bool.and_true, Bool.and_false, Bool.or_true, Bool.or_false, Bool.true_or, Bool.false_or, reduceCtorEq, decide_true, decide_false, Bool.false_eq_true, Int.reduceLT, Int.reduceLE, Int.reduceNeg, Int.reduceAdd, Int.reduceSub, Int.reduceMul, Nat.reduceMul, Nat.reduceLeDiff, Nat.zero_add, Bool.not_not, beq_self_eq_true, bne_self_eq_false, not_true_eq_false, not_false_eq_true, Bool.not_eq_true, Option.some.injEq, List.map_cons, List.map_nil, List.isEmpty_cons, List.isEmpty_nil, and_self, and_true, true_and, Int.toNat_natCast, Int.natCast_nonneg, Int.reduceToNat, Int.reduceEq, Int.reduceNe, Nat.reduceLT, Int.reduceBEq, Int.reduceBNe, Bool.not_eq_eq_eq_not, eq_self, if_true, if_false, ite_self, b_put_of, start_cons, start_nil, repl_S, repl_0, q1, q2, q3, dix_w0, dix_w1, e, sl, q4]
    simp [ps, hc, wdD]
/-! the algebra -/
theorem hi_xor {x y : Nat} (hx : x < 4) (hy : y < 4) : decide (2 ≤ x ^^^ y) = xor (decide (2 ≤ x)) (decide (2 ≤ y)) := by
  have h : ∀ a b : Fin 4, decide (2 ≤ a.val ^^^ b.val) = xor (decide (2 ≤ a.val)) (decide (2 ≤ b.val)) := by decide
  exact h ⟨x, hx⟩ ⟨y, hy⟩
theorem lo_xor {x y : Nat} (hx : x < 4) (hy : y < 4) : decide ((x ^^^ y) % 2 = 1) = xor (decide (x % 2 = 1)) (decide (y % 2 = 1)) := by
  have h : ∀ a b : Fin 4, decide ((a.val ^^^ b.val) % 2 = 1) = xor (decide (a.val % 2 = 1)) (decide (b.val % 2 = 1)) := by decide
  exact h ⟨x, hx⟩ ⟨y, hy⟩
theorem fig_tl {x : Nat} {l : List Nat} (h : Fig (x :: l)) : Fig l := fun z hz => h z (List.mem_cons_of_mem _ hz)
theorem cross_l : ∀ {l m n : List Nat}, l.length = m.length → m.length = n.length → Fig l → Fig m → cross (zx l m) n = xor (cross l n) (cross m n)
  | [], [], [], _, _, _, _ => rfl
  | x :: l, y :: m, z :: n, h1, h2, hl, hm => by
    have ih := cross_l (l := l) (m := m) (n := n) (by simpa using h1) (by simpa using h2) (fig_tl hl) (fig_tl hm)
    show xor (decide (2 ≤ x ^^^ y) && decide (z % 2 = 1)) (cross (zx l m) n) = xor (xor (decide (2 ≤ x) && decide (z % 2 = 1)) (cross l n)) (xor (decide (2 ≤ y) && decide (z % 2 = 1)) (cross m n))
    rw [ih, hi_xor (hl x List.mem_cons_self) (hm y List.mem_cons_self)]
    cases decide (2 ≤ x) <;> cases decide (2 ≤ y) <;> cases decide (z % 2 = 1) <;> cases cross l n <;> cases cross m n <;> rfl
theorem cross_r : ∀ {l m n : List Nat}, l.length = m.length → m.length = n.length → Fig m → Fig n → cross l (zx m n) = xor (cross l m) (cross l n)
  | [], [], [], _, _, _, _ => rfl
  | x :: l, y :: m, z :: n, h1, h2, hl, hm => by
    have ih := cross_r (l := l) (m := m) (n := n) (by simpa using h1) (by simpa using h2) (fig_tl hl) (fig_tl hm)
    show xor (decide (2 ≤ x) && decide ((y ^^^ z) % 2 = 1)) (cross l (zx m n)) = xor (xor (decide (2 ≤ x) && decide (y % 2 = 1)) (cross l m)) (xor (decide (2 ≤ x) && decide (z % 2 = 1)) (cross l n))
    rw [ih, lo_xor (hl y List.mem_cons_self) (hm z List.mem_cons_self)]
    cases decide (2 ≤ x) <;> cases decide (y % 2 = 1) <;> cases decide (z % 2 = 1) <;> cases cross l m <;> cases cross l n <;> rfl
theorem zx_assoc : ∀ l m n : List Nat, zx (zx l m) n = zx l (zx m n)
  | [], _, _ => by simp [zx]
  | _ :: _, [], _ => by simp [zx]
  | _ :: _, _ :: _, [] => by simp [zx]
  | x :: l, y :: m, z :: n => by
    have ih := zx_assoc l m n
    show ((x ^^^ y) ^^^ z) :: zx (zx l m) n = (x ^^^ (y ^^^ z)) :: zx l (zx m n)
    rw [ih, Nat.xor_assoc]
structure Wd where
  s : Int
  l : List Nat
def pu (a b : Wd) : Wd := ⟨ps a.s b.s a.l b.l, zx a.l b.l⟩
structure WOk' (n : Nat) (a : Wd) : Prop where
  sg : Sg a.s
  len : a.l.length = n
  fig : Fig a.l
theorem pu_ok {n : Nat} {a b : Wd} (ha : WOk' n a) (hb : WOk' n b) : WOk' n (pu a b) := ⟨sg_ps ha.sg hb.sg, (zx_len (ha.len.trans hb.len.symm)).trans ha.len, zx_fig ha.fig hb.fig⟩
theorem pu_assoc {n : Nat} {a b c : Wd} (ha : WOk' n a) (hb : WOk' n b) (hc : WOk' n c) : pu (pu a b) c = pu a (pu b c) := by
  have e1 := cross_l (l := a.l) (m := b.l) (n := c.l) (ha.len.trans hb.len.symm) (hb.len.trans hc.len.symm) ha.fig hb.fig
  have e2 := cross_r (l := a.l) (m := b.l) (n := c.l) (ha.len.trans hb.len.symm) (hb.len.trans hc.len.symm) hb.fig hc.fig
  unfold pu
  dsimp only
  rw [zx_assoc]
  congr 1
  unfold ps
  rw [e1, e2]
  cases cross a.l b.l <;> cases cross a.l c.l <;> cases cross b.l c.l <;> simp [Int.mul_assoc, Int.neg_mul, Int.mul_neg]
end DX

set_option Elab.async false
set_option linter.all false
set_option maxRecDepth 100000
set_option maxHeartbeats 1000000
/-! LX: what is a word, by the program and by the law; words put together. -/
namespace DX
open PySem PySem.Spec PyProof.Rows L2
def inLet (c : Nat) : Bool := decide (c ∈ ("1abc" : Str).cps.toList)
theorem in_any (c : Nat) : dInS (.str ⟨#[c]⟩) (.str "1abc") = some (inLet c) := by
  unfold dInS inLet
  dsimp only
  rw [StrLaws.found_one]
theorem in_let {c : Nat} : dIn (.str ⟨#[c]⟩) (.str "1abc") = some (.bl (inLet c)) := by
  unfold dIn
  rw [in_any]
  rfl
theorem notin_let {c : Nat} : dNotIn (.str ⟨#[c]⟩) (.str "1abc") = some (.bl (!inLet c)) := by
  unfold dNotIn
  rw [in_any]
  rfl
theorem inLet_chr {x : Nat} (h : x < 4) : inLet (chr4 x) = true := by
  match x, h with
  | 0, _ => decide +kernel
  | 1, _ => decide +kernel
  | 2, _ => decide +kernel
  | 3, _ => decide +kernel
theorem blsOf_map : ∀ bs : List Bool, blsOf (bs.map .bl) = some bs
  | [] => rfl
  | b :: bs => by simp [blsOf, blsOf_map bs]
theorem all_map {α : Type} (P : α → Bool) (l : List α) : dAll (.lst (l.map fun x => .bl (P x))) = some (.bl (l.all P)) := by
  show (blsOf (l.map fun x => .bl (P x))).map (fun bs => Dt.bl (bs.all id)) = _
  rw [show (l.map fun x => Dt.bl (P x)) = (l.map P).map Dt.bl by rw [List.map_map]; rfl, blsOf_map]
  simp
theorem any_map {α : Type} (P : α → Bool) (l : List α) : dAny (.lst (l.map fun x => .bl (P x))) = some (.bl (l.any P)) := by
  show (blsOf (l.map fun x => .bl (P x))).map (fun bs => Dt.bl (bs.any id)) = _
  rw [show (l.map fun x => Dt.bl (P x)) = (l.map P).map Dt.bl by rw [List.map_map]; rfl, blsOf_map]
  simp
theorem eq_nil_dat (l : List Int) (cs : List Cell) : eqC false (.dat (.lst (l.map .int))) (.dat (.lst [])) cs = some (.bl l.isEmpty) := by
  have h := ne_nil_dat l cs
  unfold eqC at h ⊢
  cases e : eqB (.dat (.lst (l.map .int))) (.dat (.lst [])) cs with
  | none => rw [e] at h; cases h
  | some b =>
    rw [e] at h
    simp at h
    simp [h]
theorem eq_nil_ones {α : Type} (l : List α) (cs : List Cell) : eqC false (.dat (.lst (l.map fun _ => .int 1))) (.dat (.lst [])) cs = some (.bl l.isEmpty) := by
  have h := eq_nil_dat (l.map fun _ => (1 : Int)) cs
  rw [List.map_map] at h
  rw [show (l.map fun _ => Dt.int 1) = l.map (Dt.int ∘ fun _ => 1) from rfl, h]
  simp
/-! any value -/
def pl0 : Dt → Bool
  | .str s => decide (s.length ≤ 16777216)
  | .obj _ _ => true
  | d => (tyN d).isSome
def pl1 : Dt → Bool
  | .tup l => l.all pl0
  | .obj _ _ => true
  | d => (tyN d).isSome
def sgB : Dt → Bool
  | .int s => decide (s = 1) || decide (s = -1)
  | _ => false
def letB : Dt → Bool
  | .str z => (decide (1 ≤ z.length) && decide (z.length ≤ 12)) && z.cps.toList.all inLet
  | _ => false
def isW : Dt → Bool
  | .tup [a, b] => sgB a && letB b
  | _ => false
theorem in_pm {s : Int} : dIn (.int s) (.tup [.int 1, .int (-1)]) = some (.bl (decide (s = 1) || decide (s = -1))) := by
  show some (Dt.bl ((1 == s) || ((-1 == s) || false))) = _
  congr 2
  rw [Bool.eq_iff_iff]
  simp
  omega
theorem notin_pm {s : Int} : dNotIn (.int s) (.lst [.int 1, .int (-1)]) = some (.bl (!(decide (s = 1) || decide (s = -1)))) := by
  show some (Dt.bl (!((1 == s) || ((-1 == s) || false)))) = _
  congr 3
  rw [Bool.eq_iff_iff]
  simp
  omega
theorem r_is_sign {a : Dt} {cs : List Cell} (h : pl0 a = true) : m_is_sign [.dat a] cs = .ok (.dat (.bl (sgB a))) cs := by
  cases a with
  | int s =>
    have q : m_is_number [.dat (.int s)] cs = .ok (.dat (.bl true)) cs := rfl
    refine fn_ev ?_
    simp (disch := (first | assumption | omega | (simp only [List.length_cons, List.length_nil, List.length_map, List.length_append, List.length_replicate] <;> omega))) only [rb_ok, rb_exc, rb_bad, rb_ite, m_ret, m_badE, m_opt, m_optn, m_ite, rO_some, rO_none, rW_some, rW_none, rO_map, rW_map, s_var0, s_varS, s_c, s_bin, k_bin, s_lift, s_un, s_liftU, s_eqc, k_eqc, k_eqc2, eq_ii, ne_ii, eq_ss, ne_ss, eq_bb, ne_bb, s_cmpE, s_asB, s_tru, k_tru, rT_some, tru_d, tru_c, dtru_bl, dtru_non, dtru_int, dtru_lst, dtru_tup, s_and, s_or, s_not, k_and, k_or, k_not, s_yes, m_and, m_or, s_eand, k_eand, k_eand2, s_eor, k_eor, k_eor2, s_enot, k_enot, k_enot2, s_if, k_if, m_iteD, m_iteI, m_iteB, m_iteAnd, m_iteOr, m_iteS, s_chain, k_ch, k_ch2, k_ch3, k_ch4, s_anil, s_acons, k_arg, k_arg2, s_tup, s_lst, k_tup, k_lst, rL_some, dats_nil, dats_cons, opt_map_some, opt_map_none, opt_or_some, opt_or_none, opt_bind_some, s_ix, k_ix, k_ix2, wix_dd, wix_cd, ix_t, ix_l, ix_s, cix_l, cix_d, ix_d, at_0, at_1, at_2, s_sl, k_sl, k_sl2, k_sl3, s_onone, s_osome, k_asI, sl_d, sl_c, sl_l, sl_t, cut_hi, cut_lo, cut_lh, s_fn, k_fn0, k_fn1, k_fn2, k_fn3, k_fn4, k_fn5, k_fn6, s_fnp, k_fnp1, k_fnp2, k_fnp2r, k_fnp3, s_call, k_call, s_o1, s_o2, len_d, len_c, len_l, len_t, len_scr, len_s, clen_l, int_i, int_b, min_i, max_i, sq_dl, sq_cl, csq_l, lof_t, lof_l, tof_t, tof_l, s_meth, k_meth, k_meth_str, ok_str, mt_str1, mt_join, d_I0, d_mod, d_div, d_pow, d_shr, d_neg, d_mulL, d_mulR, d_mulS, d_addI, d_addS, d_addL, d_addT, s_seq, k_seq_nx, k_seq_rt, k_seq_bk, k_seq_ct, s_nil, s_ret, k_ret, s_retn, s_brk, s_cnt, s_expr, k_expr, s_sif, k_sif, s_set, k_set, s_asg, k_asg, rE_some, t_name, t_tup, t_cons, t_nil, s_par, k_par, s_par3, k_par3, s_raise, s_put, k_put, k_put2, k_put3, k_put4, put_is, s_for, k_for, s_while, s_iseq, as_l, as_t, as_s, as_scr, s_rg1, s_rg2, k_rg1, k_rg2, s_enum, k_enum_l, k_enum_s, s_zip, k_zip_l, k_zip_t, k_zip_s, s_off, k_of, rD_some, dats_mapd, s_flc, k_lc, wipe_nil, wipe_cons, s_celf, k_celf, s_flst, k_flst, k_fin_rt, k_fin_nx, start_nil, start_cons, repl_0, repl_S, s_caught, s_frz, k_frzd, s_fld, k_fld, s_rgl1, k_rgl1, s_rgl2, k_rgl, k_rgl2, s_flc2, k_lc2, s_new, k_new2, dk_cat, dk_cat2, dk_cat3, dk_nil, dk_cons, dk_val, dk_val2, dk_dicC, dk_dicC2, dk_dic, dk_dic2, dk_rK, dk_dat, dk_datn, eq_nn, ne_nn, lo_l, lo_t, lo_s, dk_frz, dk_rF, dk_cfrz, dk_methc, dk_rLst, dk_app, dk_rApp, dk_ext, dk_rExt, dk_snoc, dk_last, dk_setl, dk_putF, dk_putF2, dk_putF3, dk_putF4, dk_rPF, dk_new, dk_newT, dk_cfrzI, List.set_cons_zero, List.set_cons_succ, List.getElem?_cons_zero, List.getElem?_cons_succ, List.length_cons, List.length_nil, ↓reduceIte, Nat.reduceAdd, decide_eq_true_eq, Bool.not_true, Bool.not_false, Bool.true_and, Bool.false_and, Bool.and_true, Bool.and_false, Bool.or_true, Bool.or_false, Bool.true_or, Bool.false_or, reduceCtorEq, decide_true, decide_false, Bool.false_eq_true, Int.reduceLT, Int.reduceLE, Int.reduceNeg, Int.reduceAdd, Int.reduceSub, Int.reduceMul, Nat.reduceMul, Nat.reduceLeDiff, Nat.zero_add, Bool.not_not, beq_self_eq_true, bne_self_eq_false, not_true_eq_false, not_false_eq_true, Bool.not_eq_true, Option.some.injEq, List.map_cons, List.map_nil, List.isEmpty_cons, List.isEmpty_nil, and_self, and_true, true_and, Int.toNat_natCast, Int.natCast_nonneg, Int.reduceToNat, Int.reduceEq, Int.reduceNe, Nat.reduceLT, Int.reduceBEq, Int.reduceBNe, Bool.not_eq_eq_eq_not, eq_self, if_true, if_false, ite_self, b_is_sign, start_cons, start_nil, repl_S, repl_0, q, in_pm]
    rfl
  | op v => cases h
  | scr v => cases h
  | exn v => cases h
  | _ => rfl
theorem r_is_whole {a : Dt} {cs : List Cell} (h : pl0 a = true) : m__law_is_whole [.dat a] cs = .ok (.dat (.bl (match a with | .int _ => true | _ => false))) cs := by
  cases a with
  | op v => cases h
  | scr v => cases h
  | exn v => cases h
  | _ => rfl
theorem str_len (z : Str) : z.cps.toList.length = z.length := by simp [Str.length]
theorem r_letB {b : Dt} {cs : List Cell} {e0 e2 : Option Wv} (h : pl0 b = true) : eAnd (eCall oIsi (aCons (eVar 1) (aCons (eC (.op (.ty "str"))) (aNil)))) (eAnd (eChain (dI0 fun i j => .bl (decide (i ≤ j))) (dI0 fun i j => .bl (decide (i ≤ j))) (eC (.int 1)) (eCall oLen (aCons (eVar 1) (aNil))) (eC (.int 12))) (eCall (o1 dAll) (aCons (eOfF (fLc (iSeq (eVar 1)) (tName 2) (tYesE) (ce_is_word_0) [2])) (aNil)))) [e0, some (.dat b), e2] cs = .ok (.dat (.bl (letB b))) cs := by
  cases b with
  | str z =>
    have hz : z.length ≤ 16777216 := of_decide_eq_true h
    have hi : oIsi [.dat (.str z), .dat (.op (.ty "str"))] cs = some (.bl true) := rfl
    have e1 : loopC (tName 2) tYesE ce_is_word_0 [e0, some (.dat (.str z)), none] (z.cps.toList.map fun c => .dat (.str ⟨#[c]⟩)) cs = .ok ((z.cps.toList.map fun c => Dt.bl (inLet c)).map Wv.dat) cs := by
      refine lc_map (fun c => .dat (.str ⟨#[c]⟩)) _ _ fun c _ => ⟨_, rfl, ?_⟩
      simp (disch := (first | assumption | omega | (simp only [List.length_cons, List.length_nil, List.length_map, List.length_append, List.length_replicate] <;> omega))) only [rb_ok, rb_exc, rb_bad, rb_ite, m_ret, m_badE, m_opt, m_optn, m_ite, rO_some, rO_none, rW_some, rW_none, rO_map, rW_map, s_var0, s_varS, s_c, s_bin, k_bin, s_lift, s_un, s_liftU, s_eqc, k_eqc, k_eqc2, eq_ii, ne_ii, eq_ss, ne_ss, eq_bb, ne_bb, s_cmpE, s_asB, s_tru, k_tru, rT_some, tru_d, tru_c, dtru_bl, dtru_non, dtru_int, dtru_lst, dtru_tup, s_and, s_or, s_not, k_and, k_or, k_not, s_yes, m_and, m_or, s_eand, k_eand, k_eand2, s_eor, k_eor, k_eor2, s_enot, k_enot, k_enot2, s_if, k_if, m_iteD, m_iteI, m_iteB, m_iteAnd, m_iteOr, m_iteS, s_chain, k_ch, k_ch2, k_ch3, k_ch4, s_anil, s_acons, k_arg, k_arg2, s_tup, s_lst, k_tup, k_lst, rL_some, dats_nil, dats_cons, opt_map_some, opt_map_none, opt_or_some, opt_or_none, opt_bind_some, s_ix, k_ix, k_ix2, wix_dd, wix_cd, ix_t, ix_l, ix_s, cix_l, cix_d, ix_d, at_0, at_1, at_2, s_sl, k_sl, k_sl2, k_sl3, s_onone, s_osome, k_asI, sl_d, sl_c, sl_l, sl_t, cut_hi, cut_lo, cut_lh, s_fn, k_fn0, k_fn1, k_fn2, k_fn3, k_fn4, k_fn5, k_fn6, s_fnp, k_fnp1, k_fnp2, k_fnp2r, k_fnp3, s_call, k_call, s_o1, s_o2, len_d, len_c, len_l, len_t, len_scr, len_s, clen_l, int_i, int_b, min_i, max_i, sq_dl, sq_cl, csq_l, lof_t, lof_l, tof_t, tof_l, s_meth, k_meth, k_meth_str, ok_str, mt_str1, mt_join, d_I0, d_mod, d_div, d_pow, d_shr, d_neg, d_mulL, d_mulR, d_mulS, d_addI, d_addS, d_addL, d_addT, s_seq, k_seq_nx, k_seq_rt, k_seq_bk, k_seq_ct, s_nil, s_ret, k_ret, s_retn, s_brk, s_cnt, s_expr, k_expr, s_sif, k_sif, s_set, k_set, s_asg, k_asg, rE_some, t_name, t_tup, t_cons, t_nil, s_par, k_par, s_par3, k_par3, s_raise, s_put, k_put, k_put2, k_put3, k_put4, put_is, s_for, k_for, s_while, s_iseq, as_l, as_t, as_s, as_scr, s_rg1, s_rg2, k_rg1, k_rg2, s_enum, k_enum_l, k_enum_s, s_zip, k_zip_l, k_zip_t, k_zip_s, s_off, k_of, rD_some, dats_mapd, s_flc, k_lc, wipe_nil, wipe_cons, s_celf, k_celf, s_flst, k_flst, k_fin_rt, k_fin_nx, start_nil, start_cons, repl_0, repl_S, s_caught, s_frz, k_frzd, s_fld, k_fld, s_rgl1, k_rgl1, s_rgl2, k_rgl, k_rgl2, s_flc2, k_lc2, s_new, k_new2, dk_cat, dk_cat2, dk_cat3, dk_nil, dk_cons, dk_val, dk_val2, dk_dicC, dk_dicC2, dk_dic, dk_dic2, dk_rK, dk_dat, dk_datn, eq_nn, ne_nn, lo_l, lo_t, lo_s, dk_frz, dk_rF, dk_cfrz, dk_methc, dk_rLst, dk_app, dk_rApp, dk_ext, dk_rExt, dk_snoc, dk_last, dk_setl, dk_putF, dk_putF2, dk_putF3, dk_putF4, dk_rPF, dk_new, dk_newT, dk_cfrzI, List.set_cons_zero, List.set_cons_succ, List.getElem?_cons_zero, List.getElem?_cons_succ, List.length_cons, List.length_nil, ↓reduceIte, Nat.reduceAdd, decide_eq_true_eq, Bool.not_true, Bool.not_false, Bool.true_and, Bool.false_and, Bool.and_true, Bool.and_false, Bool.or_true, Bool.or_false, Bool.true_or, Bool.false_or, reduceCtorEq, decide_true, decide_false, Bool.false_eq_true, Int.reduceLT, Int.reduceLE, Int.reduceNeg, Int.reduceAdd, Int.reduceSub, Int.reduceMul, Nat.reduceMul, Nat.reduceLeDiff, Nat.zero_add, Bool.not_not, beq_self_eq_true, bne_self_eq_false, not_true_eq_false, not_false_eq_true, Bool.not_eq_true, Option.some.injEq, List.map_cons, List.map_nil, List.isEmpty_cons, List.isEmpty_nil, and_self, and_true, true_and, Int.toNat_natCast, Int.natCast_nonneg, Int.reduceToNat, Int.reduceEq, Int.reduceNe, Nat.reduceLT, Int.reduceBEq, Int.reduceBNe, Bool.not_eq_eq_eq_not, eq_self, if_true, if_false, ite_self, ce_is_word_0, in_let]
    have hl := str_len z
    have hall := all_map inLet z.cps.toList
    by_cases h1 : (1 : Int) ≤ z.length
    · simp (disch := (first | assumption | omega | (simp only [List.length_cons, List.length_nil, List.length_map, List.length_append, List.length_replicate] <;> omega))) only [rb_ok, rb_exc, rb_bad, rb_ite, m_ret, m_badE, m_opt, m_optn, m_ite, rO_some, rO_none, rW_some, rW_none, rO_map, rW_map, s_var0, s_varS, s_c, s_bin, k_bin, s_lift, s_un, s_liftU, s_eqc, k_eqc, k_eqc2, eq_ii, ne_ii, eq_ss, ne_ss, eq_bb, ne_bb, s_cmpE, s_asB, s_tru, k_tru, rT_some, tru_d, tru_c, dtru_bl, dtru_non, dtru_int, dtru_lst, dtru_tup, s_and, s_or, s_not, k_and, k_or, k_not, s_yes, m_and, m_or, s_eand, k_eand, k_eand2, s_eor, k_eor, k_eor2, s_enot, k_enot, k_enot2, s_if, k_if, m_iteD, m_iteI, m_iteB, m_iteAnd, m_iteOr, m_iteS, s_chain, k_ch, k_ch2, k_ch3, k_ch4, s_anil, s_acons, k_arg, k_arg2, s_tup, s_lst, k_tup, k_lst, rL_some, dats_nil, dats_cons, opt_map_some, opt_map_none, opt_or_some, opt_or_none, opt_bind_some, s_ix, k_ix, k_ix2, wix_dd, wix_cd, ix_t, ix_l, ix_s, cix_l, cix_d, ix_d, at_0, at_1, at_2, s_sl, k_sl, k_sl2, k_sl3, s_onone, s_osome, k_asI, sl_d, sl_c, sl_l, sl_t, cut_hi, cut_lo, cut_lh, s_fn, k_fn0, k_fn1, k_fn2, k_fn3, k_fn4, k_fn5, k_fn6, s_fnp, k_fnp1, k_fnp2, k_fnp2r, k_fnp3, s_call, k_call, s_o1, s_o2, len_d, len_c, len_l, len_t, len_scr, len_s, clen_l, int_i, int_b, min_i, max_i, sq_dl, sq_cl, csq_l, lof_t, lof_l, tof_t, tof_l, s_meth, k_meth, k_meth_str, ok_str, mt_str1, mt_join, d_I0, d_mod, d_div, d_pow, d_shr, d_neg, d_mulL, d_mulR, d_mulS, d_addI, d_addS, d_addL, d_addT, s_seq, k_seq_nx, k_seq_rt, k_seq_bk, k_seq_ct, s_nil, s_ret, k_ret, s_retn, s_brk, s_cnt, s_expr, k_expr, s_sif, k_sif, s_set, k_set, s_asg, k_asg, rE_some, t_name, t_tup, t_cons, t_nil, s_par, k_par, s_par3, k_par3, s_raise, s_put, k_put, k_put2, k_put3, k_put4, put_is, s_for, k_for, s_while, s_iseq, as_l, as_t, as_s, as_scr, s_rg1, s_rg2, k_rg1, k_rg2, s_enum, k_enum_l, k_enum_s, s_zip, k_zip_l, k_zip_t, k_zip_s, s_off, k_of, rD_some, dats_mapd, s_flc, k_lc, wipe_nil, wipe_cons, s_celf, k_celf, s_flst, k_flst, k_fin_rt, k_fin_nx, start_nil, start_cons, repl_0, repl_S, s_caught, s_frz, k_frzd, s_fld, k_fld, s_rgl1, k_rgl1, s_rgl2, k_rgl, k_rgl2, s_flc2, k_lc2, s_new, k_new2, dk_cat, dk_cat2, dk_cat3, dk_nil, dk_cons, dk_val, dk_val2, dk_dicC, dk_dicC2, dk_dic, dk_dic2, dk_rK, dk_dat, dk_datn, eq_nn, ne_nn, lo_l, lo_t, lo_s, dk_frz, dk_rF, dk_cfrz, dk_methc, dk_rLst, dk_app, dk_rApp, dk_ext, dk_rExt, dk_snoc, dk_last, dk_setl, dk_putF, dk_putF2, dk_putF3, dk_putF4, dk_rPF, dk_new, dk_newT, dk_cfrzI, List.set_cons_zero, List.set_cons_succ, List.getElem?_cons_zero, List.getElem?_cons_succ, List.length_cons, List.length_nil, ↓reduceIte, Nat.reduceAdd, decide_eq_true_eq, Bool.not_true, Bool.not_false, Bool.true_and, Bool.false_and, Bool.and_true, Bool.and_false, Bool.or_true, Bool.or_false, Bool.true_or, Bool.false_or, reduceCtorEq, decide_true, decide_false, Bool.false_eq_true, Int.reduceLT, Int.reduceLE, Int.reduceNeg, Int.reduceAdd, Int.reduceSub, Int.reduceMul, Nat.reduceMul, Nat.reduceLeDiff, Nat.zero_add, Bool.not_not, beq_self_eq_true, bne_self_eq_false, not_true_eq_false, not_false_eq_true, Bool.not_eq_true, Option.some.injEq, List.map_cons, List.map_nil, List.isEmpty_cons, List.isEmpty_nil, and_self, and_true, true_and, Int.toNat_natCast, Int.natCast_nonneg, Int.reduceToNat, Int.reduceEq, Int.reduceNe, Nat.reduceLT, Int.reduceBEq, Int.reduceBNe, Bool.not_eq_eq_eq_not, eq_self, if_true, if_false, ite_self, hi, h1, signs_map, wipe_nil, wipe_cons, e1, dats_mapd, hall]
      by_cases h12 : z.length ≤ 12
      · simp [letB, show 1 ≤ z.length by omega, h12, show (z.length : Int) ≤ 12 by omega]
      · simp [letB, show 1 ≤ z.length by omega, h12, show ¬ (z.length : Int) ≤ 12 by omega]
    · simp (disch := (first | assumption | omega | (simp only [List.length_cons, List.length_nil, List.length_map, List.length_append, List.length_replicate] <;> omega))) only [rb_ok, rb_exc, rb_bad, rb_ite, m_ret, m_badE, m_opt, m_optn, m_ite, rO_some, rO_none, rW_some, rW_none, rO_map, rW_map, s_var0, s_varS, s_c, s_bin, k_bin, s_lift, s_un, s_liftU, s_eqc, k_eqc, k_eqc2, eq_ii, ne_ii, eq_ss, ne_ss, eq_bb, ne_bb, s_cmpE, s_asB, s_tru, k_tru, rT_some, tru_d, tru_c, dtru_bl, dtru_non, dtru_int, dtru_lst, dtru_tup, s_and, s_or, s_not, k_and, k_or, k_not, s_yes, m_and, m_or, s_eand, k_eand, k_eand2, s_eor, k_eor, k_eor2, s_enot, k_enot, k_enot2, s_if, k_if, m_iteD, m_iteI, m_iteB, m_iteAnd, m_iteOr, m_iteS, s_chain, k_ch, k_ch2, k_ch3, k_ch4, s_anil, s_acons, k_arg, k_arg2, s_tup, s_lst, k_tup, k_lst, rL_some, dats_nil, dats_cons, opt_map_some, opt_map_none, opt_or_some, opt_or_none, opt_bind_some, s_ix, k_ix, k_ix2, wix_dd, wix_cd, ix_t, ix_l, ix_s, cix_l, cix_d, ix_d, at_0, at_1, at_2, s_sl, k_sl, k_sl2, k_sl3, s_onone, s_osome, k_asI, sl_d, sl_c, sl_l, sl_t, cut_hi, cut_lo, cut_lh, s_fn, k_fn0, k_fn1, k_fn2, k_fn3, k_fn4, k_fn5, k_fn6, s_fnp, k_fnp1, k_fnp2, k_fnp2r, k_fnp3, s_call, k_call, s_o1, s_o2, len_d, len_c, len_l, len_t, len_scr, len_s, clen_l, int_i, int_b, min_i, max_i, sq_dl, sq_cl, csq_l, lof_t, lof_l, tof_t, tof_l, s_meth, k_meth, k_meth_str, ok_str, mt_str1, mt_join, d_I0, d_mod, d_div, d_pow, d_shr, d_neg, d_mulL, d_mulR, d_mulS, d_addI, d_addS, d_addL, d_addT, s_seq, k_seq_nx, k_seq_rt, k_seq_bk, k_seq_ct, s_nil, s_ret, k_ret, s_retn, s_brk, s_cnt, s_expr, k_expr, s_sif, k_sif, s_set, k_set, s_asg, k_asg, rE_some, t_name, t_tup, t_cons, t_nil, s_par, k_par, s_par3, k_par3, s_raise, s_put, k_put, k_put2, k_put3, k_put4, put_is, s_for, k_for, s_while, s_iseq, as_l, as_t, as_s, as_scr, s_rg1, s_rg2, k_rg1, k_rg2, s_enum, k_enum_l, k_enum_s, s_zip, k_zip_l, k_zip_t, k_zip_s, s_off, k_of, rD_some, dats_mapd, s_flc, k_lc, wipe_nil, wipe_cons, s_celf, k_celf, s_flst, k_flst, k_fin_rt, k_fin_nx, start_nil, start_cons, repl_0, repl_S, s_caught, s_frz, k_frzd, s_fld, k_fld, s_rgl1, k_rgl1, s_rgl2, k_rgl, k_rgl2, s_flc2, k_lc2, s_new, k_new2, dk_cat, dk_cat2, dk_cat3, dk_nil, dk_cons, dk_val, dk_val2, dk_dicC, dk_dicC2, dk_dic, dk_dic2, dk_rK, dk_dat, dk_datn, eq_nn, ne_nn, lo_l, lo_t, lo_s, dk_frz, dk_rF, dk_cfrz, dk_methc, dk_rLst, dk_app, dk_rApp, dk_ext, dk_rExt, dk_snoc, dk_last, dk_setl, dk_putF, dk_putF2, dk_putF3, dk_putF4, dk_rPF, dk_new, dk_newT, dk_cfrzI, List.set_cons_zero, List.set_cons_succ, List.getElem?_cons_zero, List.getElem?_cons_succ, List.length_cons, List.length_nil, ↓reduceIte, Nat.reduceAdd, decide_eq_true_eq, Bool.not_true, Bool.not_false, Bool.true_and, Bool.false_and, Bool.and_true, Bool.and_false, Bool.or_true, Bool.or_false, Bool.true_or, Bool.false_or, reduceCtorEq, decide_true, decide_false, Bool.false_eq_true, Int.reduceLT, Int.reduceLE, Int.reduceNeg, Int.reduceAdd, Int.reduceSub, Int.reduceMul, Nat.reduceMul, Nat.reduceLeDiff, Nat.zero_add, Bool.not_not, beq_self_eq_true, bne_self_eq_false, not_true_eq_false, not_false_eq_true, Bool.not_eq_true, Option.some.injEq, List.map_cons, List.map_nil, List.isEmpty_cons, List.isEmpty_nil, and_self, and_true, true_and, Int.toNat_natCast, Int.natCast_nonneg, Int.reduceToNat, Int.reduceEq, Int.reduceNe, Nat.reduceLT, Int.reduceBEq, Int.reduceBNe, Bool.not_eq_eq_eq_not, eq_self, if_true, if_false, ite_self, hi, h1]
      simp [letB, show ¬ 1 ≤ z.length by omega]
  | op v => cases h
  | scr v => cases h
  | exn v => cases h
  | _ => rfl
theorem is_word_any {x : Dt} {cs : List Cell} (h : pl1 x = true) : m_is_word [.dat x] cs = .ok (.dat (.bl (isW x))) cs := by
  cases x with
  | tup l =>
    have hi : oIsi [.dat (.tup l), .dat (.op (.ty "tuple"))] cs = some (.bl true) := rfl
    match l, h with
    | [], _ => rfl
    | [_], _ => rfl
    | [a, b], h =>
      have h2 : (pl0 a && (pl0 b && true)) = true := h
      simp only [Bool.and_eq_true, Bool.and_true] at h2
      have q1 := r_is_sign (cs := cs) h2.1
      have q2 := r_letB (cs := cs) (e0 := some (.dat (.tup [a, b]))) (e2 := none) h2.2
      have q3 : oIsi [.dat (.tup [a, b]), .dat (.op (.ty "tuple"))] cs = some (.bl true) := rfl
      refine fn_ev ?_
      cases hs : sgB a with
      | true =>
        rw [hs] at q1
        unfold b_is_word
        have e1 : sIf (tOr' (tNot' (tTru (eCall oIsi (aCons (eVar 0) (aCons (eC (.op (.ty "tuple"))) (aNil)))))) (tOr' (tCmpE (eEqC true (eCall oLen (aCons (eVar 0) (aNil))) (eC (.int 2)))) (tNot' (tTru (eFn 1 (m_is_sign) (aCons (eIx (eVar 0) (eC (.int 0))) (aNil))))))) (sRet (eC (.bl false))) (sNil) [some (.dat (.tup [a, b])), none, none] cs = .ok (.nx [some (.dat (.tup [a, b])), none, none]) cs := by
          simp (disch := (first | assumption | omega | (simp only [List.length_cons, List.length_nil, List.length_map, List.length_append, List.length_replicate] <;> omega))) only [rb_ok, rb_exc, rb_bad, rb_ite, m_ret, m_badE, m_opt, m_optn, m_ite, rO_some, rO_none, rW_some, rW_none, rO_map, rW_map, s_var0, s_varS, s_c, s_bin, k_bin, s_lift, s_un, s_liftU, s_eqc, k_eqc, k_eqc2, eq_ii, ne_ii, eq_ss, ne_ss, eq_bb, ne_bb, s_cmpE, s_asB, s_tru, k_tru, rT_some, tru_d, tru_c, dtru_bl, dtru_non, dtru_int, dtru_lst, dtru_tup, s_and, s_or, s_not, k_and, k_or, k_not, s_yes, m_and, m_or, s_eand, k_eand, k_eand2, s_eor, k_eor, k_eor2, s_enot, k_enot, k_enot2, s_if, k_if, m_iteD, m_iteI, m_iteB, m_iteAnd, m_iteOr, m_iteS, s_chain, k_ch, k_ch2, k_ch3, k_ch4, s_anil, s_acons, k_arg, k_arg2, s_tup, s_lst, k_tup, k_lst, rL_some, dats_nil, dats_cons, opt_map_some, opt_map_none, opt_or_some, opt_or_none, opt_bind_some, s_ix, k_ix, k_ix2, wix_dd, wix_cd, ix_t, ix_l, ix_s, cix_l, cix_d, ix_d, at_0, at_1, at_2, s_sl, k_sl, k_sl2, k_sl3, s_onone, s_osome, k_asI, sl_d, sl_c, sl_l, sl_t, cut_hi, cut_lo, cut_lh, s_fn, k_fn0, k_fn1, k_fn2, k_fn3, k_fn4, k_fn5, k_fn6, s_fnp, k_fnp1, k_fnp2, k_fnp2r, k_fnp3, s_call, k_call, s_o1, s_o2, len_d, len_c, len_l, len_t, len_scr, len_s, clen_l, int_i, int_b, min_i, max_i, sq_dl, sq_cl, csq_l, lof_t, lof_l, tof_t, tof_l, s_meth, k_meth, k_meth_str, ok_str, mt_str1, mt_join, d_I0, d_mod, d_div, d_pow, d_shr, d_neg, d_mulL, d_mulR, d_mulS, d_addI, d_addS, d_addL, d_addT, s_seq, k_seq_nx, k_seq_rt, k_seq_bk, k_seq_ct, s_nil, s_ret, k_ret, s_retn, s_brk, s_cnt, s_expr, k_expr, s_sif, k_sif, s_set, k_set, s_asg, k_asg, rE_some, t_name, t_tup, t_cons, t_nil, s_par, k_par, s_par3, k_par3, s_raise, s_put, k_put, k_put2, k_put3, k_put4, put_is, s_for, k_for, s_while, s_iseq, as_l, as_t, as_s, as_scr, s_rg1, s_rg2, k_rg1, k_rg2, s_enum, k_enum_l, k_enum_s, s_zip, k_zip_l, k_zip_t, k_zip_s, s_off, k_of, rD_some, dats_mapd, s_flc, k_lc, wipe_nil, wipe_cons, s_celf, k_celf, s_flst, k_flst, k_fin_rt, k_fin_nx, start_nil, start_cons, repl_0, repl_S, s_caught, s_frz, k_frzd, s_fld, k_fld, s_rgl1, k_rgl1, s_rgl2, k_rgl, k_rgl2, s_flc2, k_lc2, s_new, k_new2, dk_cat, dk_cat2, dk_cat3, dk_nil, dk_cons, dk_val, dk_val2, dk_dicC, dk_dicC2, dk_dic, dk_dic2, dk_rK, dk_dat, dk_datn, eq_nn, ne_nn, lo_l, lo_t, lo_s, dk_frz, dk_rF, dk_cfrz, dk_methc, dk_rLst, dk_app, dk_rApp, dk_ext, dk_rExt, dk_snoc, dk_last, dk_setl, dk_putF, dk_putF2, dk_putF3, dk_putF4, dk_rPF, dk_new, dk_newT, dk_cfrzI, List.set_cons_zero, List.set_cons_succ, List.getElem?_cons_zero, List.getElem?_cons_succ, List.length_cons, List.length_nil, ↓reduceIte, Nat.reduceAdd, decide_eq_true_eq, Bool.not_true, Bool.not_false, Bool.true_and, Bool.false_and, Bool.and_true, Bool.and_false, Bool.or_true, Bool.or_false, Bool.true_or, Bool.false_or, reduceCtorEq, decide_true, decide_false, Bool.false_eq_true, Int.reduceLT, Int.reduceLE, Int.reduceNeg, Int.reduceAdd, Int.reduceSub, Int.reduceMul, Nat.reduceMul, Nat.reduceLeDiff, Nat.zero_add, Bool.not_not, beq_self_eq_true, bne_self_eq_false, not_true_eq_false, not_false_eq_true, Bool.not_eq_true, Option.some.injEq, List.map_cons, List.map_nil, List.isEmpty_cons, List.isEmpty_nil, and_self, and_true, true_and, Int.toNat_natCast, Int.natCast_nonneg, Int.reduceToNat, Int.reduceEq, Int.reduceNe, Nat.reduceLT, Int.reduceBEq, Int.reduceBNe, Bool.not_eq_eq_eq_not, eq_self, if_true, if_false, ite_self, q3, q1]
          rfl
        show rb (sSeq _ _ [some (.dat (.tup [a, b])), none, none] cs) fin = _
        rw [s_seq, e1]
        simp only [rb_ok, k_seq_nx, s_seq]
        rw [show sSet 1 (eIx (eVar 0) (eC (.int 1))) [some (.dat (.tup [a, b])), none, none] cs = .ok (.nx [some (.dat (.tup [a, b])), some (.dat b), none]) cs from rfl]
        simp only [rb_ok, k_seq_nx, s_ret]
        rw [q2]
        show R.ok (Wv.dat (Dt.bl (letB b))) cs = R.ok (Wv.dat (Dt.bl (sgB a && letB b))) cs
        rw [hs]
        rfl
      | false =>
        rw [hs] at q1
        simp (disch := (first | assumption | omega | (simp only [List.length_cons, List.length_nil, List.length_map, List.length_append, List.length_replicate] <;> omega))) only [rb_ok, rb_exc, rb_bad, rb_ite, m_ret, m_badE, m_opt, m_optn, m_ite, rO_some, rO_none, rW_some, rW_none, rO_map, rW_map, s_var0, s_varS, s_c, s_bin, k_bin, s_lift, s_un, s_liftU, s_eqc, k_eqc, k_eqc2, eq_ii, ne_ii, eq_ss, ne_ss, eq_bb, ne_bb, s_cmpE, s_asB, s_tru, k_tru, rT_some, tru_d, tru_c, dtru_bl, dtru_non, dtru_int, dtru_lst, dtru_tup, s_and, s_or, s_not, k_and, k_or, k_not, s_yes, m_and, m_or, s_eand, k_eand, k_eand2, s_eor, k_eor, k_eor2, s_enot, k_enot, k_enot2, s_if, k_if, m_iteD, m_iteI, m_iteB, m_iteAnd, m_iteOr, m_iteS, s_chain, k_ch, k_ch2, k_ch3, k_ch4, s_anil, s_acons, k_arg, k_arg2, s_tup, s_lst, k_tup, k_lst, rL_some, dats_nil, dats_cons, opt_map_some, opt_map_none, opt_or_some, opt_or_none, opt_bind_some, s_ix, k_ix, k_ix2, wix_dd, wix_cd, ix_t, ix_l, ix_s, cix_l, cix_d, ix_d, at_0, at_1, at_2, s_sl, k_sl, k_sl2, k_sl3, s_onone, s_osome, k_asI, sl_d, sl_c, sl_l, sl_t, cut_hi, cut_lo, cut_lh, s_fn, k_fn0, k_fn1, k_fn2, k_fn3, k_fn4, k_fn5, k_fn6, s_fnp, k_fnp1, k_fnp2, k_fnp2r, k_fnp3, s_call, k_call, s_o1, s_o2, len_d, len_c, len_l, len_t, len_scr, len_s, clen_l, int_i, int_b, min_i, max_i, sq_dl, sq_cl, csq_l, lof_t, lof_l, tof_t, tof_l, s_meth, k_meth, k_meth_str, ok_str, mt_str1, mt_join, d_I0, d_mod, d_div, d_pow, d_shr, d_neg, d_mulL, d_mulR, d_mulS, d_addI, d_addS, d_addL, d_addT, s_seq, k_seq_nx, k_seq_rt, k_seq_bk, k_seq_ct, s_nil, s_ret, k_ret, s_retn, s_brk, s_cnt, s_expr, k_expr, s_sif, k_sif, s_set, k_set, s_asg, k_asg, rE_some, t_name, t_tup, t_cons, t_nil, s_par, k_par, s_par3, k_par3, s_raise, s_put, k_put, k_put2, k_put3, k_put4, put_is, s_for, k_for, s_while, s_iseq, as_l, as_t, as_s, as_scr, s_rg1, s_rg2, k_rg1, k_rg2, s_enum, k_enum_l, k_enum_s, s_zip, k_zip_l, k_zip_t, k_zip_s, s_off, k_of, rD_some, dats_mapd, s_flc, k_lc, wipe_nil, wipe_cons, s_celf, k_celf, s_flst, k_flst, k_fin_rt, k_fin_nx, start_nil, start_cons, repl_0, repl_S, s_caught, s_frz, k_frzd, s_fld, k_fld, s_rgl1, k_rgl1, s_rgl2, k_rgl, k_rgl2, s_flc2, k_lc2, s_new, k_new2, dk_cat, dk_cat2, dk_cat3, dk_nil, dk_cons, dk_val, dk_val2, dk_dicC, dk_dicC2, dk_dic, dk_dic2, dk_rK, dk_dat, dk_datn, eq_nn, ne_nn, lo_l, lo_t, lo_s, dk_frz, dk_rF, dk_cfrz, dk_methc, dk_rLst, dk_app, dk_rApp, dk_ext, dk_rExt, dk_snoc, dk_last, dk_setl, dk_putF, dk_putF2, dk_putF3, dk_putF4, dk_rPF, dk_new, dk_newT, dk_cfrzI, List.set_cons_zero, List.set_cons_succ, List.getElem?_cons_zero, List.getElem?_cons_succ, List.length_cons, List.length_nil, ↓reduceIte, Nat.reduceAdd, decide_eq_true_eq, Bool.not_true, Bool.not_false, Bool.true_and, Bool.false_and, Bool.and_true, Bool.and_false, Bool.or_true, Bool.or_false, Bool.true_or, Bool.false_or, reduceCtorEq, decide_true, decide_false, Bool.false_eq_true, Int.reduceLT, Int.reduceLE, Int.reduceNeg, Int.reduceAdd, Int.reduceSub, Int.reduceMul, Nat.reduceMul, Nat.reduceLeDiff, Nat.zero_add, Bool.not_not, beq_self_eq_true, bne_self_eq_false, not_true_eq_false, not_false_eq_true, Bool.not_eq_true, Option.some.injEq, List.map_cons, List.map_nil, List.isEmpty_cons, List.isEmpty_nil, and_self, and_true, true_and, Int.toNat_natCast, Int.natCast_nonneg, Int.reduceToNat, Int.reduceEq, Int.reduceNe, Nat.reduceLT, Int.reduceBEq, Int.reduceBNe, Bool.not_eq_eq_eq_not, eq_self, if_true, if_false, ite_self, b_is_word, start_cons, start_nil, repl_S, repl_0, q3, q1]
        show _ = R.ok (Wv.dat (Dt.bl (sgB a && letB b))) cs
        rw [hs]
        rfl
    | a :: b :: c :: r, _ =>
      have q3 : oIsi [.dat (.tup (a :: b :: c :: r)), .dat (.op (.ty "tuple"))] cs = some (.bl true) := rfl
      have q4 : ¬ (((r.length + 1 + 1 + 1 : Nat) : Int) = 2) := by omega
      refine fn_ev ?_
      simp (disch := (first | assumption | omega | (simp only [List.length_cons, List.length_nil, List.length_map, List.length_append, List.length_replicate] <;> omega))) only [rb_ok, rb_exc, rb_bad, rb_ite, m_ret, m_badE, m_opt, m_optn, m_ite, rO_some, rO_none, rW_some, rW_none, rO_map, rW_map, s_var0, s_varS, s_c, s_bin, k_bin, s_lift, s_un, s_liftU, s_eqc, k_eqc, k_eqc2, eq_ii, ne_ii, eq_ss, ne_ss, eq_bb, ne_bb, s_cmpE, s_asB, s_tru, k_tru, rT_some, tru_d, tru_c, dtru_bl, dtru_non, dtru_int, dtru_lst, dtru_tup, s_and, s_or, s_not, k_and, k_or, k_not, s_yes, m_and, m_or, s_eand, k_eand, k_eand2, s_eor, k_eor, k_eor2, s_enot, k_enot, k_enot2, s_if, k_if, m_iteD, m_iteI, m_iteB, m_iteAnd, m_iteOr, m_iteS, s_chain, k_ch, k_ch2, k_ch3, k_ch4, s_anil, s_acons, k_arg, k_arg2, s_tup, s_lst, k_tup, k_lst, rL_some, dats_nil, dats_cons, opt_map_some, opt_map_none, opt_or_some, opt_or_none, opt_bind_some, s_ix, k_ix, k_ix2, wix_dd, wix_cd, ix_t, ix_l, ix_s, cix_l, cix_d, ix_d, at_0, at_1, at_2, s_sl, k_sl, k_sl2, k_sl3, s_onone, s_osome, k_asI, sl_d, sl_c, sl_l, sl_t, cut_hi, cut_lo, cut_lh, s_fn, k_fn0, k_fn1, k_fn2, k_fn3, k_fn4, k_fn5, k_fn6, s_fnp, k_fnp1, k_fnp2, k_fnp2r, k_fnp3, s_call, k_call, s_o1, s_o2, len_d, len_c, len_l, len_t, len_scr, len_s, clen_l, int_i, int_b, min_i, max_i, sq_dl, sq_cl, csq_l, lof_t, lof_l, tof_t, tof_l, s_meth, k_meth, k_meth_str, ok_str, mt_str1, mt_join, d_I0, d_mod, d_div, d_pow, d_shr, d_neg, d_mulL, d_mulR, d_mulS, d_addI, d_addS, d_addL, d_addT, s_seq, k_seq_nx, k_seq_rt, k_seq_bk, k_seq_ct, s_nil, s_ret, k_ret, s_retn, s_brk, s_cnt, s_expr, k_expr, s_sif, k_sif, s_set, k_set, s_asg, k_asg, rE_some, t_name, t_tup, t_cons, t_nil, s_par, k_par, s_par3, k_par3, s_raise, s_put, k_put, k_put2, k_put3, k_put4, put_is, s_for, k_for, s_while, s_iseq, as_l, as_t, as_s, as_scr, s_rg1, s_rg2, k_rg1, k_rg2, s_enum, k_enum_l, k_enum_s, s_zip, k_zip_l, k_zip_t, k_zip_s, s_off, k_of, rD_some, dats_mapd, s_flc, k_lc, wipe_nil, wipe_cons, s_celf, k_celf, s_flst, k_flst, k_fin_rt, k_fin_nx, start_nil, start_cons, repl_0, repl_S, s_caught, s_frz, k_frzd, s_fld, k_fld, s_rgl1, k_rgl1, s_rgl2, k_rgl, k_rgl2, s_flc2, k_lc2, s_new, k_new2, dk_cat, dk_cat2, dk_cat3, dk_nil, dk_cons, dk_val, dk_val2, dk_dicC, dk_dicC2, dk_dic, dk_dic2, dk_rK, dk_dat, dk_datn, eq_nn, ne_nn, lo_l, lo_t, lo_s, dk_frz, dk_rF, dk_cfrz, dk_methc, dk_rLst, dk_app, dk_rApp, dk_ext, dk_rExt, dk_snoc, dk_last, dk_setl, dk_putF, dk_putF2, dk_putF3, dk_putF4, dk_rPF, dk_new, dk_newT, dk_cfrzI, List.set_cons_zero, List.set_cons_succ, List.getElem?_cons_zero, List.getElem?_cons_succ, List.length_cons, List.length_nil, ↓reduceIte, Nat.reduceAdd, decide_eq_true_eq, Bool.not_true, Bool.not_false, Bool.true_and, Bool.false_and, Bool.and_true, Bool.and_false, Bool.or_true, Bool.or_false, Bool.true_or, Bool.false_or, reduceCtorEq, decide_true, decide_false, Bool.false_eq_true, Int.reduceLT, Int.reduceLE, Int.reduceNeg, Int.reduceAdd, Int.reduceSub, Int.reduceMul, Nat.reduceMul, Nat.reduceLeDiff, Nat.zero_add, Bool.not_not, beq_self_eq_true, bne_self_eq_false, not_true_eq_false, not_false_eq_true, Bool.not_eq_true, Option.some.injEq, List.map_cons, List.map_nil, List.isEmpty_cons, List.isEmpty_nil, and_self, and_true, true_and, Int.toNat_natCast, Int.natCast_nonneg, Int.reduceToNat, Int.reduceEq, Int.reduceNe, Nat.reduceLT, Int.reduceBEq, Int.reduceBNe, Bool.not_eq_eq_eq_not, eq_self, if_true, if_false, ite_self, b_is_word, start_cons, start_nil, repl_S, repl_0, q3, q4]
      rfl
  | op v => cases h
  | scr v => cases h
  | exn v => cases h
  | _ => rfl
theorem filt_all (f : Nat → Bool) : ∀ l : List Nat, (l.filter fun c => !f c).isEmpty = l.all f
  | [] => rfl
  | x :: l => by
    have ih := filt_all f l
    cases h : f x
    · simp [List.filter_cons, h]
    · simp [List.filter_cons, h, ih]
theorem w_filter {z : Str} {e0 : Option Wv} {cs : List Cell} : loopC (tName 1) ci__law_is_word_0 ce__law_is_word_0 [e0, none] (z.cps.toList.map fun c => .dat (.str ⟨#[c]⟩)) cs = .ok (((z.cps.toList.filter fun c => !inLet c).map fun _ => Dt.int 1).map Wv.dat) cs := by
  refine lc_filter (fun c => .dat (.str ⟨#[c]⟩)) (fun _ => .int 1) (fun c => !inLet c) _ fun c _ => ⟨_, rfl, ?_, fun _ => rfl⟩
  simp (disch := (first | assumption | omega | (simp only [List.length_cons, List.length_nil, List.length_map, List.length_append, List.length_replicate] <;> omega))) only [rb_ok, rb_exc, rb_bad, rb_ite, m_ret, m_badE, m_opt, m_optn, m_ite, rO_some, rO_none, rW_some, rW_none, rO_map, rW_map, s_var0, s_varS, s_c, s_bin, k_bin, s_lift, s_un, s_liftU, s_eqc, k_eqc, k_eqc2, eq_ii, ne_ii, eq_ss, ne_ss, eq_bb, ne_bb, s_cmpE, s_asB, s_tru, k_tru, rT_some, tru_d, tru_c, dtru_bl, dtru_non, dtru_int, dtru_lst, dtru_tup, s_and, s_or, s_not, k_and, k_or, k_not, s_yes, m_and, m_or, s_eand, k_eand, k_eand2, s_eor, k_eor, k_eor2, s_enot, k_enot, k_enot2, s_if, k_if, m_iteD, m_iteI, m_iteB, m_iteAnd, m_iteOr, m_iteS, s_chain, k_ch, k_ch2, k_ch3, k_ch4, s_anil, s_acons, k_arg, k_arg2, s_tup, s_lst, k_tup, k_lst, rL_some, dats_nil, dats_cons, opt_map_some, opt_map_none, opt_or_some, opt_or_none, opt_bind_some, s_ix, k_ix, k_ix2, wix_dd, wix_cd, ix_t, ix_l, ix_s, cix_l, cix_d, ix_d, at_0, at_1, at_2, s_sl, k_sl, k_sl2, k_sl3, s_onone, s_osome, k_asI, sl_d, sl_c, sl_l, sl_t, cut_hi, cut_lo, cut_lh, s_fn, k_fn0, k_fn1, k_fn2, k_fn3, k_fn4, k_fn5, k_fn6, s_fnp, k_fnp1, k_fnp2, k_fnp2r, k_fnp3, s_call, k_call, s_o1, s_o2, len_d, len_c, len_l, len_t, len_scr, len_s, clen_l, int_i, int_b, min_i, max_i, sq_dl, sq_cl, csq_l, lof_t, lof_l, tof_t, tof_l, s_meth, k_meth, k_meth_str, ok_str, mt_str1, mt_join, d_I0, d_mod, d_div, d_pow, d_shr, d_neg, d_mulL, d_mulR, d_mulS, d_addI, d_addS, d_addL, d_addT, s_seq, k_seq_nx, k_seq_rt, k_seq_bk, k_seq_ct, s_nil, s_ret, k_ret, s_retn, s_brk, s_cnt, s_expr, k_expr, s_sif, k_sif, s_set, k_set, s_asg, k_asg, rE_some, t_name, t_tup, t_cons, t_nil, s_par, k_par, s_par3, k_par3, s_raise, s_put, k_put, k_put2, k_put3, k_put4, put_is, s_for, k_for, s_while, s_iseq, as_l, as_t, as_s, as_scr, s_rg1, s_rg2, k_rg1, k_rg2, s_enum, k_enum_l, k_enum_s, s_zip, k_zip_l, k_zip_t, k_zip_s, s_off, k_of, rD_some, dats_mapd, s_flc, k_lc, wipe_nil, wipe_cons, s_celf, k_celf, s_flst, k_flst, k_fin_rt, k_fin_nx, start_nil, start_cons, repl_0, repl_S, s_caught, s_frz, k_frzd, s_fld, k_fld, s_rgl1, k_rgl1, s_rgl2, k_rgl, k_rgl2, s_flc2, k_lc2, s_new, k_new2, dk_cat, dk_cat2, dk_cat3, dk_nil, dk_cons, dk_val, dk_val2, dk_dicC, dk_dicC2, dk_dic, dk_dic2, dk_rK, dk_dat, dk_datn, eq_nn, ne_nn, lo_l, lo_t, lo_s, dk_frz, dk_rF, dk_cfrz, dk_methc, dk_rLst, dk_app, dk_rApp, dk_ext, dk_rExt, dk_snoc, dk_last, dk_setl, dk_putF, dk_putF2, dk_putF3, dk_putF4, dk_rPF, dk_new, dk_newT, dk_cfrzI, List.set_cons_zero, List.set_cons_succ, List.getElem?_cons_zero, List.getElem?_cons_succ, List.length_cons, List.length_nil, ↓reduceIte, Nat.reduceAdd, decide_eq_true_eq, Bool.not_true, Bool.not_false, Bool.true_and, Bool.false_and, Bool.and_true, Bool.and_false, Bool.or_true, Bool.or_false, Bool.true_or, Bool.false_or, reduceCtorEq, decide_true, decide_false, Bool.false_eq_true, Int.reduceLT, Int.reduceLE, Int.reduceNeg, Int.reduceAdd, Int.reduceSub, Int.reduceMul, Nat.reduceMul, Nat.reduceLeDiff, Nat.zero_add, Bool.not_not, beq_self_eq_true, bne_self_eq_false, not_true_eq_false, not_false_eq_true, Bool.not_eq_true, Option.some.injEq, List.map_cons, List.map_nil, List.isEmpty_cons, List.isEmpty_nil, and_self, and_true, true_and, Int.toNat_natCast, Int.natCast_nonneg, Int.reduceToNat, Int.reduceEq, Int.reduceNe, Nat.reduceLT, Int.reduceBEq, Int.reduceBNe, Bool.not_eq_eq_eq_not, eq_self, if_true, if_false, ite_self, ci__law_is_word_0, notin_let]
theorem law_is_word_any {x : Dt} {cs : List Cell} (h : pl1 x = true) : m__law_is_word [.dat x] cs = .ok (.dat (.bl (isW x))) cs := by
  cases x with
  | tup l =>
    match l, h with
    | [], _ => rfl
    | [_], _ => rfl
    | [a, b], h =>
      have h2 : (pl0 a && (pl0 b && true)) = true := h
      simp only [Bool.and_eq_true, Bool.and_true] at h2
      have q1 := r_is_whole (cs := cs) h2.1
      have q3 : oIsi [.dat (.tup [a, b]), .dat (.op (.ty "tuple"))] cs = some (.bl true) := rfl
      refine fn_ev ?_
      show _ = R.ok (Wv.dat (Dt.bl (sgB a && letB b))) cs
      cases a with
      | int s =>
        dsimp only at q1
        cases hs : (decide (s = 1) || decide (s = -1)) with
        | false =>
          have q5 := notin_pm (s := s)
          rw [hs] at q5
          simp (disch := (first | assumption | omega | (simp only [List.length_cons, List.length_nil, List.length_map, List.length_append, List.length_replicate] <;> omega))) only [rb_ok, rb_exc, rb_bad, rb_ite, m_ret, m_badE, m_opt, m_optn, m_ite, rO_some, rO_none, rW_some, rW_none, rO_map, rW_map, s_var0, s_varS, s_c, s_bin, k_bin, s_lift, s_un, s_liftU, s_eqc, k_eqc, k_eqc2, eq_ii, ne_ii, eq_ss, ne_ss, eq_bb, ne_bb, s_cmpE, s_asB, s_tru, k_tru, rT_some, tru_d, tru_c, dtru_bl, dtru_non, dtru_int, dtru_lst, dtru_tup, s_and, s_or, s_not, k_and, k_or, k_not, s_yes, m_and, m_or, s_eand, k_eand, k_eand2, s_eor, k_eor, k_eor2, s_enot, k_enot, k_enot2, s_if, k_if, m_iteD, m_iteI, m_iteB, m_iteAnd, m_iteOr, m_iteS, s_chain, k_ch, k_ch2, k_ch3, k_ch4, s_anil, s_acons, k_arg, k_arg2, s_tup, s_lst, k_tup, k_lst, rL_some, dats_nil, dats_cons, opt_map_some, opt_map_none, opt_or_some, opt_or_none, opt_bind_some, s_ix, k_ix, k_ix2, wix_dd, wix_cd, ix_t, ix_l, ix_s, cix_l, cix_d, ix_d, at_0, at_1, at_2, s_sl, k_sl, k_sl2, k_sl3, s_onone, s_osome, k_asI, sl_d, sl_c, sl_l, sl_t, cut_hi, cut_lo, cut_lh, s_fn, k_fn0, k_fn1, k_fn2, k_fn3, k_fn4, k_fn5, k_fn6, s_fnp, k_fnp1, k_fnp2, k_fnp2r, k_fnp3, s_call, k_call, s_o1, s_o2, len_d, len_c, len_l, len_t, len_scr, len_s, clen_l, int_i, int_b, min_i, max_i, sq_dl, sq_cl, csq_l, lof_t, lof_l, tof_t, tof_l, s_meth, k_meth, k_meth_str, ok_str, mt_str1, mt_join, d_I0, d_mod, d_div, d_pow, d_shr, d_neg, d_mulL, d_mulR, d_mulS, d_addI, d_addS, d_addL, d_addT, s_seq, k_seq_nx, k_seq_rt, k_seq_bk, k_seq_ct, s_nil, s_ret, k_ret, s_retn, s_brk, s_cnt, s_expr, k_expr, s_sif, k_sif, s_set, k_set, s_asg, k_asg, rE_some, t_name, t_tup, t_cons, t_nil, s_par, k_par, s_par3, k_par3, s_raise, s_put, k_put, k_put2, k_put3, k_put4, put_is, s_for, k_for, s_while, s_iseq, as_l, as_t, as_s, as_scr, s_rg1, s_rg2, k_rg1, k_rg2, s_enum, k_enum_l, k_enum_s, s_zip, k_zip_l, k_zip_t, k_zip_s, s_off, k_of, rD_some, dats_mapd, s_flc, k_lc, wipe_nil, wipe_cons, s_celf, k_celf, s_flst, k_flst, k_fin_rt, k_fin_nx, start_nil, start_cons, repl_0, repl_S, s_caught, s_frz, k_frzd, s_fld, k_fld, s_rgl1, k_rgl1, s_rgl2, k_rgl, k_rgl2, s_flc2, k_lc2, s_new, k_new2, dk_cat, dk_cat2, dk_cat3, dk_nil, dk_cons, dk_val, dk_val2, dk_dicC, dk_dicC2, dk_dic, dk_dic2, dk_rK, dk_dat, dk_datn, eq_nn, ne_nn, lo_l, lo_t, lo_s, dk_frz, dk_rF, dk_cfrz, dk_methc, dk_rLst, dk_app, dk_rApp, dk_ext, dk_rExt, dk_snoc, dk_last, dk_setl, dk_putF, dk_putF2, dk_putF3, dk_putF4, dk_rPF, dk_new, dk_newT, dk_cfrzI, List.set_cons_zero, List.set_cons_succ, List.getElem?_cons_zero, List.getElem?_cons_succ, List.length_cons, List.length_nil, ↓reduceIte, Nat.reduceAdd, decide_eq_true_eq, Bool.not_true, Bool.not_false, Bool.true_and, Bool.false_and, Bool.and_true, Bool.and_false, Bool.or_true, Bool.or_false, Bool.true_or, Bool.false_or, reduceCtorEq, decide_true, decide_false, Bool.false_eq_true, Int.reduceLT, Int.reduceLE, Int.reduceNeg, Int.reduceAdd, Int.reduceSub, Int.reduceMul, Nat.reduceMul, Nat.reduceLeDiff, Nat.zero_add, Bool.not_not, beq_self_eq_true, bne_self_eq_false, not_true_eq_false, not_false_eq_true, Bool.not_eq_true, Option.some.injEq, List.map_cons, List.map_nil, List.isEmpty_cons, List.isEmpty_nil, and_self, and_true, true_and, Int.toNat_natCast, Int.natCast_nonneg, Int.reduceToNat, Int.reduceEq, Int.reduceNe, Nat.reduceLT, Int.reduceBEq, Int.reduceBNe, Bool.not_eq_eq_eq_not, eq_self, if_true, if_false, ite_self, b__law_is_word, start_cons, start_nil, repl_S, repl_0, q3, q1, q5]
          simp [sgB, hs]
        | true =>
          have q5 := notin_pm (s := s)
          rw [hs] at q5
          have hsg : sgB (.int s) = true := hs
          rw [hsg]
          cases b with
          | str z =>
            have hz : z.length ≤ 16777216 := of_decide_eq_true h2.2
            have hi : oIsi [.dat (.str z), .dat (.op (.ty "str"))] cs = some (.bl true) := rfl
            have hl := str_len z
            have hn := eq_nil_ones (z.cps.toList.filter fun c => !inLet c) cs
            rw [filt_all] at hn
            have wf := w_filter (z := z) (e0 := some (.dat (.tup [.int s, .str z]))) (cs := cs)
            by_cases h1 : (1 : Int) ≤ z.length
            · by_cases h12 : (z.length : Int) ≤ 12
              · simp (disch := (first | assumption | omega | (simp only [List.length_cons, List.length_nil, List.length_map, List.length_append, List.length_replicate] <;> omega))) only [rb_ok, rb_exc, rb_bad, rb_ite, m_ret, m_badE, m_opt, m_optn, m_ite, rO_some, rO_none, rW_some, rW_none, rO_map, rW_map, s_var0, s_varS, s_c, s_bin, k_bin, s_lift, s_un, s_liftU, s_eqc, k_eqc, k_eqc2, eq_ii, ne_ii, eq_ss, ne_ss, eq_bb, ne_bb, s_cmpE, s_asB, s_tru, k_tru, rT_some, tru_d, tru_c, dtru_bl, dtru_non, dtru_int, dtru_lst, dtru_tup, s_and, s_or, s_not, k_and, k_or, k_not, s_yes, m_and, m_or, s_eand, k_eand, k_eand2, s_eor, k_eor, k_eor2, s_enot, k_enot, k_enot2, s_if, k_if, m_iteD, m_iteI, m_iteB, m_iteAnd, m_iteOr, m_iteS, s_chain, k_ch, k_ch2, k_ch3, k_ch4, s_anil, s_acons, k_arg, k_arg2, s_tup, s_lst, k_tup, k_lst, rL_some, dats_nil, dats_cons, opt_map_some, opt_map_none, opt_or_some, opt_or_none, opt_bind_some, s_ix, k_ix, k_ix2, wix_dd, wix_cd, ix_t, ix_l, ix_s, cix_l, cix_d, ix_d, at_0, at_1, at_2, s_sl, k_sl, k_sl2, k_sl3, s_onone, s_osome, k_asI, sl_d, sl_c, sl_l, sl_t, cut_hi, cut_lo, cut_lh, s_fn, k_fn0, k_fn1, k_fn2, k_fn3, k_fn4, k_fn5, k_fn6, s_fnp, k_fnp1, k_fnp2, k_fnp2r, k_fnp3, s_call, k_call, s_o1, s_o2, len_d, len_c, len_l, len_t, len_scr, len_s, clen_l, int_i, int_b, min_i, max_i, sq_dl, sq_cl, csq_l, lof_t, lof_l, tof_t, tof_l, s_meth, k_meth, k_meth_str, ok_str, mt_str1, mt_join, d_I0, d_mod, d_div, d_pow, d_shr, d_neg, d_mulL, d_mulR, d_mulS, d_addI, d_addS, d_addL, d_addT, s_seq, k_seq_nx, k_seq_rt, k_seq_bk, k_seq_ct, s_nil, s_ret, k_ret, s_retn, s_brk, s_cnt, s_expr, k_expr, s_sif, k_sif, s_set, k_set, s_asg, k_asg, rE_some, t_name, t_tup, t_cons, t_nil, s_par, k_par, s_par3, k_par3, s_raise, s_put, k_put, k_put2, k_put3, k_put4, put_is, s_for, k_for, s_while, s_iseq, as_l, as_t, as_s, as_scr, s_rg1, s_rg2, k_rg1, k_rg2, s_enum, k_enum_l, k_enum_s, s_zip, k_zip_l, k_zip_t, k_zip_s, s_off, k_of, rD_some, dats_mapd, s_flc, k_lc, wipe_nil, wipe_cons, s_celf, k_celf, s_flst, k_flst, k_fin_rt, k_fin_nx, start_nil, start_cons, repl_0, repl_S, s_caught, s_frz, k_frzd, s_fld, k_fld, s_rgl1, k_rgl1, s_rgl2, k_rgl, k_rgl2, s_flc2, k_lc2, s_new, k_new2, dk_cat, dk_cat2, dk_cat3, dk_nil, dk_cons, dk_val, dk_val2, dk_dicC, dk_dicC2, dk_dic, dk_dic2, dk_rK, dk_dat, dk_datn, eq_nn, ne_nn, lo_l, lo_t, lo_s, dk_frz, dk_rF, dk_cfrz, dk_methc, dk_rLst, dk_app, dk_rApp, dk_ext, dk_rExt, dk_snoc, dk_last, dk_setl, dk_putF, dk_putF2, dk_putF3, dk_putF4, dk_rPF, dk_new, dk_newT, dk_cfrzI, List.set_cons_zero, List.set_cons_succ, List.getElem?_cons_zero, List.getElem?_cons_succ, List.length_cons, List.length_nil, ↓reduceIte, Nat.reduceAdd, decide_eq_true_eq, Bool.not_true, Bool.not_false, Bool.true_and, Bool.false_and, Bool.and_true, Bool.and_false, Bool.or_true, Bool.or_false, Bool.true_or, Bool.false_or, reduceCtorEq, decide_true, decide_false, Bool.false_eq_true, Int.reduceLT, Int.reduceLE, Int.reduceNeg, Int.reduceAdd, Int.reduceSub, Int.reduceMul, Nat.reduceMul, Nat.reduceLeDiff, Nat.zero_add, Bool.not_not, beq_self_eq_true, bne_self_eq_false, not_true_eq_false, not_false_eq_true, Bool.not_eq_true, Option.some.injEq, List.map_cons, List.map_nil, List.isEmpty_cons, List.isEmpty_nil, and_self, and_true, true_and, Int.toNat_natCast, Int.natCast_nonneg, Int.reduceToNat, Int.reduceEq, Int.reduceNe, Nat.reduceLT, Int.reduceBEq, Int.reduceBNe, Bool.not_eq_eq_eq_not, eq_self, if_true, if_false, ite_self, b__law_is_word, start_cons, start_nil, repl_S, repl_0, q3, q1, q5, hi, h1, h12, signs_map, wipe_nil, wipe_cons, wf, dats_mapd, hn]
                simp [letB, show 1 ≤ z.length by omega, show z.length ≤ 12 by omega]
              · simp (disch := (first | assumption | omega | (simp only [List.length_cons, List.length_nil, List.length_map, List.length_append, List.length_replicate] <;> omega))) only [rb_ok, rb_exc, rb_bad, rb_ite, m_ret, m_badE, m_opt, m_optn, m_ite, rO_some, rO_none, rW_some, rW_none, rO_map, rW_map, s_var0, s_varS, s_c, s_bin, k_bin, s_lift, s_un, s_liftU, s_eqc, k_eqc, k_eqc2, eq_ii, ne_ii, eq_ss, ne_ss, eq_bb, ne_bb, s_cmpE, s_asB, s_tru, k_tru, rT_some, tru_d, tru_c, dtru_bl, dtru_non, dtru_int, dtru_lst, dtru_tup, s_and, s_or, s_not, k_and, k_or, k_not, s_yes, m_and, m_or, s_eand, k_eand, k_eand2, s_eor, k_eor, k_eor2, s_enot, k_enot, k_enot2, s_if, k_if, m_iteD, m_iteI, m_iteB, m_iteAnd, m_iteOr, m_iteS, s_chain, k_ch, k_ch2, k_ch3, k_ch4, s_anil, s_acons, k_arg, k_arg2, s_tup, s_lst, k_tup, k_lst, rL_some, dats_nil, dats_cons, opt_map_some, opt_map_none, opt_or_some, opt_or_none, opt_bind_some, s_ix, k_ix, k_ix2, wix_dd, wix_cd, ix_t, ix_l, ix_s, cix_l, cix_d, ix_d, at_0, at_1, at_2, s_sl, k_sl, k_sl2, k_sl3, s_onone, s_osome, k_asI, sl_d, sl_c, sl_l, sl_t, cut_hi, cut_lo, cut_lh, s_fn, k_fn0, k_fn1, k_fn2, k_fn3, k_fn4, k_fn5, k_fn6, s_fnp, k_fnp1, k_fnp2, k_fnp2r, k_fnp3, s_call, k_call, s_o1, s_o2, len_d, len_c, len_l, len_t, len_scr, len_s, clen_l, int_i, int_b, min_i, max_i, sq_dl, sq_cl, csq_l, lof_t, lof_l, tof_t, tof_l, s_meth, k_meth, k_meth_str, ok_str, mt_str1, mt_join, d_I0, d_mod, d_div, d_pow, d_shr, d_neg, d_mulL, d_mulR, d_mulS, d_addI, d_addS, d_addL, d_addT, s_seq, k_seq_nx, k_seq_rt, k_seq_bk, k_seq_ct, s_nil, s_ret, k_ret, s_retn, s_brk, s_cnt, s_expr, k_expr, s_sif, k_sif, s_set, k_set, s_asg, k_asg, rE_some, t_name, t_tup, t_cons, t_nil, s_par, k_par, s_par3, k_par3, s_raise, s_put, k_put, k_put2, k_put3, k_put4, put_is, s_for, k_for, s_while, s_iseq, as_l, as_t, as_s, as_scr, s_rg1, s_rg2, k_rg1, k_rg2, s_enum, k_enum_l, k_enum_s, s_zip, k_zip_l, k_zip_t, k_zip_s, s_off, k_of, rD_some, dats_mapd, s_flc, k_lc, wipe_nil, wipe_cons, s_celf, k_celf, s_flst, k_flst, k_fin_rt, k_fin_nx, start_nil, start_cons, repl_0, repl_S, s_caught, s_frz, k_frzd, s_fld, k_fld, s_rgl1, k_rgl1, s_rgl2, k_rgl, k_rgl2, s_flc2, k_lc2, s_new, k_new2, dk_cat, dk_cat2, dk_cat3, dk_nil, dk_cons, dk_val, dk_val2, dk_dicC, dk_dicC2, dk_dic, dk_dic2, dk_rK, dk_dat, dk_datn, eq_nn, ne_nn, lo_l, lo_t, lo_s, dk_frz, dk_rF, dk_cfrz, dk_methc, dk_rLst, dk_app, dk_rApp, dk_ext, dk_rExt, dk_snoc, dk_last, dk_setl, dk_putF, dk_putF2, dk_putF3, dk_putF4, dk_rPF, dk_new, dk_newT, dk_cfrzI, List.set_cons_zero, List.set_cons_succ, List.getElem?_cons_zero, List.getElem?_cons_succ, List.length_cons, List.length_nil, ↓reduceIte, Nat.reduceAdd, decide_eq_true_eq, Bool.not_true, Bool.not_false, Bool.true_and, Bool.false_and, Bool.and_true, Bool.and_false, Bool.or_true, Bool.or_false, Bool.true_or, Bool.false_or, reduceCtorEq, decide_true, decide_false, Bool.false_eq_true, Int.reduceLT, Int.reduceLE, Int.reduceNeg, Int.reduceAdd, Int.reduceSub, Int.reduceMul, Nat.reduceMul, Nat.reduceLeDiff, Nat.zero_add, Bool.not_not, beq_self_eq_true, bne_self_eq_false, not_true_eq_false, not_false_eq_true, Bool.not_eq_true, Option.some.injEq, List.map_cons, List.map_nil, List.isEmpty_cons, List.isEmpty_nil, and_self, and_true, true_and, Int.toNat_natCast, Int.natCast_nonneg, Int.reduceToNat, Int.reduceEq, Int.reduceNe, Nat.reduceLT, Int.reduceBEq, Int.reduceBNe, Bool.not_eq_eq_eq_not, eq_self, if_true, if_false, ite_self, b__law_is_word, start_cons, start_nil, repl_S, repl_0, q3, q1, q5, hi, h1, h12]
                simp [letB, show ¬ z.length ≤ 12 by omega]
            · simp (disch := (first | assumption | omega | (simp only [List.length_cons, List.length_nil, List.length_map, List.length_append, List.length_replicate] <;> omega))) only [rb_ok, rb_exc, rb_bad, rb_ite, m_ret, m_badE, m_opt, m_optn, m_ite, rO_some, rO_none, rW_some, rW_none, rO_map, rW_map, s_var0, s_varS, s_c, s_bin, k_bin, s_lift, s_un, s_liftU, s_eqc, k_eqc, k_eqc2, eq_ii, ne_ii, eq_ss, ne_ss, eq_bb, ne_bb, s_cmpE, s_asB, s_tru, k_tru, rT_some, tru_d, tru_c, dtru_bl, dtru_non, dtru_int, dtru_lst, dtru_tup, s_and, s_or, s_not, k_and, k_or, k_not, s_yes, m_and, m_or, s_eand, k_eand, k_eand2, s_eor, k_eor, k_eor2, s_enot, k_enot, k_enot2, s_if, k_if, m_iteD, m_iteI, m_iteB, m_iteAnd, m_iteOr, m_iteS, s_chain, k_ch, k_ch2, k_ch3, k_ch4, s_anil, s_acons, k_arg, k_arg2, s_tup, s_lst, k_tup, k_lst, rL_some, dats_nil, dats_cons, opt_map_some, opt_map_none, opt_or_some, opt_or_none, opt_bind_some, s_ix, k_ix, k_ix2, wix_dd, wix_cd, ix_t, ix_l, ix_s, cix_l, cix_d, ix_d, at_0, at_1, at_2, s_sl, k_sl, k_sl2, k_sl3, s_onone, s_osome, k_asI, sl_d, sl_c, sl_l, sl_t, cut_hi, cut_lo, cut_lh, s_fn, k_fn0, k_fn1, k_fn2, k_fn3, k_fn4, k_fn5, k_fn6, s_fnp, k_fnp1, k_fnp2, k_fnp2r, k_fnp3, s_call, k_call, s_o1, s_o2, len_d, len_c, len_l, len_t, len_scr, len_s, clen_l, int_i, int_b, min_i, max_i, sq_dl, sq_cl, csq_l, lof_t, lof_l, tof_t, tof_l, s_meth, k_meth, k_meth_str, ok_str, mt_str1, mt_join, d_I0, d_mod, d_div, d_pow, d_shr, d_neg, d_mulL, d_mulR, d_mulS, d_addI, d_addS, d_addL, d_addT, s_seq, k_seq_nx, k_seq_rt, k_seq_bk, k_seq_ct, s_nil, s_ret, k_ret, s_retn, s_brk, s_cnt, s_expr, k_expr, s_sif, k_sif, s_set, k_set, s_asg, k_asg, rE_some, t_name, t_tup, t_cons, t_nil, s_par, k_par, s_par3, k_par3, s_raise, s_put, k_put, k_put2, k_put3, k_put4, put_is, s_for, k_for, s_while, s_iseq, as_l, as_t, as_s, as_scr, s_rg1, s_rg2, k_rg1, k_rg2, s_enum, k_enum_l, k_enum_s, s_zip, k_zip_l, k_zip_t, k_zip_s, s_off, k_of, rD_some, dats_mapd, s_flc, k_lc, wipe_nil, wipe_cons, s_celf, k_celf, s_flst, k_flst, k_fin_rt, k_fin_nx, start_nil, start_cons, repl_0, repl_S, s_caught, s_frz, k_frzd, s_fld, k_fld, s_rgl1, k_rgl1, s_rgl2, k_rgl, k_rgl2, s_flc2, k_lc2, s_new, k_new2, dk_cat, dk_cat2, dk_cat3, dk_nil, dk_cons, dk_val, dk_val2, dk_dicC, dk_dicC2, dk_dic, dk_dic2, dk_rK, dk_dat, dk_datn, eq_nn, ne_nn, lo_l, lo_t, lo_s, dk_frz, dk_rF, dk_cfrz, dk_methc, dk_rLst, dk_app, dk_rApp, dk_ext, dk_rExt, dk_snoc, dk_last, dk_setl, dk_putF, dk_putF2, dk_putF3, dk_putF4, dk_rPF, dk_new, dk_newT, dk_cfrzI, List.set_cons_zero, List.set_cons_succ, List.getElem?_cons_zero, List.getElem?_cons_succ, List.length_cons, List.length_nil, ↓reduceIte, Nat.reduceAdd, decide_eq_true_eq, Bool.not_true, Bool.not_false, Bool.true_and, Bool.false_and, Bool.and_true, Bool.and_false, Bool.or_true, Bool.or_false, Bool.true_or, Bool.false_or, reduceCtorEq, decide_true, decide_false, Bool.false_eq_true, Int.reduceLT, Int.reduceLE, Int.reduceNeg, Int.reduceAdd, Int.reduceSub, Int.reduceMul, Nat.reduceMul, Nat.reduceLeDiff, Nat.zero_add, Bool.not_not, beq_self_eq_true, bne_self_eq_false, not_true_eq_false, not_false_eq_true, Bool.not_eq_true, Option.some.injEq, List.map_cons, List.map_nil, List.isEmpty_cons, List.isEmpty_nil, and_self, and_true, true_and, Int.toNat_natCast, Int.natCast_nonneg, Int.reduceToNat, Int.reduceEq, Int.reduceNe, Nat.reduceLT, Int.reduceBEq, Int.reduceBNe, Bool.not_eq_eq_eq_not, eq_self, if_true, if_false, ite_self, b__law_is_word, start_cons, start_nil, repl_S, repl_0, q3, q1, q5, hi, h1]
              simp [letB, show ¬ 1 ≤ z.length by omega]
          | op v => cases h2.2
          | scr v => cases h2.2
          | exn v => cases h2.2
          | _ =>
            simp (disch := (first | assumption | omega | (simp only [List.length_cons, List.length_nil, List.length_map, List.length_append, List.length_replicate] <;> omega))) only [rb_ok, rb_exc, rb_bad, rb_ite, m_ret, m_badE, m_opt, m_optn, m_ite, rO_some, rO_none, rW_some, rW_none, rO_map, rW_map, s_var0, s_varS, s_c, s_bin, k_bin, s_lift, s_un, s_liftU, s_eqc, k_eqc, k_eqc2, eq_ii, ne_ii, eq_ss, ne_ss, eq_bb, ne_bb, s_cmpE, s_asB, s_tru, k_tru, rT_some, tru_d, tru_c, dtru_bl, dtru_non, dtru_int, dtru_lst, dtru_tup, s_and, s_or, s_not, k_and, k_or, k_not, s_yes, m_and, m_or, s_eand, k_eand, k_eand2, s_eor, k_eor, k_eor2, s_enot, k_enot, k_enot2, s_if, k_if, m_iteD, m_iteI, m_iteB, m_iteAnd, m_iteOr, m_iteS, s_chain, k_ch, k_ch2, k_ch3, k_ch4, s_anil, s_acons, k_arg, k_arg2, s_tup, s_lst, k_tup, k_lst, rL_some, dats_nil, dats_cons, opt_map_some, opt_map_none, opt_or_some, opt_or_none, opt_bind_some, s_ix, k_ix, k_ix2, wix_dd, wix_cd, ix_t, ix_l, ix_s, cix_l, cix_d, ix_d, at_0, at_1, at_2, s_sl, k_sl, k_sl2, k_sl3, s_onone, s_osome, k_asI, sl_d, sl_c, sl_l, sl_t, cut_hi, cut_lo, cut_lh, s_fn, k_fn0, k_fn1, k_fn2, k_fn3, k_fn4, k_fn5, k_fn6, s_fnp, k_fnp1, k_fnp2, k_fnp2r, k_fnp3, s_call, k_call, s_o1, s_o2, len_d, len_c, len_l, len_t, len_scr, len_s, clen_l, int_i, int_b, min_i, max_i, sq_dl, sq_cl, csq_l, lof_t, lof_l, tof_t, tof_l, s_meth, k_meth, k_meth_str, ok_str, mt_str1, mt_join, d_I0, d_mod, d_div, d_pow, d_shr, d_neg, d_mulL, d_mulR, d_mulS, d_addI, d_addS, d_addL, d_addT, s_seq, k_seq_nx, k_seq_rt, k_seq_bk, k_seq_ct, s_nil, s_ret, k_ret, s_retn, s_brk, s_cnt, s_expr, k_expr, s_sif, k_sif, s_set, k_set, s_asg, k_asg, rE_some, t_name, t_tup, t_cons, t_nil, s_par, k_par, s_par3, k_par3, s_raise, s_put, k_put, k_put2, k_put3, k_put4, put_is, s_for, k_for, s_while, s_iseq, as_l, as_t, as_s, as_scr, s_rg1, s_rg2, k_rg1, k_rg2, s_enum, k_enum_l, k_enum_s, s_zip, k_zip_l, k_zip_t, k_zip_s, s_off, k_of, rD_some, dats_mapd, s_flc, k_lc, wipe_nil, wipe_cons, s_celf, k_celf, s_flst, k_flst, k_fin_rt, k_fin_nx, start_nil, start_cons, repl_0, repl_S, s_caught, s_frz, k_frzd, s_fld, k_fld, s_rgl1, k_rgl1, s_rgl2, k_rgl, k_rgl2, s_flc2, k_lc2, s_new, k_new2, dk_cat, dk_cat2, dk_cat3, dk_nil, dk_cons, dk_val, dk_val2, dk_dicC, dk_dicC2, dk_dic, dk_dic2, dk_rK, dk_dat, dk_datn, eq_nn, ne_nn, lo_l, lo_t, lo_s, dk_frz, dk_rF, dk_cfrz, dk_methc, dk_rLst, dk_app, dk_rApp, dk_ext, dk_rExt, dk_snoc, dk_last, dk_setl, dk_putF, dk_putF2, dk_putF3, dk_putF4, dk_rPF, dk_new, dk_newT, dk_cfrzI, List.set_cons_zero, List.set_cons_succ, List.getElem?_cons_zero, List.getElem?_cons_succ, List.length_cons, List.length_nil, ↓reduceIte, Nat.reduceAdd, decide_eq_true_eq, Bool.not_true, Bool.not_false, Bool.true_and, Bool.false_and, Bool.and_true, Bool.and_false, Bool.or_true, Bool.or_false, Bool.true_or, Bool.false_or, reduceCtorEq, decide_true, decide_false, Bool.false_eq_true, Int.reduceLT, Int.reduceLE, Int.reduceNeg, Int.reduceAdd, Int.reduceSub, Int.reduceMul, Nat.reduceMul, Nat.reduceLeDiff, Nat.zero_add, Bool.not_not, beq_self_eq_true, bne_self_eq_false, not_true_eq_false, not_false_eq_true, Bool.not_eq_true, Option.some.injEq, List.map_cons, List.map_nil, List.isEmpty_cons, List.isEmpty_nil, and_self, and_true, true_and, Int.toNat_natCast, Int.natCast_nonneg, Int.reduceToNat, Int.reduceEq, Int.reduceNe, Nat.reduceLT, Int.reduceBEq, Int.reduceBNe, Bool.not_eq_eq_eq_not, eq_self, if_true, if_false, ite_self, b__law_is_word, start_cons, start_nil, repl_S, repl_0, q3, q1, q5]
            rfl
      | op v => cases h2.1
      | scr v => cases h2.1
      | exn v => cases h2.1
      | _ =>
        dsimp only at q1
        simp (disch := (first | assumption | omega | (simp only [List.length_cons, List.length_nil, List.length_map, List.length_append, List.length_replicate] <;> omega))) only [rb_ok, rb_exc, rb_bad, rb_ite, m_ret, m_badE, m_opt, m_optn, m_ite, rO_some, rO_none, rW_some, rW_none, rO_map, rW_map, s_var0, s_varS, s_c, s_bin, k_bin, s_lift, s_un, s_liftU, s_eqc, k_eqc, k_eqc2, eq_ii, ne_ii, eq_ss, ne_ss, eq_bb, ne_bb, s_cmpE, s_asB, s_tru, k_tru, rT_some, tru_d, tru_c, dtru_bl, dtru_non, dtru_int, dtru_lst, dtru_tup, s_and, s_or, s_not, k_and, k_or, k_not, s_yes, m_and, m_or, s_eand, k_eand, k_eand2, s_eor, k_eor, k_eor2, s_enot, k_enot, k_enot2, s_if, k_if, m_iteD, m_iteI, m_iteB, m_iteAnd, m_iteOr, m_iteS, s_chain, k_ch, k_ch2, k_ch3, k_ch4, s_anil, s_acons, k_arg, k_arg2, s_tup, s_lst, k_tup, k_lst, rL_some, dats_nil, dats_cons, opt_map_some, opt_map_none, opt_or_some, opt_or_none, opt_bind_some, s_ix, k_ix, k_ix2, wix_dd, wix_cd, ix_t, ix_l, ix_s, cix_l, cix_d, ix_d, at_0, at_1, at_2, s_sl, k_sl, k_sl2, k_sl3, s_onone, s_osome, k_asI, sl_d, sl_c, sl_l, sl_t, cut_hi, cut_lo, cut_lh, s_fn, k_fn0, k_fn1, k_fn2, k_fn3, k_fn4, k_fn5, k_fn6, s_fnp, k_fnp1, k_fnp2, k_fnp2r, k_fnp3, s_call, k_call, s_o1, s_o2, len_d, len_c, len_l, len_t, len_scr, len_s, clen_l, int_i, int_b, min_i, max_i, sq_dl, sq_cl, csq_l, lof_t, lof_l, tof_t, tof_l, s_meth, k_meth, k_meth_str, ok_str, mt_str1, mt_join, d_I0, d_mod, d_div, d_pow, d_shr, d_neg, d_mulL, d_mulR, d_mulS, d_addI, d_addS, d_addL, d_addT, s_seq, k_seq_nx, k_seq_rt, k_seq_bk, k_seq_ct, s_nil, s_ret, k_ret, s_retn, s_brk, s_cnt, s_expr, k_expr, s_sif, k_sif, s_set, k_set, s_asg, k_asg, rE_some, t_name, t_tup, t_cons, t_nil, s_par, k_par, s_par3, k_par3, s_raise, s_put, k_put, k_put2, k_put3, k_put4, put_is, s_for, k_for, s_while, s_iseq, as_l, as_t, as_s, as_scr, s_rg1, s_rg2, k_rg1, k_rg2, s_enum, k_enum_l, k_enum_s, s_zip, k_zip_l, k_zip_t, k_zip_s, s_off, k_of, rD_some, dats_mapd, s_flc, k_lc, wipe_nil, wipe_cons, s_celf, k_celf, s_flst, k_flst, k_fin_rt, k_fin_nx, start_nil, start_cons, repl_0, repl_S, s_caught, s_frz, k_frzd, s_fld, k_fld, s_rgl1, k_rgl1, s_rgl2, k_rgl, k_rgl2, s_flc2, k_lc2, s_new, k_new2, dk_cat, dk_cat2, dk_cat3, dk_nil, dk_cons, dk_val, dk_val2, dk_dicC, dk_dicC2, dk_dic, dk_dic2, dk_rK, dk_dat, dk_datn, eq_nn, ne_nn, lo_l, lo_t, lo_s, dk_frz, dk_rF, dk_cfrz, dk_methc, dk_rLst, dk_app, dk_rApp, dk_ext, dk_rExt, dk_snoc, dk_last, dk_setl, dk_putF, dk_putF2, dk_putF3, dk_putF4, dk_rPF, dk_new, dk_newT, dk_cfrzI, List.set_cons_zero, List.set_cons_succ, List.getElem?_cons_zero, List.getElem?_cons_succ, List.length_cons, List.length_nil, ↓reduceIte, Nat.reduceAdd, decide_eq_true_eq, Bool.not_true, Bool.not_false, Bool.true_and, Bool.false_and, Bool.and_true, Bool.and_false, Bool.or_true, Bool.or_false, Bool.true_or, Bool.false_or, reduceCtorEq, decide_true, decide_false, Bool.false_eq_true, Int.reduceLT, Int.reduceLE, Int.reduceNeg, Int.reduceAdd, Int.reduceSub, Int.reduceMul, Nat.reduceMul, Nat.reduceLeDiff, Nat.zero_add, Bool.not_not, beq_self_eq_true, bne_self_eq_false, not_true_eq_false, not_false_eq_true, Bool.not_eq_true, Option.some.injEq, List.map_cons, List.map_nil, List.isEmpty_cons, List.isEmpty_nil, and_self, and_true, true_and, Int.toNat_natCast, Int.natCast_nonneg, Int.reduceToNat, Int.reduceEq, Int.reduceNe, Nat.reduceLT, Int.reduceBEq, Int.reduceBNe, Bool.not_eq_eq_eq_not, eq_self, if_true, if_false, ite_self, b__law_is_word, start_cons, start_nil, repl_S, repl_0, q3, q1]
        rfl
    | a :: b :: c :: r, _ =>
      have q3 : oIsi [.dat (.tup (a :: b :: c :: r)), .dat (.op (.ty "tuple"))] cs = some (.bl true) := rfl
      have q4 : ¬ (((r.length + 1 + 1 + 1 : Nat) : Int) = 2) := by omega
      refine fn_ev ?_
      simp (disch := (first | assumption | omega | (simp only [List.length_cons, List.length_nil, List.length_map, List.length_append, List.length_replicate] <;> omega))) only [rb_ok, rb_exc, rb_bad, rb_ite, m_ret, m_badE, m_opt, m_optn, m_ite, rO_some, rO_none, rW_some, rW_none, rO_map, rW_map, s_var0, s_varS, s_c, s_bin, k_bin, s_lift, s_un, s_liftU, s_eqc, k_eqc, k_eqc2, eq_ii, ne_ii, eq_ss, ne_ss, eq_bb, ne_bb, s_cmpE, s_asB, s_tru, k_tru, rT_some, tru_d, tru_c, dtru_bl, dtru_non, dtru_int, dtru_lst, dtru_tup, s_and, s_or, s_not, k_and, k_or, k_not, s_yes, m_and, m_or, s_eand, k_eand, k_eand2, s_eor, k_eor, k_eor2, s_enot, k_enot, k_enot2, s_if, k_if, m_iteD, m_iteI, m_iteB, m_iteAnd, m_iteOr, m_iteS, s_chain, k_ch, k_ch2, k_ch3, k_ch4, s_anil, s_acons, k_arg, k_arg2, s_tup, s_lst, k_tup, k_lst, rL_some, dats_nil, dats_cons, opt_map_some, opt_map_none, opt_or_some, opt_or_none, opt_bind_some, s_ix, k_ix, k_ix2, wix_dd, wix_cd, ix_t, ix_l, ix_s, cix_l, cix_d, ix_d, at_0, at_1, at_2, s_sl, k_sl, k_sl2, k_sl3, s_onone, s_osome, k_asI, sl_d, sl_c, sl_l, sl_t, cut_hi, cut_lo, cut_lh, s_fn, k_fn0, k_fn1, k_fn2, k_fn3, k_fn4, k_fn5, k_fn6, s_fnp, k_fnp1, k_fnp2, k_fnp2r, k_fnp3, s_call, k_call, s_o1, s_o2, len_d, len_c, len_l, len_t, len_scr, len_s, clen_l, int_i, int_b, min_i, max_i, sq_dl, sq_cl, csq_l, lof_t, lof_l, tof_t, tof_l, s_meth, k_meth, k_meth_str, ok_str, mt_str1, mt_join, d_I0, d_mod, d_div, d_pow, d_shr, d_neg, d_mulL, d_mulR, d_mulS, d_addI, d_addS, d_addL, d_addT, s_seq, k_seq_nx, k_seq_rt, k_seq_bk, k_seq_ct, s_nil, s_ret, k_ret, s_retn, s_brk, s_cnt, s_expr, k_expr, s_sif, k_sif, s_set, k_set, s_asg, k_asg, rE_some, t_name, t_tup, t_cons, t_nil, s_par, k_par, s_par3, k_par3, s_raise, s_put, k_put, k_put2, k_put3, k_put4, put_is, s_for, k_for, s_while, s_iseq, as_l, as_t, as_s, as_scr, s_rg1, s_rg2, k_rg1, k_rg2, s_enum, k_enum_l, k_enum_s, s_zip, k_zip_l, k_zip_t, k_zip_s, s_off, k_of, rD_some, dats_mapd, s_flc, k_lc, wipe_nil, wipe_cons, s_celf, k_celf, s_flst, k_flst, k_fin_rt, k_fin_nx, start_nil, start_cons, repl_0, repl_S, s_caught, s_frz, k_frzd, s_fld, k_fld, s_rgl1, k_rgl1, s_rgl2, k_rgl, k_rgl2, s_flc2, k_lc2, s_new, k_new2, dk_cat, dk_cat2, dk_cat3, dk_nil, dk_cons, dk_val, dk_val2, dk_dicC, dk_dicC2, dk_dic, dk_dic2, dk_rK, dk_dat, dk_datn, eq_nn, ne_nn, lo_l, lo_t, lo_s, dk_frz, dk_rF, dk_cfrz, dk_methc, dk_rLst, dk_app, dk_rApp, dk_ext, dk_rExt, dk_snoc, dk_last, dk_setl, dk_putF, dk_putF2, dk_putF3, dk_putF4, dk_rPF, dk_new, dk_newT, dk_cfrzI, List.set_cons_zero, List.set_cons_succ, List.getElem?_cons_zero, List.getElem?_cons_succ, List.length_cons, List.length_nil, ↓reduceIte, Nat.reduceAdd, decide_eq_true_eq, Bool.not_true, Bool.not_false, Bool.true_and, Bool.false_and, Bool.and_true, Bool.and_false, Bool.or_true, Bool.or_false, Bool.true_or, Bool.false_or, reduceCtorEq, decide_true, decide_false, Bool.false_eq_true, Int.reduceLT, Int.reduceLE, Int.reduceNeg, Int.reduceAdd, Int.reduceSub, Int.reduceMul, Nat.reduceMul, Nat.reduceLeDiff, Nat.zero_add, Bool.not_not, beq_self_eq_true, bne_self_eq_false, not_true_eq_false, not_false_eq_true, Bool.not_eq_true, Option.some.injEq, List.map_cons, List.map_nil, List.isEmpty_cons, List.isEmpty_nil, and_self, and_true, true_and, Int.toNat_natCast, Int.natCast_nonneg, Int.reduceToNat, Int.reduceEq, Int.reduceNe, Nat.reduceLT, Int.reduceBEq, Int.reduceBNe, Bool.not_eq_eq_eq_not, eq_self, if_true, if_false, ite_self, b__law_is_word, start_cons, start_nil, repl_S, repl_0, q3, q4]
      rfl
  | op v => cases h
  | scr v => cases h
  | exn v => cases h
  | _ => rfl
/-! what needs words -/
theorem need_word_any {x : Dt} {cs : List Cell} (h : pl1 x = true) : m_need_word [.dat x] cs = if isW x = true then .ok (.dat .non) cs else .exc "BadWord" cs := by
  have q := is_word_any (cs := cs) h
  refine fn_ev ?_
  cases hw : isW x with
  | true => rw [hw] at q; simp (disch := (first | assumption | omega | (simp only [List.length_cons, List.length_nil, List.length_map, List.length_append, List.length_replicate] <;> omega))) only [rb_ok, rb_exc, rb_bad, rb_ite, m_ret, m_badE, m_opt, m_optn, m_ite, rO_some, rO_none, rW_some, rW_none, rO_map, rW_map, s_var0, s_varS, s_c, s_bin, k_bin, s_lift, s_un, s_liftU, s_eqc, k_eqc, k_eqc2, eq_ii, ne_ii, eq_ss, ne_ss, eq_bb, ne_bb, s_cmpE, s_asB, s_tru, k_tru, rT_some, tru_d, tru_c, dtru_bl, dtru_non, dtru_int, dtru_lst, dtru_tup, s_and, s_or, s_not, k_and, k_or, k_not, s_yes, m_and, m_or, s_eand, k_eand, k_eand2, s_eor, k_eor, k_eor2, s_enot, k_enot, k_enot2, s_if, k_if, m_iteD, m_iteI, m_iteB, m_iteAnd, m_iteOr, m_iteS, s_chain, k_ch, k_ch2, k_ch3, k_ch4, s_anil, s_acons, k_arg, k_arg2, s_tup, s_lst, k_tup, k_lst, rL_some, dats_nil, dats_cons, opt_map_some, opt_map_none, opt_or_some, opt_or_none, opt_bind_some, s_ix, k_ix, k_ix2, wix_dd, wix_cd, ix_t, ix_l, ix_s, cix_l, cix_d, ix_d, at_0, at_1, at_2, s_sl, k_sl, k_sl2, k_sl3, s_onone, s_osome, k_asI, sl_d, sl_c, sl_l, sl_t, cut_hi, cut_lo, cut_lh, s_fn, k_fn0, k_fn1, k_fn2, k_fn3, k_fn4, k_fn5, k_fn6, s_fnp, k_fnp1, k_fnp2, k_fnp2r, k_fnp3, s_call, k_call, s_o1, s_o2, len_d, len_c, len_l, len_t, len_scr, len_s, clen_l, int_i, int_b, min_i, max_i, sq_dl, sq_cl, csq_l, lof_t, lof_l, tof_t, tof_l, s_meth, k_meth, k_meth_str, ok_str, mt_str1, mt_join, d_I0, d_mod, d_div, d_pow, d_shr, d_neg, d_mulL, d_mulR, d_mulS, d_addI, d_addS, d_addL, d_addT, s_seq, k_seq_nx, k_seq_rt, k_seq_bk, k_seq_ct, s_nil, s_ret, k_ret, s_retn, s_brk, s_cnt, s_expr, k_expr, s_sif, k_sif, s_set, k_set, s_asg, k_asg, rE_some, t_name, t_tup, t_cons, t_nil, s_par, k_par, s_par3, k_par3, s_raise, s_put, k_put, k_put2, k_put3, k_put4, put_is, s_for, k_for, s_while, s_iseq, as_l, as_t, as_s, as_scr, s_rg1, s_rg2, k_rg1, k_rg2, s_enum, k_enum_l, k_enum_s, s_zip, k_zip_l, k_zip_t, k_zip_s, s_off, k_of, rD_some, dats_mapd, s_flc, k_lc, wipe_nil, wipe_cons, s_celf, k_celf, s_flst, k_flst, k_fin_rt, k_fin_nx, start_nil, start_cons, repl_0, repl_S, s_caught, s_frz, k_frzd, s_fld, k_fld, s_rgl1, k_rgl1, s_rgl2, k_rgl, k_rgl2, s_flc2, k_lc2, s_new, k_new2, dk_cat, dk_cat2, dk_cat3, dk_nil, dk_cons, dk_val, dk_val2, dk_dicC, dk_dicC2, dk_dic, dk_dic2, dk_rK, dk_dat, dk_datn, eq_nn, ne_nn, lo_l, lo_t, lo_s, dk_frz, dk_rF, dk_cfrz, dk_methc, dk_rLst, dk_app, dk_rApp, dk_ext, dk_rExt, dk_snoc, dk_last, dk_setl, dk_putF, dk_putF2, dk_putF3, dk_putF4, dk_rPF, dk_new, dk_newT, dk_cfrzI, List.set_cons_zero, List.set_cons_succ, List.getElem?_cons_zero, List.getElem?_cons_succ, List.length_cons, List.length_nil, ↓reduceIte, Nat.reduceAdd, decide_eq_true_eq, Bool.not_true, Bool.not_false, Bool.true_and, Bool.false_and, Bool.and_true, Bool.and_false, Bool.or_true, Bool.or_false, Bool.true_or, Bool.false_or, reduceCtorEq, decide_true, decide_false, Bool.false_eq_true, Int.reduceLT, Int.reduceLE, Int.reduceNeg, Int.reduceAdd, Int.reduceSub, Int.reduceMul, Nat.reduceMul, Nat.reduceLeDiff, Nat.zero_add, Bool.not_not, beq_self_eq_true, bne_self_eq_false, not_true_eq_false, not_false_eq_true, Bool.not_eq_true, Option.some.injEq, List.map_cons, List.map_nil, List.isEmpty_cons, List.isEmpty_nil, and_self, and_true, true_and, Int.toNat_natCast, Int.natCast_nonneg, Int.reduceToNat, Int.reduceEq, Int.reduceNe, Nat.reduceLT, Int.reduceBEq, Int.reduceBNe, Bool.not_eq_eq_eq_not, eq_self, if_true, if_false, ite_self, b_need_word, start_cons, start_nil, repl_S, repl_0, q]
  | false => rw [hw] at q; simp (disch := (first | assumption | omega | (simp only [List.length_cons, List.length_nil, List.length_map, List.length_append, List.length_replicate] <;> omega))) only [rb_ok, rb_exc, rb_bad, rb_ite, m_ret, m_badE, m_opt, m_optn, m_ite, rO_some, rO_none, rW_some, rW_none, rO_map, rW_map, s_var0, s_varS, s_c, s_bin, k_bin, s_lift, s_un, s_liftU, s_eqc, k_eqc, k_eqc2, eq_ii, ne_ii, eq_ss, ne_ss, eq_bb, ne_bb, s_cmpE, s_asB, s_tru, k_tru, rT_some, tru_d, tru_c, dtru_bl, dtru_non, dtru_int, dtru_lst, dtru_tup, s_and, s_or, s_not, k_and, k_or, k_not, s_yes, m_and, m_or, s_eand, k_eand, k_eand2, s_eor, k_eor, k_eor2, s_enot, k_enot, k_enot2, s_if, k_if, m_iteD, m_iteI, m_iteB, m_iteAnd, m_iteOr, m_iteS, s_chain, k_ch, k_ch2, k_ch3, k_ch4, s_anil, s_acons, k_arg, k_arg2, s_tup, s_lst, k_tup, k_lst, rL_some, dats_nil, dats_cons, opt_map_some, opt_map_none, opt_or_some, opt_or_none, opt_bind_some, s_ix, k_ix, k_ix2, wix_dd, wix_cd, ix_t, ix_l, ix_s, cix_l, cix_d, ix_d, at_0, at_1, at_2, s_sl, k_sl, k_sl2, k_sl3, s_onone, s_osome, k_asI, sl_d, sl_c, sl_l, sl_t, cut_hi, cut_lo, cut_lh, s_fn, k_fn0, k_fn1, k_fn2, k_fn3, k_fn4, k_fn5, k_fn6, s_fnp, k_fnp1, k_fnp2, k_fnp2r, k_fnp3, s_call, k_call, s_o1, s_o2, len_d, len_c, len_l, len_t, len_scr, len_s, clen_l, int_i, int_b, min_i, max_i, sq_dl, sq_cl, csq_l, lof_t, lof_l, tof_t, tof_l, s_meth, k_meth, k_meth_str, ok_str, mt_str1, mt_join, d_I0, d_mod, d_div, d_pow, d_shr, d_neg, d_mulL, d_mulR, d_mulS, d_addI, d_addS, d_addL, d_addT, s_seq, k_seq_nx, k_seq_rt, k_seq_bk, k_seq_ct, s_nil, s_ret, k_ret, s_retn, s_brk, s_cnt, s_expr, k_expr, s_sif, k_sif, s_set, k_set, s_asg, k_asg, rE_some, t_name, t_tup, t_cons, t_nil, s_par, k_par, s_par3, k_par3, s_raise, s_put, k_put, k_put2, k_put3, k_put4, put_is, s_for, k_for, s_while, s_iseq, as_l, as_t, as_s, as_scr, s_rg1, s_rg2, k_rg1, k_rg2, s_enum, k_enum_l, k_enum_s, s_zip, k_zip_l, k_zip_t, k_zip_s, s_off, k_of, rD_some, dats_mapd, s_flc, k_lc, wipe_nil, wipe_cons, s_celf, k_celf, s_flst, k_flst, k_fin_rt, k_fin_nx, start_nil, start_cons, repl_0, repl_S, s_caught, s_frz, k_frzd, s_fld, k_fld, s_rgl1, k_rgl1, s_rgl2, k_rgl, k_rgl2, s_flc2, k_lc2, s_new, k_new2, dk_cat, dk_cat2, dk_cat3, dk_nil, dk_cons, dk_val, dk_val2, dk_dicC, dk_dicC2, dk_dic, dk_dic2, dk_rK, dk_dat, dk_datn, eq_nn, ne_nn, lo_l, lo_t, lo_s, dk_frz, dk_rF, dk_cfrz, dk_methc, dk_rLst, dk_app, dk_rApp, dk_ext, dk_rExt, dk_snoc, dk_last, dk_setl, dk_putF, dk_putF2, dk_putF3, dk_putF4, dk_rPF, dk_new, dk_newT, dk_cfrzI, List.set_cons_zero, List.set_cons_succ, List.getElem?_cons_zero, List.getElem?_cons_succ, List.length_cons, List.length_nil, ↓reduceIte, Nat.reduceAdd, decide_eq_true_eq, Bool.not_true, Bool.not_false, Bool.true_and, Bool.false_and, Bool.and_true, Bool.and_false, Bool.or_true, Bool.or_false, Bool.true_or, Bool.false_or, reduceCtorEq, decide_true, decide_false, Bool.false_eq_true, Int.reduceLT, Int.reduceLE, Int.reduceNeg, Int.reduceAdd, Int.reduceSub, Int.reduceMul, Nat.reduceMul, Nat.reduceLeDiff, Nat.zero_add, Bool.not_not, beq_self_eq_true, bne_self_eq_false, not_true_eq_false, not_false_eq_true, Bool.not_eq_true, Option.some.injEq, List.map_cons, List.map_nil, List.isEmpty_cons, List.isEmpty_nil, and_self, and_true, true_and, Int.toNat_natCast, Int.natCast_nonneg, Int.reduceToNat, Int.reduceEq, Int.reduceNe, Nat.reduceLT, Int.reduceBEq, Int.reduceBNe, Bool.not_eq_eq_eq_not, eq_self, if_true, if_false, ite_self, b_need_word, start_cons, start_nil, repl_S, repl_0, q]
theorem pl1_wd (s : Int) {l : List Nat} (hl : l.length ≤ 12) : pl1 (wdD s l) = true := by
  show (true && (decide ((strOf l).length ≤ 16777216) && true)) = true
  rw [strOf_len, decide_eq_true (by omega)]
  rfl
theorem isW_wd {s : Int} {l : List Nat} (hs : Sg s) (h1 : 1 ≤ l.length) (hl : l.length ≤ 12) (fl : Fig l) : isW (wdD s l) = true := by
  show ((decide (s = 1) || decide (s = -1)) && ((decide (1 ≤ (strOf l).length) && decide ((strOf l).length ≤ 12)) && (strOf l).cps.toList.all inLet)) = true
  rw [strOf_len, decide_eq_true h1, decide_eq_true hl]
  have : (strOf l).cps.toList.all inLet = true := by
    rw [List.all_eq_true]
    intro c hc
    simp [strOf] at hc
    obtain ⟨x, hx, rfl⟩ := hc
    exact inLet_chr (fl x hx)
  rw [this]
  rcases hs with rfl | rfl <;> rfl
theorem WOk'.w {n : Nat} {a : Wd} (ha : WOk' n a) (h1 : 1 ≤ n) (hn : n ≤ 12) : isW (wdD a.s a.l) = true := isW_wd ha.sg (by rw [ha.len]; exact h1) (by rw [ha.len]; exact hn) ha.fig
theorem WOk'.p {n : Nat} {a : Wd} (ha : WOk' n a) (hn : n ≤ 12) : pl1 (wdD a.s a.l) = true := pl1_wd _ (by rw [ha.len]; exact hn)
theorem r_need_word {a : Wd} {n : Nat} {cs : List Cell} (ha : WOk' n a) (h1 : 1 ≤ n) (hn : n ≤ 12) : m_need_word [wd a.s a.l] cs = .ok (.dat .non) cs := by
  rw [need_word_any (ha.p hn), if_pos (ha.w h1 hn)]
theorem x_need_word {x : Dt} {cs : List Cell} (h : pl1 x = true) (hw : isW x = false) : m_need_word [.dat x] cs = .exc "BadWord" cs := by
  rw [need_word_any h, hw]
  rfl
theorem n_need_like {a b : Wd} {n m : Nat} {cs : List Cell} (ha : WOk' n a) (hb : WOk' m b) (h1 : 1 ≤ n) (hn : n ≤ 12) (h2 : 1 ≤ m) (hm : m ≤ 12) : m_need_like [wd a.s a.l, wd b.s b.l] cs = if n = m then .ok (.dat .non) cs else .exc "OtherLength" cs := by
  have q1 := r_need_word (cs := cs) ha h1 hn
  have q2 := r_need_word (cs := cs) hb h2 hm
  have l1 := (strOf_len a.l).trans ha.len
  have l2 := (strOf_len b.l).trans hb.len
  refine fn_ev ?_
  by_cases h : n = m
  · simp (disch := (first | assumption | omega | (simp only [List.length_cons, List.length_nil, List.length_map, List.length_append, List.length_replicate] <;> omega))) only [rb_ok, rb_exc, rb_bad, rb_ite, m_ret, m_badE, m_opt, m_optn, m_ite, rO_some, rO_none, rW_some, rW_none, rO_map, rW_map, s_var0, s_varS, s_c, s_bin, k_bin, s_lift, s_un, s_liftU, s_eqc, k_eqc, k_eqc2, eq_ii, ne_ii, eq_ss, ne_ss, eq_bb, ne_bb, s_cmpE, s_asB, s_tru, k_tru, rT_some, tru_d, tru_c, dtru_bl, dtru_non, dtru_int, dtru_lst, dtru_tup, s_and, s_or, s_not, k_and, k_or, k_not, s_yes, m_and, m_or, s_eand, k_eand, k_eand2, s_eor, k_eor, k_eor2, s_enot, k_enot, k_enot2, s_if, k_if, m_iteD, m_iteI, m_iteB, m_iteAnd, m_iteOr, m_iteS, s_chain, k_ch, k_ch2, k_ch3, k_ch4, s_anil, s_acons, k_arg, k_arg2, s_tup, s_lst, k_tup, k_lst, rL_some, dats_nil, dats_cons, opt_map_some, opt_map_none, opt_or_some, opt_or_none, opt_bind_some, s_ix, k_ix, k_ix2, wix_dd, wix_cd, ix_t, ix_l, ix_s, cix_l, cix_d, ix_d, at_0, at_1, at_2, s_sl, k_sl, k_sl2, k_sl3, s_onone, s_osome, k_asI, sl_d, sl_c, sl_l, sl_t, cut_hi, cut_lo, cut_lh, s_fn, k_fn0, k_fn1, k_fn2, k_fn3, k_fn4, k_fn5, k_fn6, s_fnp, k_fnp1, k_fnp2, k_fnp2r, k_fnp3, s_call, k_call, s_o1, s_o2, len_d, len_c, len_l, len_t, len_scr, len_s, clen_l, int_i, int_b, min_i, max_i, sq_dl, sq_cl, csq_l, lof_t, lof_l, tof_t, tof_l, s_meth, k_meth, k_meth_str, ok_str, mt_str1, mt_join, d_I0, d_mod, d_div, d_pow, d_shr, d_neg, d_mulL, d_mulR, d_mulS, d_addI, d_addS, d_addL, d_addT, s_seq, k_seq_nx, k_seq_rt, k_seq_bk, k_seq_ct, s_nil, s_ret, k_ret, s_retn, s_brk, s_cnt, s_expr, k_expr, s_sif, k_sif, s_set, k_set, s_asg, k_asg, rE_some, t_name, t_tup, t_cons, t_nil, s_par, k_par, s_par3, k_par3, s_raise, s_put, k_put, k_put2, k_put3, k_put4, put_is, s_for, k_for, s_while, s_iseq, as_l, as_t, as_s, as_scr, s_rg1, s_rg2, k_rg1, k_rg2, s_enum, k_enum_l, k_enum_s, s_zip, k_zip_l, k_zip_t, k_zip_s, s_off, k_of, rD_some, dats_mapd, s_flc, k_lc, wipe_nil, wipe_cons, s_celf, k_celf, s_flst, k_flst, k_fin_rt, k_fin_nx, start_nil, start_cons, repl_0, repl_S, s_caught, s_frz, k_frzd, s_fld, k_fld, s_rgl1, k_rgl1, s_rgl2, k_rgl, k_rgl2, s_flc2, k_lc2, s_new, k_new2, dk_cat, dk_cat2, dk_cat3, dk_nil, dk_cons, dk_val, dk_val2, dk_dicC, dk_dicC2, dk_dic, dk_dic2, dk_rK, dk_dat, dk_datn, eq_nn, ne_nn, lo_l, lo_t, lo_s, dk_frz, dk_rF, dk_cfrz, dk_methc, dk_rLst, dk_app, dk_rApp, dk_ext, dk_rExt, dk_snoc, dk_last, dk_setl, dk_putF, dk_putF2, dk_putF3, dk_putF4, dk_rPF, dk_new, dk_newT, dk_cfrzI, List.set_cons_zero, List.set_cons_succ, List.getElem?_cons_zero, List.getElem?_cons_succ, List.length_cons, List.length_nil, ↓reduceIte, Nat.reduceAdd, decide_eq_true_eq, Bool.not_true, Bool.not_false, Bool.true_and, Bool.false_and, Bool.and_true, Bool.and_false, Bool.or_true, Bool.or_false, Bool.true_or, Bool.false_or, reduceCtorEq, decide_true, decide_false, Bool.false_eq_true, Int.reduceLT, Int.reduceLE, Int.reduceNeg, Int.reduceAdd, Int.reduceSub, Int.reduceMul, Nat.reduceMul, Nat.reduceLeDiff, Nat.zero_add, Bool.not_not, beq_self_eq_true, bne_self_eq_false, not_true_eq_false, not_false_eq_true, Bool.not_eq_true, Option.some.injEq, List.map_cons, List.map_nil, List.isEmpty_cons, List.isEmpty_nil, and_self, and_true, true_and, Int.toNat_natCast, Int.natCast_nonneg, Int.reduceToNat, Int.reduceEq, Int.reduceNe, Nat.reduceLT, Int.reduceBEq, Int.reduceBNe, Bool.not_eq_eq_eq_not, eq_self, if_true, if_false, ite_self, b_need_like, start_cons, start_nil, repl_S, repl_0, q1, q2, dix_w1, l1, l2, h]
  · have h' : ¬ (n : Int) = m := by omega
    simp (disch := (first | assumption | omega | (simp only [List.length_cons, List.length_nil, List.length_map, List.length_append, List.length_replicate] <;> omega))) only [rb_ok, rb_exc, rb_bad, rb_ite, m_ret, m_badE, m_opt, m_optn, m_ite, rO_some, rO_none, rW_some, rW_none, rO_map, rW_map, s_var0, s_varS, s_c, s_bin, k_bin, s_lift, s_un, s_liftU, s_eqc, k_eqc, k_eqc2, eq_ii, ne_ii, eq_ss, ne_ss, eq_bb, ne_bb, s_cmpE, s_asB, s_tru, k_tru, rT_some, tru_d, tru_c, dtru_bl, dtru_non, dtru_int, dtru_lst, dtru_tup, s_and, s_or, s_not, k_and, k_or, k_not, s_yes, m_and, m_or, s_eand, k_eand, k_eand2, s_eor, k_eor, k_eor2, s_enot, k_enot, k_enot2, s_if, k_if, m_iteD, m_iteI, m_iteB, m_iteAnd, m_iteOr, m_iteS, s_chain, k_ch, k_ch2, k_ch3, k_ch4, s_anil, s_acons, k_arg, k_arg2, s_tup, s_lst, k_tup, k_lst, rL_some, dats_nil, dats_cons, opt_map_some, opt_map_none, opt_or_some, opt_or_none, opt_bind_some, s_ix, k_ix, k_ix2, wix_dd, wix_cd, ix_t, ix_l, ix_s, cix_l, cix_d, ix_d, at_0, at_1, at_2, s_sl, k_sl, k_sl2, k_sl3, s_onone, s_osome, k_asI, sl_d, sl_c, sl_l, sl_t, cut_hi, cut_lo, cut_lh, s_fn, k_fn0, k_fn1, k_fn2, k_fn3, k_fn4, k_fn5, k_fn6, s_fnp, k_fnp1, k_fnp2, k_fnp2r, k_fnp3, s_call, k_call, s_o1, s_o2, len_d, len_c, len_l, len_t, len_scr, len_s, clen_l, int_i, int_b, min_i, max_i, sq_dl, sq_cl, csq_l, lof_t, lof_l, tof_t, tof_l, s_meth, k_meth, k_meth_str, ok_str, mt_str1, mt_join, d_I0, d_mod, d_div, d_pow, d_shr, d_neg, d_mulL, d_mulR, d_mulS, d_addI, d_addS, d_addL, d_addT, s_seq, k_seq_nx, k_seq_rt, k_seq_bk, k_seq_ct, s_nil, s_ret, k_ret, s_retn, s_brk, s_cnt, s_expr, k_expr, s_sif, k_sif, s_set, k_set, s_asg, k_asg, rE_some, t_name, t_tup, t_cons, t_nil, s_par, k_par, s_par3, k_par3, s_raise, s_put, k_put, k_put2, k_put3, k_put4, put_is, s_for, k_for, s_while, s_iseq, as_l, as_t, as_s, as_scr, s_rg1, s_rg2, k_rg1, k_rg2, s_enum, k_enum_l, k_enum_s, s_zip, k_zip_l, k_zip_t, k_zip_s, s_off, k_of, rD_some, dats_mapd, s_flc, k_lc, wipe_nil, wipe_cons, s_celf, k_celf, s_flst, k_flst, k_fin_rt, k_fin_nx, start_nil, start_cons, repl_0, repl_S, s_caught, s_frz, k_frzd, s_fld, k_fld, s_rgl1, k_rgl1, s_rgl2, k_rgl, k_rgl2, s_flc2, k_lc2, s_new, k_new2, dk_cat, dk_cat2, dk_cat3, dk_nil, dk_cons, dk_val, dk_val2, dk_dicC, dk_dicC2, dk_dic, dk_dic2, dk_rK, dk_dat, dk_datn, eq_nn, ne_nn, lo_l, lo_t, lo_s, dk_frz, dk_rF, dk_cfrz, dk_methc, dk_rLst, dk_app, dk_rApp, dk_ext, dk_rExt, dk_snoc, dk_last, dk_setl, dk_putF, dk_putF2, dk_putF3, dk_putF4, dk_rPF, dk_new, dk_newT, dk_cfrzI, List.set_cons_zero, List.set_cons_succ, List.getElem?_cons_zero, List.getElem?_cons_succ, List.length_cons, List.length_nil, ↓reduceIte, Nat.reduceAdd, decide_eq_true_eq, Bool.not_true, Bool.not_false, Bool.true_and, Bool.false_and, Bool.and_true, Bool.and_false, Bool.or_true, Bool.or_false, Bool.true_or, Bool.false_or, reduceCtorEq, decide_true, decide_false, Bool.false_eq_true, Int.reduceLT, Int.reduceLE, Int.reduceNeg, Int.reduceAdd, Int.reduceSub, Int.reduceMul, Nat.reduceMul, Nat.reduceLeDiff, Nat.zero_add, Bool.not_not, beq_self_eq_true, bne_self_eq_false, not_true_eq_false, not_false_eq_true, Bool.not_eq_true, Option.some.injEq, List.map_cons, List.map_nil, List.isEmpty_cons, List.isEmpty_nil, and_self, and_true, true_and, Int.toNat_natCast, Int.natCast_nonneg, Int.reduceToNat, Int.reduceEq, Int.reduceNe, Nat.reduceLT, Int.reduceBEq, Int.reduceBNe, Bool.not_eq_eq_eq_not, eq_self, if_true, if_false, ite_self, b_need_like, start_cons, start_nil, repl_S, repl_0, q1, q2, dix_w1, l1, l2, h, h']
theorem x_need_like1 {x : Dt} {w : Wv} {cs : List Cell} (h : pl1 x = true) (hw : isW x = false) : m_need_like [.dat x, w] cs = .exc "BadWord" cs := by
  have q := x_need_word (cs := cs) h hw
  refine fn_ev ?_
  simp (disch := (first | assumption | omega | (simp only [List.length_cons, List.length_nil, List.length_map, List.length_append, List.length_replicate] <;> omega))) only [rb_ok, rb_exc, rb_bad, rb_ite, m_ret, m_badE, m_opt, m_optn, m_ite, rO_some, rO_none, rW_some, rW_none, rO_map, rW_map, s_var0, s_varS, s_c, s_bin, k_bin, s_lift, s_un, s_liftU, s_eqc, k_eqc, k_eqc2, eq_ii, ne_ii, eq_ss, ne_ss, eq_bb, ne_bb, s_cmpE, s_asB, s_tru, k_tru, rT_some, tru_d, tru_c, dtru_bl, dtru_non, dtru_int, dtru_lst, dtru_tup, s_and, s_or, s_not, k_and, k_or, k_not, s_yes, m_and, m_or, s_eand, k_eand, k_eand2, s_eor, k_eor, k_eor2, s_enot, k_enot, k_enot2, s_if, k_if, m_iteD, m_iteI, m_iteB, m_iteAnd, m_iteOr, m_iteS, s_chain, k_ch, k_ch2, k_ch3, k_ch4, s_anil, s_acons, k_arg, k_arg2, s_tup, s_lst, k_tup, k_lst, rL_some, dats_nil, dats_cons, opt_map_some, opt_map_none, opt_or_some, opt_or_none, opt_bind_some, s_ix, k_ix, k_ix2, wix_dd, wix_cd, ix_t, ix_l, ix_s, cix_l, cix_d, ix_d, at_0, at_1, at_2, s_sl, k_sl, k_sl2, k_sl3, s_onone, s_osome, k_asI, sl_d, sl_c, sl_l, sl_t, cut_hi, cut_lo, cut_lh, s_fn, k_fn0, k_fn1, k_fn2, k_fn3, k_fn4, k_fn5, k_fn6, s_fnp, k_fnp1, k_fnp2, k_fnp2r, k_fnp3, s_call, k_call, s_o1, s_o2, len_d, len_c, len_l, len_t, len_scr, len_s, clen_l, int_i, int_b, min_i, max_i, sq_dl, sq_cl, csq_l, lof_t, lof_l, tof_t, tof_l, s_meth, k_meth, k_meth_str, ok_str, mt_str1, mt_join, d_I0, d_mod, d_div, d_pow, d_shr, d_neg, d_mulL, d_mulR, d_mulS, d_addI, d_addS, d_addL, d_addT, s_seq, k_seq_nx, k_seq_rt, k_seq_bk, k_seq_ct, s_nil, s_ret, k_ret, s_retn, s_brk, s_cnt, s_expr, k_expr, s_sif, k_sif, s_set, k_set, s_asg, k_asg, rE_some, t_name, t_tup, t_cons, t_nil, s_par, k_par, s_par3, k_par3, s_raise, s_put, k_put, k_put2, k_put3, k_put4, put_is, s_for, k_for, s_while, s_iseq, as_l, as_t, as_s, as_scr, s_rg1, s_rg2, k_rg1, k_rg2, s_enum, k_enum_l, k_enum_s, s_zip, k_zip_l, k_zip_t, k_zip_s, s_off, k_of, rD_some, dats_mapd, s_flc, k_lc, wipe_nil, wipe_cons, s_celf, k_celf, s_flst, k_flst, k_fin_rt, k_fin_nx, start_nil, start_cons, repl_0, repl_S, s_caught, s_frz, k_frzd, s_fld, k_fld, s_rgl1, k_rgl1, s_rgl2, k_rgl, k_rgl2, s_flc2, k_lc2, s_new, k_new2, dk_cat, dk_cat2, dk_cat3, dk_nil, dk_cons, dk_val, dk_val2, dk_dicC, dk_dicC2, dk_dic, dk_dic2, dk_rK, dk_dat, dk_datn, eq_nn, ne_nn, lo_l, lo_t, lo_s, dk_frz, dk_rF, dk_cfrz, dk_methc, dk_rLst, dk_app, dk_rApp, dk_ext, dk_rExt, dk_snoc, dk_last, dk_setl, dk_putF, dk_putF2, dk_putF3, dk_putF4, dk_rPF, dk_new, dk_newT, dk_cfrzI, List.set_cons_zero, List.set_cons_succ, List.getElem?_cons_zero, List.getElem?_cons_succ, List.length_cons, List.length_nil, ↓reduceIte, Nat.reduceAdd, decide_eq_true_eq, Bool.not_true, Bool.not_false, Bool.true_and, Bool.false_and, Bool.and_true, Bool.and_false, Bool.or_true, Bool.or_false, Bool.true_or, Bool.false_or, reduceCtorEq, decide_true, decide_false, Bool.false_eq_true, Int.reduceLT, Int.reduceLE, Int.reduceNeg, Int.reduceAdd, Int.reduceSub, Int.reduceMul, Nat.reduceMul, Nat.reduceLeDiff, Nat.zero_add, Bool.not_not, beq_self_eq_true, bne_self_eq_false, not_true_eq_false, not_false_eq_true, Bool.not_eq_true, Option.some.injEq, List.map_cons, List.map_nil, List.isEmpty_cons, List.isEmpty_nil, and_self, and_true, true_and, Int.toNat_natCast, Int.natCast_nonneg, Int.reduceToNat, Int.reduceEq, Int.reduceNe, Nat.reduceLT, Int.reduceBEq, Int.reduceBNe, Bool.not_eq_eq_eq_not, eq_self, if_true, if_false, ite_self, b_need_like, start_cons, start_nil, repl_S, repl_0, q]
theorem x_need_like2 {a : Wd} {n : Nat} {x : Dt} {cs : List Cell} (ha : WOk' n a) (h1 : 1 ≤ n) (hn : n ≤ 12) (h : pl1 x = true) (hw : isW x = false) : m_need_like [wd a.s a.l, .dat x] cs = .exc "BadWord" cs := by
  have q := x_need_word (cs := cs) h hw
  have q1 := r_need_word (cs := cs) ha h1 hn
  refine fn_ev ?_
  simp (disch := (first | assumption | omega | (simp only [List.length_cons, List.length_nil, List.length_map, List.length_append, List.length_replicate] <;> omega))) only [rb_ok, rb_exc, rb_bad, rb_ite, m_ret, m_badE, m_opt, m_optn, m_ite, rO_some, rO_none, rW_some, rW_none, rO_map, rW_map, s_var0, s_varS, s_c, s_bin, k_bin, s_lift, s_un, s_liftU, s_eqc, k_eqc, k_eqc2, eq_ii, ne_ii, eq_ss, ne_ss, eq_bb, ne_bb, s_cmpE, s_asB, s_tru, k_tru, rT_some, tru_d, tru_c, dtru_bl, dtru_non, dtru_int, dtru_lst, dtru_tup, s_and, s_or, s_not, k_and, k_or, k_not, s_yes, m_and, m_or, s_eand, k_eand, k_eand2, s_eor, k_eor, k_eor2, s_enot, k_enot, k_enot2, s_if, k_if, m_iteD, m_iteI, m_iteB, m_iteAnd, m_iteOr, m_iteS, s_chain, k_ch, k_ch2, k_ch3, k_ch4, s_anil, s_acons, k_arg, k_arg2, s_tup, s_lst, k_tup, k_lst, rL_some, dats_nil, dats_cons, opt_map_some, opt_map_none, opt_or_some, opt_or_none, opt_bind_some, s_ix, k_ix, k_ix2, wix_dd, wix_cd, ix_t, ix_l, ix_s, cix_l, cix_d, ix_d, at_0, at_1, at_2, s_sl, k_sl, k_sl2, k_sl3, s_onone, s_osome, k_asI, sl_d, sl_c, sl_l, sl_t, cut_hi, cut_lo, cut_lh, s_fn, k_fn0, k_fn1, k_fn2, k_fn3, k_fn4, k_fn5, k_fn6, s_fnp, k_fnp1, k_fnp2, k_fnp2r, k_fnp3, s_call, k_call, s_o1, s_o2, len_d, len_c, len_l, len_t, len_scr, len_s, clen_l, int_i, int_b, min_i, max_i, sq_dl, sq_cl, csq_l, lof_t, lof_l, tof_t, tof_l, s_meth, k_meth, k_meth_str, ok_str, mt_str1, mt_join, d_I0, d_mod, d_div, d_pow, d_shr, d_neg, d_mulL, d_mulR, d_mulS, d_addI, d_addS, d_addL, d_addT, s_seq, k_seq_nx, k_seq_rt, k_seq_bk, k_seq_ct, s_nil, s_ret, k_ret, s_retn, s_brk, s_cnt, s_expr, k_expr, s_sif, k_sif, s_set, k_set, s_asg, k_asg, rE_some, t_name, t_tup, t_cons, t_nil, s_par, k_par, s_par3, k_par3, s_raise, s_put, k_put, k_put2, k_put3, k_put4, put_is, s_for, k_for, s_while, s_iseq, as_l, as_t, as_s, as_scr, s_rg1, s_rg2, k_rg1, k_rg2, s_enum, k_enum_l, k_enum_s, s_zip, k_zip_l, k_zip_t, k_zip_s, s_off, k_of, rD_some, dats_mapd, s_flc, k_lc, wipe_nil, wipe_cons, s_celf, k_celf, s_flst, k_flst, k_fin_rt, k_fin_nx, start_nil, start_cons, repl_0, repl_S, s_caught, s_frz, k_frzd, s_fld, k_fld, s_rgl1, k_rgl1, s_rgl2, k_rgl, k_rgl2, s_flc2, k_lc2, s_new, k_new2, dk_cat, dk_cat2, dk_cat3, dk_nil, dk_cons, dk_val, dk_val2, dk_dicC, dk_dicC2, dk_dic, dk_dic2, dk_rK, dk_dat, dk_datn, eq_nn, ne_nn, lo_l, lo_t, lo_s, dk_frz, dk_rF, dk_cfrz, dk_methc, dk_rLst, dk_app, dk_rApp, dk_ext, dk_rExt, dk_snoc, dk_last, dk_setl, dk_putF, dk_putF2, dk_putF3, dk_putF4, dk_rPF, dk_new, dk_newT, dk_cfrzI, List.set_cons_zero, List.set_cons_succ, List.getElem?_cons_zero, List.getElem?_cons_succ, List.length_cons, List.length_nil, ↓reduceIte, Nat.reduceAdd, decide_eq_true_eq, Bool.not_true, Bool.not_false, Bool.true_and, Bool.false_and, Bool.and_true, Bool.and_false, Bool.or_true, Bool.or_false, Bool.true_or, Bool.false_or, reduceCtorEq, decide_true, decide_false, Bool.false_eq_true, Int.reduceLT, Int.reduceLE, Int.reduceNeg, Int.reduceAdd, Int.reduceSub, Int.reduceMul, Nat.reduceMul, Nat.reduceLeDiff, Nat.zero_add, Bool.not_not, beq_self_eq_true, bne_self_eq_false, not_true_eq_false, not_false_eq_true, Bool.not_eq_true, Option.some.injEq, List.map_cons, List.map_nil, List.isEmpty_cons, List.isEmpty_nil, and_self, and_true, true_and, Int.toNat_natCast, Int.natCast_nonneg, Int.reduceToNat, Int.reduceEq, Int.reduceNe, Nat.reduceLT, Int.reduceBEq, Int.reduceBNe, Bool.not_eq_eq_eq_not, eq_self, if_true, if_false, ite_self, b_need_like, start_cons, start_nil, repl_S, repl_0, q, q1]
theorem r_need_like {a b : Wd} {n : Nat} {cs : List Cell} (ha : WOk' n a) (hb : WOk' n b) (h1 : 1 ≤ n) (hn : n ≤ 12) : m_need_like [wd a.s a.l, wd b.s b.l] cs = .ok (.dat .non) cs := by
  rw [n_need_like ha hb h1 hn h1 hn, if_pos rfl]
theorem r_put {a b : Wd} {n : Nat} {cs : List Cell} (ha : WOk' n a) (hb : WOk' n b) (h1 : 1 ≤ n) (hn : n ≤ 12) : m_put_together [wd a.s a.l, wd b.s b.l] cs = .ok (wd (pu a b).s (pu a b).l) cs := by
  have q := r_need_like (cs := cs) ha hb h1 hn
  have q2 := r_put_of (cs := cs) ha.sg hb.sg (ha.len.trans hb.len.symm) (by rw [ha.len]; exact hn) ha.fig hb.fig
  refine fn_ev ?_
  simp (disch := (first | assumption | omega | (simp only [List.length_cons, List.length_nil, List.length_map, List.length_append, List.length_replicate] <;> omega))) only [rb_ok, rb_exc, rb_bad, rb_ite, m_ret, m_badE, m_opt, m_optn, m_ite, rO_some, rO_none, rW_some, rW_none, rO_map, rW_map, s_var0, s_varS, s_c, s_bin, k_bin, s_lift, s_un, s_liftU, s_eqc, k_eqc, k_eqc2, eq_ii, ne_ii, eq_ss, ne_ss, eq_bb, ne_bb, s_cmpE, s_asB, s_tru, k_tru, rT_some, tru_d, tru_c, dtru_bl, dtru_non, dtru_int, dtru_lst, dtru_tup, s_and, s_or, s_not, k_and, k_or, k_not, s_yes, m_and, m_or, s_eand, k_eand, k_eand2, s_eor, k_eor, k_eor2, s_enot, k_enot, k_enot2, s_if, k_if, m_iteD, m_iteI, m_iteB, m_iteAnd, m_iteOr, m_iteS, s_chain, k_ch, k_ch2, k_ch3, k_ch4, s_anil, s_acons, k_arg, k_arg2, s_tup, s_lst, k_tup, k_lst, rL_some, dats_nil, dats_cons, opt_map_some, opt_map_none, opt_or_some, opt_or_none, opt_bind_some, s_ix, k_ix, k_ix2, wix_dd, wix_cd, ix_t, ix_l, ix_s, cix_l, cix_d, ix_d, at_0, at_1, at_2, s_sl, k_sl, k_sl2, k_sl3, s_onone, s_osome, k_asI, sl_d, sl_c, sl_l, sl_t, cut_hi, cut_lo, cut_lh, s_fn, k_fn0, k_fn1, k_fn2, k_fn3, k_fn4, k_fn5, k_fn6, s_fnp, k_fnp1, k_fnp2, k_fnp2r, k_fnp3, s_call, k_call, s_o1, s_o2, len_d, len_c, len_l, len_t, len_scr, len_s, clen_l, int_i, int_b, min_i, max_i, sq_dl, sq_cl, csq_l, lof_t, lof_l, tof_t, tof_l, s_meth, k_meth, k_meth_str, ok_str, mt_str1, mt_join, d_I0, d_mod, d_div, d_pow, d_shr, d_neg, d_mulL, d_mulR, d_mulS, d_addI, d_addS, d_addL, d_addT, s_seq, k_seq_nx, k_seq_rt, k_seq_bk, k_seq_ct, s_nil, s_ret, k_ret, s_retn, s_brk, s_cnt, s_expr, k_expr, s_sif, k_sif, s_set, k_set, s_asg, k_asg, rE_some, t_name, t_tup, t_cons, t_nil, s_par, k_par, s_par3, k_par3, s_raise, s_put, k_put, k_put2, k_put3, k_put4, put_is, s_for, k_for, s_while, s_iseq, as_l, as_t, as_s, as_scr, s_rg1, s_rg2, k_rg1, k_rg2, s_enum, k_enum_l, k_enum_s, s_zip, k_zip_l, k_zip_t, k_zip_s, s_off, k_of, rD_some, dats_mapd, s_flc, k_lc, wipe_nil, wipe_cons, s_celf, k_celf, s_flst, k_flst, k_fin_rt, k_fin_nx, start_nil, start_cons, repl_0, repl_S, s_caught, s_frz, k_frzd, s_fld, k_fld, s_rgl1, k_rgl1, s_rgl2, k_rgl, k_rgl2, s_flc2, k_lc2, s_new, k_new2, dk_cat, dk_cat2, dk_cat3, dk_nil, dk_cons, dk_val, dk_val2, dk_dicC, dk_dicC2, dk_dic, dk_dic2, dk_rK, dk_dat, dk_datn, eq_nn, ne_nn, lo_l, lo_t, lo_s, dk_frz, dk_rF, dk_cfrz, dk_methc, dk_rLst, dk_app, dk_rApp, dk_ext, dk_rExt, dk_snoc, dk_last, dk_setl, dk_putF, dk_putF2, dk_putF3, dk_putF4, dk_rPF, dk_new, dk_newT, dk_cfrzI, List.set_cons_zero, List.set_cons_succ, List.getElem?_cons_zero, List.getElem?_cons_succ, List.length_cons, List.length_nil, ↓reduceIte, Nat.reduceAdd, decide_eq_true_eq, Bool.not_true, Bool.not_false, Bool.true_and, Bool.false_and, Bool.and_true, Bool.and_false, Bool.or_true, Bool.or_false, Bool.true_or, Bool.false_or, reduceCtorEq, decide_true, decide_false, Bool.false_eq_true, Int.reduceLT, Int.reduceLE, Int.reduceNeg, Int.reduceAdd, Int.reduceSub, Int.reduceMul, Nat.reduceMul, Nat.reduceLeDiff, Nat.zero_add, Bool.not_not, beq_self_eq_true, bne_self_eq_false, not_true_eq_false, not_false_eq_true, Bool.not_eq_true, Option.some.injEq, List.map_cons, List.map_nil, List.isEmpty_cons, List.isEmpty_nil, and_self, and_true, true_and, Int.toNat_natCast, Int.natCast_nonneg, Int.reduceToNat, Int.reduceEq, Int.reduceNe, Nat.reduceLT, Int.reduceBEq, Int.reduceBNe, Bool.not_eq_eq_eq_not, eq_self, if_true, if_false, ite_self, b_put_together, start_cons, start_nil, repl_S, repl_0, q, q2]
  rfl
/-- two go past one another -/
def gp (l m : List Nat) : Bool := cross l m == cross m l
theorem r_past_of {a b : Wd} {n : Nat} {cs : List Cell} (ha : WOk' n a) (hb : WOk' n b) (hn : n ≤ 12) : m_past_of [wd a.s a.l, wd b.s b.l] cs = .ok (.dat (.bl (gp a.l b.l))) cs := by
  have q1 := r_code_of (s := a.s) (cs := cs) (by rw [ha.len]; exact hn) ha.fig
  have q2 := r_code_of (s := b.s) (cs := cs) (by rw [hb.len]; exact hn) hb.fig
  have q3 := r_is_crossed (cs := cs) (ha.len.trans hb.len.symm) (by rw [ha.len]; exact hn) ha.fig hb.fig
  have q4 := r_is_crossed (cs := cs) (hb.len.trans ha.len.symm) (by rw [hb.len]; exact hn) hb.fig ha.fig
  have q5 : m_is_past [.dat (.int (code a.l)), .dat (.int (code b.l))] cs = .ok (.dat (.bl (gp a.l b.l))) cs := by
    refine fn_ev ?_
    simp (disch := (first | assumption | omega | (simp only [List.length_cons, List.length_nil, List.length_map, List.length_append, List.length_replicate] <;> omega))) only [rb_ok, rb_exc, rb_bad, rb_ite, m_ret, m_badE, m_opt, m_optn, m_ite, rO_some, rO_none, rW_some, rW_none, rO_map, rW_map, s_var0, s_varS, s_c, s_bin, k_bin, s_lift, s_un, s_liftU, s_eqc, k_eqc, k_eqc2, eq_ii, ne_ii, eq_ss, ne_ss, eq_bb, ne_bb, s_cmpE, s_asB, s_tru, k_tru, rT_some, tru_d, tru_c, dtru_bl, dtru_non, dtru_int, dtru_lst, dtru_tup, s_and, s_or, s_not, k_and, k_or, k_not, s_yes, m_and, m_or, s_eand, k_eand, k_eand2, s_eor, k_eor, k_eor2, s_enot, k_enot, k_enot2, s_if, k_if, m_iteD, m_iteI, m_iteB, m_iteAnd, m_iteOr, m_iteS, s_chain, k_ch, k_ch2, k_ch3, k_ch4, s_anil, s_acons, k_arg, k_arg2, s_tup, s_lst, k_tup, k_lst, rL_some, dats_nil, dats_cons, opt_map_some, opt_map_none, opt_or_some, opt_or_none, opt_bind_some, s_ix, k_ix, k_ix2, wix_dd, wix_cd, ix_t, ix_l, ix_s, cix_l, cix_d, ix_d, at_0, at_1, at_2, s_sl, k_sl, k_sl2, k_sl3, s_onone, s_osome, k_asI, sl_d, sl_c, sl_l, sl_t, cut_hi, cut_lo, cut_lh, s_fn, k_fn0, k_fn1, k_fn2, k_fn3, k_fn4, k_fn5, k_fn6, s_fnp, k_fnp1, k_fnp2, k_fnp2r, k_fnp3, s_call, k_call, s_o1, s_o2, len_d, len_c, len_l, len_t, len_scr, len_s, clen_l, int_i, int_b, min_i, max_i, sq_dl, sq_cl, csq_l, lof_t, lof_l, tof_t, tof_l, s_meth, k_meth, k_meth_str, ok_str, mt_str1, mt_join, d_I0, d_mod, d_div, d_pow, d_shr, d_neg, d_mulL, d_mulR, d_mulS, d_addI, d_addS, d_addL, d_addT, s_seq, k_seq_nx, k_seq_rt, k_seq_bk, k_seq_ct, s_nil, s_ret, k_ret, s_retn, s_brk, s_cnt, s_expr, k_expr, s_sif, k_sif, s_set, k_set, s_asg, k_asg, rE_some, t_name, t_tup, t_cons, t_nil, s_par, k_par, s_par3, k_par3, s_raise, s_put, k_put, k_put2, k_put3, k_put4, put_is, s_for, k_for, s_while, s_iseq, as_l, as_t, as_s, as_scr, s_rg1, s_rg2, k_rg1, k_rg2, s_enum, k_enum_l, k_enum_s, s_zip, k_zip_l, k_zip_t, k_zip_s, s_off, k_of, rD_some, dats_mapd, s_flc, k_lc, wipe_nil, wipe_cons, s_celf, k_celf, s_flst, k_flst, k_fin_rt, k_fin_nx, start_nil, start_cons, repl_0, repl_S, s_caught, s_frz, k_frzd, s_fld, k_fld, s_rgl1, k_rgl1, s_rgl2, k_rgl, k_rgl2, s_flc2, k_lc2, s_new, k_new2, dk_cat, dk_cat2, dk_cat3, dk_nil, dk_cons, dk_val, dk_val2, dk_dicC, dk_dicC2, dk_dic, dk_dic2, dk_rK, dk_dat, dk_datn, eq_nn, ne_nn, lo_l, lo_t, lo_s, dk_frz, dk_rF, dk_cfrz, dk_methc, dk_rLst, dk_app, dk_rApp, dk_ext, dk_rExt, dk_snoc, dk_last, dk_setl, dk_putF, dk_putF2, dk_putF3, dk_putF4, dk_rPF, dk_new, dk_newT, dk_cfrzI, List.set_cons_zero, List.set_cons_succ, List.getElem?_cons_zero, List.getElem?_cons_succ, List.length_cons, List.length_nil, ↓reduceIte, Nat.reduceAdd, decide_eq_true_eq, Bool.not_true, Bool.not_false, Bool.true_and, Bool.false_and, Bool.and_true, Bool.and_false, Bool.or_true, Bool.or_false, Bool.true_or, Bool.false_or, reduceCtorEq, decide_true, decide_false, Bool.false_eq_true, Int.reduceLT, Int.reduceLE, Int.reduceNeg, Int.reduceAdd, Int.reduceSub, Int.reduceMul, Nat.reduceMul, Nat.reduceLeDiff, Nat.zero_add, Bool.not_not, beq_self_eq_true, bne_self_eq_false, not_true_eq_false, not_false_eq_true, Bool.not_eq_true, Option.some.injEq, List.map_cons, List.map_nil, List.isEmpty_cons, List.isEmpty_nil, and_self, and_true, true_and, Int.toNat_natCast, Int.natCast_nonneg, Int.reduceToNat, Int.reduceEq, Int.reduceNe, Nat.reduceLT, Int.reduceBEq, Int.reduceBNe, Bool.not_eq_eq_eq_not, eq_self, if_true, if_false, ite_self, b_is_past, start_cons, start_nil, repl_S, repl_0, q3, q4]
    rfl
  refine fn_ev ?_
  simp (disch := (first | assumption | omega | (simp only [List.length_cons, List.length_nil, List.length_map, List.length_append, List.length_replicate] <;> omega))) only [rb_ok, rb_exc, rb_bad, rb_ite, m_ret, m_badE, m_opt, m_optn, m_ite, rO_some, rO_none, rW_some, rW_none, rO_map, rW_map, s_var0, s_varS, s_c, s_bin, k_bin, s_lift, s_un, s_liftU, s_eqc, k_eqc, k_eqc2, eq_ii, ne_ii, eq_ss, ne_ss, eq_bb, ne_bb, s_cmpE, s_asB, s_tru, k_tru, rT_some, tru_d, tru_c, dtru_bl, dtru_non, dtru_int, dtru_lst, dtru_tup, s_and, s_or, s_not, k_and, k_or, k_not, s_yes, m_and, m_or, s_eand, k_eand, k_eand2, s_eor, k_eor, k_eor2, s_enot, k_enot, k_enot2, s_if, k_if, m_iteD, m_iteI, m_iteB, m_iteAnd, m_iteOr, m_iteS, s_chain, k_ch, k_ch2, k_ch3, k_ch4, s_anil, s_acons, k_arg, k_arg2, s_tup, s_lst, k_tup, k_lst, rL_some, dats_nil, dats_cons, opt_map_some, opt_map_none, opt_or_some, opt_or_none, opt_bind_some, s_ix, k_ix, k_ix2, wix_dd, wix_cd, ix_t, ix_l, ix_s, cix_l, cix_d, ix_d, at_0, at_1, at_2, s_sl, k_sl, k_sl2, k_sl3, s_onone, s_osome, k_asI, sl_d, sl_c, sl_l, sl_t, cut_hi, cut_lo, cut_lh, s_fn, k_fn0, k_fn1, k_fn2, k_fn3, k_fn4, k_fn5, k_fn6, s_fnp, k_fnp1, k_fnp2, k_fnp2r, k_fnp3, s_call, k_call, s_o1, s_o2, len_d, len_c, len_l, len_t, len_scr, len_s, clen_l, int_i, int_b, min_i, max_i, sq_dl, sq_cl, csq_l, lof_t, lof_l, tof_t, tof_l, s_meth, k_meth, k_meth_str, ok_str, mt_str1, mt_join, d_I0, d_mod, d_div, d_pow, d_shr, d_neg, d_mulL, d_mulR, d_mulS, d_addI, d_addS, d_addL, d_addT, s_seq, k_seq_nx, k_seq_rt, k_seq_bk, k_seq_ct, s_nil, s_ret, k_ret, s_retn, s_brk, s_cnt, s_expr, k_expr, s_sif, k_sif, s_set, k_set, s_asg, k_asg, rE_some, t_name, t_tup, t_cons, t_nil, s_par, k_par, s_par3, k_par3, s_raise, s_put, k_put, k_put2, k_put3, k_put4, put_is, s_for, k_for, s_while, s_iseq, as_l, as_t, as_s, as_scr, s_rg1, s_rg2, k_rg1, k_rg2, s_enum, k_enum_l, k_enum_s, s_zip, k_zip_l, k_zip_t, k_zip_s, s_off, k_of, rD_some, dats_mapd, s_flc, k_lc, wipe_nil, wipe_cons, s_celf, k_celf, s_flst, k_flst, k_fin_rt, k_fin_nx, start_nil, start_cons, repl_0, repl_S, s_caught, s_frz, k_frzd, s_fld, k_fld, s_rgl1, k_rgl1, s_rgl2, k_rgl, k_rgl2, s_flc2, k_lc2, s_new, k_new2, dk_cat, dk_cat2, dk_cat3, dk_nil, dk_cons, dk_val, dk_val2, dk_dicC, dk_dicC2, dk_dic, dk_dic2, dk_rK, dk_dat, dk_datn, eq_nn, ne_nn, lo_l, lo_t, lo_s, dk_frz, dk_rF, dk_cfrz, dk_methc, dk_rLst, dk_app, dk_rApp, dk_ext, dk_rExt, dk_snoc, dk_last, dk_setl, dk_putF, dk_putF2, dk_putF3, dk_putF4, dk_rPF, dk_new, dk_newT, dk_cfrzI, List.set_cons_zero, List.set_cons_succ, List.getElem?_cons_zero, List.getElem?_cons_succ, List.length_cons, List.length_nil, ↓reduceIte, Nat.reduceAdd, decide_eq_true_eq, Bool.not_true, Bool.not_false, Bool.true_and, Bool.false_and, Bool.and_true, Bool.and_false, Bool.or_true, Bool.or_false, Bool.true_or, Bool.false_or, reduceCtorEq, decide_true, decide_false, Bool.false_eq_true, Int.reduceLT, Int.reduceLE, Int.reduceNeg, Int.reduceAdd, Int.reduceSub, Int.reduceMul, Nat.reduceMul, Nat.reduceLeDiff, Nat.zero_add, Bool.not_not, beq_self_eq_true, bne_self_eq_false, not_true_eq_false, not_false_eq_true, Bool.not_eq_true, Option.some.injEq, List.map_cons, List.map_nil, List.isEmpty_cons, List.isEmpty_nil, and_self, and_true, true_and, Int.toNat_natCast, Int.natCast_nonneg, Int.reduceToNat, Int.reduceEq, Int.reduceNe, Nat.reduceLT, Int.reduceBEq, Int.reduceBNe, Bool.not_eq_eq_eq_not, eq_self, if_true, if_false, ite_self, b_past_of, start_cons, start_nil, repl_S, repl_0, q1, q2, q5]
theorem r_goes_past {a b : Wd} {n : Nat} {cs : List Cell} (ha : WOk' n a) (hb : WOk' n b) (h1 : 1 ≤ n) (hn : n ≤ 12) : m_goes_past [wd a.s a.l, wd b.s b.l] cs = .ok (.dat (.bl (gp a.l b.l))) cs := by
  have q := r_need_like (cs := cs) ha hb h1 hn
  have q2 := r_past_of (cs := cs) ha hb hn
  refine fn_ev ?_
  simp (disch := (first | assumption | omega | (simp only [List.length_cons, List.length_nil, List.length_map, List.length_append, List.length_replicate] <;> omega))) only [rb_ok, rb_exc, rb_bad, rb_ite, m_ret, m_badE, m_opt, m_optn, m_ite, rO_some, rO_none, rW_some, rW_none, rO_map, rW_map, s_var0, s_varS, s_c, s_bin, k_bin, s_lift, s_un, s_liftU, s_eqc, k_eqc, k_eqc2, eq_ii, ne_ii, eq_ss, ne_ss, eq_bb, ne_bb, s_cmpE, s_asB, s_tru, k_tru, rT_some, tru_d, tru_c, dtru_bl, dtru_non, dtru_int, dtru_lst, dtru_tup, s_and, s_or, s_not, k_and, k_or, k_not, s_yes, m_and, m_or, s_eand, k_eand, k_eand2, s_eor, k_eor, k_eor2, s_enot, k_enot, k_enot2, s_if, k_if, m_iteD, m_iteI, m_iteB, m_iteAnd, m_iteOr, m_iteS, s_chain, k_ch, k_ch2, k_ch3, k_ch4, s_anil, s_acons, k_arg, k_arg2, s_tup, s_lst, k_tup, k_lst, rL_some, dats_nil, dats_cons, opt_map_some, opt_map_none, opt_or_some, opt_or_none, opt_bind_some, s_ix, k_ix, k_ix2, wix_dd, wix_cd, ix_t, ix_l, ix_s, cix_l, cix_d, ix_d, at_0, at_1, at_2, s_sl, k_sl, k_sl2, k_sl3, s_onone, s_osome, k_asI, sl_d, sl_c, sl_l, sl_t, cut_hi, cut_lo, cut_lh, s_fn, k_fn0, k_fn1, k_fn2, k_fn3, k_fn4, k_fn5, k_fn6, s_fnp, k_fnp1, k_fnp2, k_fnp2r, k_fnp3, s_call, k_call, s_o1, s_o2, len_d, len_c, len_l, len_t, len_scr, len_s, clen_l, int_i, int_b, min_i, max_i, sq_dl, sq_cl, csq_l, lof_t, lof_l, tof_t, tof_l, s_meth, k_meth, k_meth_str, ok_str, mt_str1, mt_join, d_I0, d_mod, d_div, d_pow, d_shr, d_neg, d_mulL, d_mulR, d_mulS, d_addI, d_addS, d_addL, d_addT, s_seq, k_seq_nx, k_seq_rt, k_seq_bk, k_seq_ct, s_nil, s_ret, k_ret, s_retn, s_brk, s_cnt, s_expr, k_expr, s_sif, k_sif, s_set, k_set, s_asg, k_asg, rE_some, t_name, t_tup, t_cons, t_nil, s_par, k_par, s_par3, k_par3, s_raise, s_put, k_put, k_put2, k_put3, k_put4, put_is, s_for, k_for, s_while, s_iseq, as_l, as_t, as_s, as_scr, s_rg1, s_rg2, k_rg1, k_rg2, s_enum, k_enum_l, k_enum_s, s_zip, k_zip_l, k_zip_t, k_zip_s, s_off, k_of, rD_some, dats_mapd, s_flc, k_lc, wipe_nil, wipe_cons, s_celf, k_celf, s_flst, k_flst, k_fin_rt, k_fin_nx, start_nil, start_cons, repl_0, repl_S, s_caught, s_frz, k_frzd, s_fld, k_fld, s_rgl1, k_rgl1, s_rgl2, k_rgl, k_rgl2, s_flc2, k_lc2, s_new, k_new2, dk_cat, dk_cat2, dk_cat3, dk_nil, dk_cons, dk_val, dk_val2, dk_dicC, dk_dicC2, dk_dic, dk_dic2, dk_rK, dk_dat, dk_datn, eq_nn, ne_nn, lo_l, lo_t, lo_s, dk_frz, dk_rF, dk_cfrz, dk_methc, dk_rLst, dk_app, dk_rApp, dk_ext, dk_rExt, dk_snoc, dk_last, dk_setl, dk_putF, dk_putF2, dk_putF3, dk_putF4, dk_rPF, dk_new, dk_newT, dk_cfrzI, List.set_cons_zero, List.set_cons_succ, List.getElem?_cons_zero, List.getElem?_cons_succ, List.length_cons, List.length_nil, ↓reduceIte, Nat.reduceAdd, decide_eq_true_eq, Bool.not_true, Bool.not_false, Bool.true_and, Bool.false_and, Bool.and_true, Bool.and_false, Bool.or_true, Bool.or_false, Bool.true_or, Bool.false_or, reduceCtorEq, decide_true, decide_false, Bool.false_eq_true, Int.reduceLT, Int.reduceLE, Int.reduceNeg, Int.reduceAdd, Int.reduceSub, Int.reduceMul, Nat.reduceMul, Nat.reduceLeDiff, Nat.zero_add, Bool.not_not, beq_self_eq_true, bne_self_eq_false, not_true_eq_false, not_false_eq_true, Bool.not_eq_true, Option.some.injEq, List.map_cons, List.map_nil, List.isEmpty_cons, List.isEmpty_nil, and_self, and_true, true_and, Int.toNat_natCast, Int.natCast_nonneg, Int.reduceToNat, Int.reduceEq, Int.reduceNe, Nat.reduceLT, Int.reduceBEq, Int.reduceBNe, Bool.not_eq_eq_eq_not, eq_self, if_true, if_false, ite_self, b_goes_past, start_cons, start_nil, repl_S, repl_0, q, q2]
theorem count_c : ∀ l : List Nat, Fig l → decide (countIn (.str ⟨#[99]⟩) ((l.map chr4).map fun n => PyData.str ⟨#[n]⟩) % 2 = 0) = !cross l l
  | [], _ => rfl
  | x :: l, h => by
    have ih := count_c l (fig_tl h)
    have hx := h x List.mem_cons_self
    show decide (((if Spec.same (.str ⟨#[chr4 x]⟩) (.str ⟨#[99]⟩) then 1 else 0) + countIn (.str ⟨#[99]⟩) ((l.map chr4).map fun n => PyData.str ⟨#[n]⟩)) % 2 = 0) = !xor (decide (2 ≤ x) && decide (x % 2 = 1)) (cross l l)
    have key : ∀ k : Int, decide ((1 + k) % 2 = 0) = !decide (k % 2 = 0) := fun k => by
      by_cases hk : k % 2 = 0
      · rw [decide_eq_true hk, decide_eq_false (by omega)]; rfl
      · rw [decide_eq_false hk, decide_eq_true (by omega)]; rfl
    match x, hx with
    | 0, _ =>
      rw [show (Spec.same (.str ⟨#[chr4 0]⟩) (.str ⟨#[99]⟩)) = false from by decide +kernel, if_neg Bool.false_ne_true, Int.zero_add, ih]
      simp
    | 1, _ =>
      rw [show (Spec.same (.str ⟨#[chr4 1]⟩) (.str ⟨#[99]⟩)) = false from by decide +kernel, if_neg Bool.false_ne_true, Int.zero_add, ih]
      simp
    | 2, _ =>
      rw [show (Spec.same (.str ⟨#[chr4 2]⟩) (.str ⟨#[99]⟩)) = false from by decide +kernel, if_neg Bool.false_ne_true, Int.zero_add, ih]
      simp
    | 3, _ =>
      rw [show (Spec.same (.str ⟨#[chr4 3]⟩) (.str ⟨#[99]⟩)) = true from by decide +kernel, if_pos rfl, key, ih]
      simp
theorem cnt_dec {l : List Nat} (fl : Fig l) : decide (Txt.count (strOf l) "c" % 2 = 0) = !cross l l := by
  rw [← count_c l fl, show (("c" : Str)) = ⟨#[99]⟩ from rfl, count_is]
  rfl
theorem r_is_turning {s : Int} {l : List Nat} {cs : List Cell} (fl : Fig l) : m_is_turning [wd s l] cs = .ok (.dat (.bl (!cross l l))) cs := by
  have q := cnt_dec fl
  refine fn_ev ?_
  simp (disch := (first | assumption | omega | (simp only [List.length_cons, List.length_nil, List.length_map, List.length_append, List.length_replicate] <;> omega))) only [rb_ok, rb_exc, rb_bad, rb_ite, m_ret, m_badE, m_opt, m_optn, m_ite, rO_some, rO_none, rW_some, rW_none, rO_map, rW_map, s_var0, s_varS, s_c, s_bin, k_bin, s_lift, s_un, s_liftU, s_eqc, k_eqc, k_eqc2, eq_ii, ne_ii, eq_ss, ne_ss, eq_bb, ne_bb, s_cmpE, s_asB, s_tru, k_tru, rT_some, tru_d, tru_c, dtru_bl, dtru_non, dtru_int, dtru_lst, dtru_tup, s_and, s_or, s_not, k_and, k_or, k_not, s_yes, m_and, m_or, s_eand, k_eand, k_eand2, s_eor, k_eor, k_eor2, s_enot, k_enot, k_enot2, s_if, k_if, m_iteD, m_iteI, m_iteB, m_iteAnd, m_iteOr, m_iteS, s_chain, k_ch, k_ch2, k_ch3, k_ch4, s_anil, s_acons, k_arg, k_arg2, s_tup, s_lst, k_tup, k_lst, rL_some, dats_nil, dats_cons, opt_map_some, opt_map_none, opt_or_some, opt_or_none, opt_bind_some, s_ix, k_ix, k_ix2, wix_dd, wix_cd, ix_t, ix_l, ix_s, cix_l, cix_d, ix_d, at_0, at_1, at_2, s_sl, k_sl, k_sl2, k_sl3, s_onone, s_osome, k_asI, sl_d, sl_c, sl_l, sl_t, cut_hi, cut_lo, cut_lh, s_fn, k_fn0, k_fn1, k_fn2, k_fn3, k_fn4, k_fn5, k_fn6, s_fnp, k_fnp1, k_fnp2, k_fnp2r, k_fnp3, s_call, k_call, s_o1, s_o2, len_d, len_c, len_l, len_t, len_scr, len_s, clen_l, int_i, int_b, min_i, max_i, sq_dl, sq_cl, csq_l, lof_t, lof_l, tof_t, tof_l, s_meth, k_meth, k_meth_str, ok_str, mt_str1, mt_join, d_I0, d_mod, d_div, d_pow, d_shr, d_neg, d_mulL, d_mulR, d_mulS, d_addI, d_addS, d_addL, d_addT, s_seq, k_seq_nx, k_seq_rt, k_seq_bk, k_seq_ct, s_nil, s_ret, k_ret, s_retn, s_brk, s_cnt, s_expr, k_expr, s_sif, k_sif, s_set, k_set, s_asg, k_asg, rE_some, t_name, t_tup, t_cons, t_nil, s_par, k_par, s_par3, k_par3, s_raise, s_put, k_put, k_put2, k_put3, k_put4, put_is, s_for, k_for, s_while, s_iseq, as_l, as_t, as_s, as_scr, s_rg1, s_rg2, k_rg1, k_rg2, s_enum, k_enum_l, k_enum_s, s_zip, k_zip_l, k_zip_t, k_zip_s, s_off, k_of, rD_some, dats_mapd, s_flc, k_lc, wipe_nil, wipe_cons, s_celf, k_celf, s_flst, k_flst, k_fin_rt, k_fin_nx, start_nil, start_cons, repl_0, repl_S, s_caught, s_frz, k_frzd, s_fld, k_fld, s_rgl1, k_rgl1, s_rgl2, k_rgl, k_rgl2, s_flc2, k_lc2, s_new, k_new2, dk_cat, dk_cat2, dk_cat3, dk_nil, dk_cons, dk_val, dk_val2, dk_dicC, dk_dicC2, dk_dic, dk_dic2, dk_rK, dk_dat, dk_datn, eq_nn, ne_nn, lo_l, lo_t, lo_s, dk_frz, dk_rF, dk_cfrz, dk_methc, dk_rLst, dk_app, dk_rApp, dk_ext, dk_rExt, dk_snoc, dk_last, dk_setl, dk_putF, dk_putF2, dk_putF3, dk_putF4, dk_rPF, dk_new, dk_newT, dk_cfrzI, List.set_cons_zero, List.set_cons_succ, List.getElem?_cons_zero, List.getElem?_cons_succ, List.length_cons, List.length_nil, ↓reduceIte, Nat.reduceAdd, decide_eq_true_eq, Bool.not_true, Bool.not_false, Bool.true_and, Bool.false_and, Bool.and_true, Bool.and_false, Bool.or_true, Bool.or_false, Bool.true_or, Bool.false_or, reduceCtorEq, decide_true, decide_false, Bool.false_eq_true, Int.reduceLT, Int.reduceLE, Int.reduceNeg, Int.reduceAdd, Int.reduceSub, Int.reduceMul, Nat.reduceMul, Nat.reduceLeDiff, Nat.zero_add, Bool.not_not, beq_self_eq_true, bne_self_eq_false, not_true_eq_false, not_false_eq_true, Bool.not_eq_true, Option.some.injEq, List.map_cons, List.map_nil, List.isEmpty_cons, List.isEmpty_nil, and_self, and_true, true_and, Int.toNat_natCast, Int.natCast_nonneg, Int.reduceToNat, Int.reduceEq, Int.reduceNe, Nat.reduceLT, Int.reduceBEq, Int.reduceBNe, Bool.not_eq_eq_eq_not, eq_self, if_true, if_false, ite_self, b_is_turning, start_cons, start_nil, repl_S, repl_0, dix_w1, kCount, q]
theorem r_is_turner {a : Wd} {n : Nat} {cs : List Cell} (ha : WOk' n a) (h1 : 1 ≤ n) (hn : n ≤ 12) : m_is_turner [wd a.s a.l] cs = .ok (.dat (.bl (!cross a.l a.l))) cs := by
  have q := r_need_word (cs := cs) ha h1 hn
  have q2 := r_is_turning (s := a.s) (cs := cs) ha.fig
  refine fn_ev ?_
  simp (disch := (first | assumption | omega | (simp only [List.length_cons, List.length_nil, List.length_map, List.length_append, List.length_replicate] <;> omega))) only [rb_ok, rb_exc, rb_bad, rb_ite, m_ret, m_badE, m_opt, m_optn, m_ite, rO_some, rO_none, rW_some, rW_none, rO_map, rW_map, s_var0, s_varS, s_c, s_bin, k_bin, s_lift, s_un, s_liftU, s_eqc, k_eqc, k_eqc2, eq_ii, ne_ii, eq_ss, ne_ss, eq_bb, ne_bb, s_cmpE, s_asB, s_tru, k_tru, rT_some, tru_d, tru_c, dtru_bl, dtru_non, dtru_int, dtru_lst, dtru_tup, s_and, s_or, s_not, k_and, k_or, k_not, s_yes, m_and, m_or, s_eand, k_eand, k_eand2, s_eor, k_eor, k_eor2, s_enot, k_enot, k_enot2, s_if, k_if, m_iteD, m_iteI, m_iteB, m_iteAnd, m_iteOr, m_iteS, s_chain, k_ch, k_ch2, k_ch3, k_ch4, s_anil, s_acons, k_arg, k_arg2, s_tup, s_lst, k_tup, k_lst, rL_some, dats_nil, dats_cons, opt_map_some, opt_map_none, opt_or_some, opt_or_none, opt_bind_some, s_ix, k_ix, k_ix2, wix_dd, wix_cd, ix_t, ix_l, ix_s, cix_l, cix_d, ix_d, at_0, at_1, at_2, s_sl, k_sl, k_sl2, k_sl3, s_onone, s_osome, k_asI, sl_d, sl_c, sl_l, sl_t, cut_hi, cut_lo, cut_lh, s_fn, k_fn0, k_fn1, k_fn2, k_fn3, k_fn4, k_fn5, k_fn6, s_fnp, k_fnp1, k_fnp2, k_fnp2r, k_fnp3, s_call, k_call, s_o1, s_o2, len_d, len_c, len_l, len_t, len_scr, len_s, clen_l, int_i, int_b, min_i, max_i, sq_dl, sq_cl, csq_l, lof_t, lof_l, tof_t, tof_l, s_meth, k_meth, k_meth_str, ok_str, mt_str1, mt_join, d_I0, d_mod, d_div, d_pow, d_shr, d_neg, d_mulL, d_mulR, d_mulS, d_addI, d_addS, d_addL, d_addT, s_seq, k_seq_nx, k_seq_rt, k_seq_bk, k_seq_ct, s_nil, s_ret, k_ret, s_retn, s_brk, s_cnt, s_expr, k_expr, s_sif, k_sif, s_set, k_set, s_asg, k_asg, rE_some, t_name, t_tup, t_cons, t_nil, s_par, k_par, s_par3, k_par3, s_raise, s_put, k_put, k_put2, k_put3, k_put4, put_is, s_for, k_for, s_while, s_iseq, as_l, as_t, as_s, as_scr, s_rg1, s_rg2, k_rg1, k_rg2, s_enum, k_enum_l, k_enum_s, s_zip, k_zip_l, k_zip_t, k_zip_s, s_off, k_of, rD_some, dats_mapd, s_flc, k_lc, wipe_nil, wipe_cons, s_celf, k_celf, s_flst, k_flst, k_fin_rt, k_fin_nx, start_nil, start_cons, repl_0, repl_S, s_caught, s_frz, k_frzd, s_fld, k_fld, s_rgl1, k_rgl1, s_rgl2, k_rgl, k_rgl2, s_flc2, k_lc2, s_new, k_new2, dk_cat, dk_cat2, dk_cat3, dk_nil, dk_cons, dk_val, dk_val2, dk_dicC, dk_dicC2, dk_dic, dk_dic2, dk_rK, dk_dat, dk_datn, eq_nn, ne_nn, lo_l, lo_t, lo_s, dk_frz, dk_rF, dk_cfrz, dk_methc, dk_rLst, dk_app, dk_rApp, dk_ext, dk_rExt, dk_snoc, dk_last, dk_setl, dk_putF, dk_putF2, dk_putF3, dk_putF4, dk_rPF, dk_new, dk_newT, dk_cfrzI, List.set_cons_zero, List.set_cons_succ, List.getElem?_cons_zero, List.getElem?_cons_succ, List.length_cons, List.length_nil, ↓reduceIte, Nat.reduceAdd, decide_eq_true_eq, Bool.not_true, Bool.not_false, Bool.true_and, Bool.false_and, Bool.and_true, Bool.and_false, Bool.or_true, Bool.or_false, Bool.true_or, Bool.false_or, reduceCtorEq, decide_true, decide_false, Bool.false_eq_true, Int.reduceLT, Int.reduceLE, Int.reduceNeg, Int.reduceAdd, Int.reduceSub, Int.reduceMul, Nat.reduceMul, Nat.reduceLeDiff, Nat.zero_add, Bool.not_not, beq_self_eq_true, bne_self_eq_false, not_true_eq_false, not_false_eq_true, Bool.not_eq_true, Option.some.injEq, List.map_cons, List.map_nil, List.isEmpty_cons, List.isEmpty_nil, and_self, and_true, true_and, Int.toNat_natCast, Int.natCast_nonneg, Int.reduceToNat, Int.reduceEq, Int.reduceNe, Nat.reduceLT, Int.reduceBEq, Int.reduceBNe, Bool.not_eq_eq_eq_not, eq_self, if_true, if_false, ite_self, b_is_turner, start_cons, start_nil, repl_S, repl_0, q, q2]
theorem r_minus {s : Int} {l : List Nat} {cs : List Cell} : m__law_minus [wd s l] cs = .ok (wd (-s) l) cs := rfl
theorem r_says {b c : Bool} {cs : List Cell} : m__law_says [.dat (.bl b), .dat (.bl c)] cs = .ok (.dat (.bl (b == c))) cs := by
  cases b <;> cases c <;> rfl
theorem mul_one (n : Nat) : Txt.mul "1" n = strOf (List.replicate n 0) := by
  have h := mul_one_list 49 (n : Int)
  rw [show ("1" : Str) = ⟨#[49]⟩ from rfl]
  have e : (Txt.mul ⟨#[49]⟩ (n : Int)).cps = (strOf (List.replicate n 0)).cps := by
    apply Array.ext'
    rw [h]
    simp [strOf, chr4]
  cases hh : Txt.mul ⟨#[49]⟩ (n : Int)
  rw [hh] at e
  exact congrArg Str.mk e
def nothing (n : Nat) (s : Int) : Wd := ⟨s, List.replicate n 0⟩
theorem one_len : ("1" : Str).length = 1 := (rfl)
theorem r_nothing {n : Nat} {s : Int} {cs : List Cell} (hn : n ≤ 12) : m__law_nothing [.dat (.int n), .dat (.int s)] cs = .ok (wd (nothing n s).s (nothing n s).l) cs := by
  have h := one_len
  have h2 : ("1" : Str).length * ((n : Int)).toNat ≤ 16777216 := by rw [h]; omega
  have e := mul_one n
  refine fn_ev ?_
  simp (disch := (first | assumption | omega | (simp only [List.length_cons, List.length_nil, List.length_map, List.length_append, List.length_replicate] <;> omega))) only [rb_ok, rb_exc, rb_bad, rb_ite, m_ret, m_badE, m_opt, m_optn, m_ite, rO_some, rO_none, rW_some, rW_none, rO_map, rW_map, s_var0, s_varS, s_c, s_bin, k_bin, s_lift, s_un, s_liftU, s_eqc, k_eqc, k_eqc2, eq_ii, ne_ii, eq_ss, ne_ss, eq_bb, ne_bb, s_cmpE, s_asB, s_tru, k_tru, rT_some, tru_d, tru_c, dtru_bl, dtru_non, dtru_int, dtru_lst, dtru_tup, s_and, s_or, s_not, k_and, k_or, k_not, s_yes, m_and, m_or, s_eand, k_eand, k_eand2, s_eor, k_eor, k_eor2, s_enot, k_enot, k_enot2, s_if, k_if, m_iteD, m_iteI, m_iteB, m_iteAnd, m_iteOr, m_iteS, s_chain, k_ch, k_ch2, k_ch3, k_ch4, s_anil, s_acons, k_arg, k_arg2, s_tup, s_lst, k_tup, k_lst, rL_some, dats_nil, dats_cons, opt_map_some, opt_map_none, opt_or_some, opt_or_none, opt_bind_some, s_ix, k_ix, k_ix2, wix_dd, wix_cd, ix_t, ix_l, ix_s, cix_l, cix_d, ix_d, at_0, at_1, at_2, s_sl, k_sl, k_sl2, k_sl3, s_onone, s_osome, k_asI, sl_d, sl_c, sl_l, sl_t, cut_hi, cut_lo, cut_lh, s_fn, k_fn0, k_fn1, k_fn2, k_fn3, k_fn4, k_fn5, k_fn6, s_fnp, k_fnp1, k_fnp2, k_fnp2r, k_fnp3, s_call, k_call, s_o1, s_o2, len_d, len_c, len_l, len_t, len_scr, len_s, clen_l, int_i, int_b, min_i, max_i, sq_dl, sq_cl, csq_l, lof_t, lof_l, tof_t, tof_l, s_meth, k_meth, k_meth_str, ok_str, mt_str1, mt_join, d_I0, d_mod, d_div, d_pow, d_shr, d_neg, d_mulL, d_mulR, d_mulS, d_addI, d_addS, d_addL, d_addT, s_seq, k_seq_nx, k_seq_rt, k_seq_bk, k_seq_ct, s_nil, s_ret, k_ret, s_retn, s_brk, s_cnt, s_expr, k_expr, s_sif, k_sif, s_set, k_set, s_asg, k_asg, rE_some, t_name, t_tup, t_cons, t_nil, s_par, k_par, s_par3, k_par3, s_raise, s_put, k_put, k_put2, k_put3, k_put4, put_is, s_for, k_for, s_while, s_iseq, as_l, as_t, as_s, as_scr, s_rg1, s_rg2, k_rg1, k_rg2, s_enum, k_enum_l, k_enum_s, s_zip, k_zip_l, k_zip_t, k_zip_s, s_off, k_of, rD_some, dats_mapd, s_flc, k_lc, wipe_nil, wipe_cons, s_celf, k_celf, s_flst, k_flst, k_fin_rt, k_fin_nx, start_nil, start_cons, repl_0, repl_S, s_caught, s_frz, k_frzd, s_fld, k_fld, s_rgl1, k_rgl1, s_rgl2, k_rgl, k_rgl2, s_flc2, k_lc2, s_new, k_new2, dk_cat, dk_cat2, dk_cat3, dk_nil, dk_cons, dk_val, dk_val2, dk_dicC, dk_dicC2, dk_dic, dk_dic2, dk_rK, dk_dat, dk_datn, eq_nn, ne_nn, lo_l, lo_t, lo_s, dk_frz, dk_rF, dk_cfrz, dk_methc, dk_rLst, dk_app, dk_rApp, dk_ext, dk_rExt, dk_snoc, dk_last, dk_setl, dk_putF, dk_putF2, dk_putF3, dk_putF4, dk_rPF, dk_new, dk_newT, dk_cfrzI, List.set_cons_zero, List.set_cons_succ, List.getElem?_cons_zero, List.getElem?_cons_succ, List.length_cons, List.length_nil, ↓reduceIte, Nat.reduceAdd, decide_eq_true_eq, Bool.not_true, Bool.not_false, Bool.true_and, Bool.false_and, Bool.and_true, Bool.and_false, Bool.or_true, Bool.or_false, Bool.true_or, Bool.false_or, reduceCtorEq, decide_true, decide_false, Bool.false_eq_true, Int.reduceLT, Int.reduceLE, Int.reduceNeg, Int.reduceAdd, Int.reduceSub, Int.reduceMul, Nat.reduceMul, Nat.reduceLeDiff, Nat.zero_add, Bool.not_not, beq_self_eq_true, bne_self_eq_false, not_true_eq_false, not_false_eq_true, Bool.not_eq_true, Option.some.injEq, List.map_cons, List.map_nil, List.isEmpty_cons, List.isEmpty_nil, and_self, and_true, true_and, Int.toNat_natCast, Int.natCast_nonneg, Int.reduceToNat, Int.reduceEq, Int.reduceNe, Nat.reduceLT, Int.reduceBEq, Int.reduceBNe, Bool.not_eq_eq_eq_not, eq_self, if_true, if_false, ite_self, b__law_nothing, start_cons, start_nil, repl_S, repl_0, e]
  rfl
end DX

set_option Elab.async false
set_option linter.all false
set_option maxRecDepth 100000
set_option maxHeartbeats 1000000
/-! LY: drawn words; the law's own putting together. -/
namespace DX
open PySem PySem.Spec PyProof.Rows L2
/-! drawn words -/
theorem four_mem {x : Dt} (h : x ∈ ([.str "1", .str "a", .str "b", .str "c"] : List Dt)) : ∃ c, c < 4 ∧ x = .str (strOf [c]) := by
  simp only [List.mem_cons, List.not_mem_nil, or_false] at h
  rcases h with rfl | rfl | rfl | rfl
  · exact ⟨0, by decide, rfl⟩
  · exact ⟨1, by decide, rfl⟩
  · exact ⟨2, by decide, rfl⟩
  · exact ⟨3, by decide, rfl⟩
theorem word_loop (B : Option Wv) {xt : List Cell} : ∀ (ws : List Wv) (d : List Nat) (cs : List Cell) (t : Nat) (e3 : Option Wv), Fig d → d.length + ws.length ≤ 12 → St cs xt t → t + ws.length < 1000000 →
    ∃ d' cs' e3', loopS (tName 3) lb__law_word_0 ws [some (.cel 1), B, some (.dat (.str (strOf d))), e3] cs = .ok (.nx [some (.cel 1), B, some (.dat (.str (strOf d'))), e3']) cs' ∧ d'.length = d.length + ws.length ∧ Fig d' ∧ St cs' xt (t + ws.length)
  | [], d, cs, t, e3, fd, _, hs, _ => ⟨d, cs, e3, rfl, rfl, fd, hs⟩
  | w :: ws, d, cs, t, e3, fd, hd, hs, ht => by
    simp only [List.length_cons] at hd ht
    obtain ⟨x, cs1, q, hm, s1⟩ := r_pick (l := [.str "1", .str "a", .str "b", .str "c"]) hs (by omega) (by decide) (by decide)
    obtain ⟨c, hc, rfl⟩ := four_mem hm
    have fd' : Fig (d ++ [c]) := fun z hz => (List.mem_append.mp hz).elim (fd z) fun h => by simp at h; omega
    obtain ⟨d', cs', e3', ih, h1, h2, h3⟩ := word_loop B ws (d ++ [c]) cs1 (t + 1) (some w) fd' (by simp; omega) s1 (by omega)
    refine ⟨d', cs', e3', ?_, by simp at h1 ⊢; omega, h2, h3.mono (by simp; omega)⟩
    have l1 := strOf_len d
    have l2 : (strOf [c]).length = 1 := strOf_len [c]
    have b1 : lb__law_word_0 [some (.cel 1), B, some (.dat (.str (strOf d))), some w] cs = .ok (.nx [some (.cel 1), B, some (.dat (.str (strOf (d ++ [c])))), some w]) cs1 := by
      simp (disch := (first | assumption | omega | (simp only [List.length_cons, List.length_nil, List.length_map, List.length_append, List.length_replicate] <;> omega))) only [rb_ok, rb_exc, rb_bad, rb_ite, m_ret, m_badE, m_opt, m_optn, m_ite, rO_some, rO_none, rW_some, rW_none, rO_map, rW_map, s_var0, s_varS, s_c, s_bin, k_bin, s_lift, s_un, s_liftU, s_eqc, k_eqc, k_eqc2, eq_ii, ne_ii, eq_ss, ne_ss, eq_bb, ne_bb, s_cmpE, s_asB, s_tru, k_tru, rT_some, tru_d, tru_c, dtru_bl, dtru_non, dtru_int, dtru_lst, dtru_tup, s_and, s_or, s_not, k_and, k_or, k_not, s_yes, m_and, m_or, s_eand, k_eand, k_eand2, s_eor, k_eor, k_eor2, s_enot, k_enot, k_enot2, s_if, k_if, m_iteD, m_iteI, m_iteB, m_iteAnd, m_iteOr, m_iteS, s_chain, k_ch, k_ch2, k_ch3, k_ch4, s_anil, s_acons, k_arg, k_arg2, s_tup, s_lst, k_tup, k_lst, rL_some, dats_nil, dats_cons, opt_map_some, opt_map_none, opt_or_some, opt_or_none, opt_bind_some, s_ix, k_ix, k_ix2, wix_dd, wix_cd, ix_t, ix_l, ix_s, cix_l, cix_d, ix_d, at_0, at_1, at_2, s_sl, k_sl, k_sl2, k_sl3, s_onone, s_osome, k_asI, sl_d, sl_c, sl_l, sl_t, cut_hi, cut_lo, cut_lh, s_fn, k_fn0, k_fn1, k_fn2, k_fn3, k_fn4, k_fn5, k_fn6, s_fnp, k_fnp1, k_fnp2, k_fnp2r, k_fnp3, s_call, k_call, s_o1, s_o2, len_d, len_c, len_l, len_t, len_scr, len_s, clen_l, int_i, int_b, min_i, max_i, sq_dl, sq_cl, csq_l, lof_t, lof_l, tof_t, tof_l, s_meth, k_meth, k_meth_str, ok_str, mt_str1, mt_join, d_I0, d_mod, d_div, d_pow, d_shr, d_neg, d_mulL, d_mulR, d_mulS, d_addI, d_addS, d_addL, d_addT, s_seq, k_seq_nx, k_seq_rt, k_seq_bk, k_seq_ct, s_nil, s_ret, k_ret, s_retn, s_brk, s_cnt, s_expr, k_expr, s_sif, k_sif, s_set, k_set, s_asg, k_asg, rE_some, t_name, t_tup, t_cons, t_nil, s_par, k_par, s_par3, k_par3, s_raise, s_put, k_put, k_put2, k_put3, k_put4, put_is, s_for, k_for, s_while, s_iseq, as_l, as_t, as_s, as_scr, s_rg1, s_rg2, k_rg1, k_rg2, s_enum, k_enum_l, k_enum_s, s_zip, k_zip_l, k_zip_t, k_zip_s, s_off, k_of, rD_some, dats_mapd, s_flc, k_lc, wipe_nil, wipe_cons, s_celf, k_celf, s_flst, k_flst, k_fin_rt, k_fin_nx, start_nil, start_cons, repl_0, repl_S, s_caught, s_frz, k_frzd, s_fld, k_fld, s_rgl1, k_rgl1, s_rgl2, k_rgl, k_rgl2, s_flc2, k_lc2, s_new, k_new2, dk_cat, dk_cat2, dk_cat3, dk_nil, dk_cons, dk_val, dk_val2, dk_dicC, dk_dicC2, dk_dic, dk_dic2, dk_rK, dk_dat, dk_datn, eq_nn, ne_nn, lo_l, lo_t, lo_s, dk_frz, dk_rF, dk_cfrz, dk_methc, dk_rLst, dk_app, dk_rApp, dk_ext, dk_rExt, dk_snoc, dk_last, dk_setl, dk_putF, dk_putF2, dk_putF3, dk_putF4, dk_rPF, dk_new, dk_newT, dk_cfrzI, List.set_cons_zero, List.set_cons_succ, List.getElem?_cons_zero, List.getElem?_cons_succ, List.length_cons, List.length_nil, ↓reduceIte, Nat.reduceAdd, decide_eq_true_eq, Bool.not_true, Bool.not_false, Bool.true_and, Bool.false_and, Bool.and_true, Bool.and_false, Bool.or_true, Bool.or_false, Bool.true_or, Bool.false_or, reduceCtorEq, decide_true, decide_false, Bool.false_eq_true, Int.reduceLT, Int.reduceLE, Int.reduceNeg, Int.reduceAdd, Int.reduceSub, Int.reduceMul, Nat.reduceMul, Nat.reduceLeDiff, Nat.zero_add, Bool.not_not, beq_self_eq_true, bne_self_eq_false, not_true_eq_false, not_false_eq_true, Bool.not_eq_true, Option.some.injEq, List.map_cons, List.map_nil, List.isEmpty_cons, List.isEmpty_nil, and_self, and_true, true_and, Int.toNat_natCast, Int.natCast_nonneg, Int.reduceToNat, Int.reduceEq, Int.reduceNe, Nat.reduceLT, Int.reduceBEq, Int.reduceBNe, Bool.not_eq_eq_eq_not, eq_self, if_true, if_false, ite_self, lb__law_word_0, q]
      rw [strOf_app]
    rw [loopS, mb]
    simp (disch := (first | assumption | omega | (simp only [List.length_cons, List.length_nil, List.length_map, List.length_append, List.length_replicate] <;> omega))) only [rb_ok, rb_exc, rb_bad, rb_ite, m_ret, m_badE, m_opt, m_optn, m_ite, rO_some, rO_none, rW_some, rW_none, rO_map, rW_map, s_var0, s_varS, s_c, s_bin, k_bin, s_lift, s_un, s_liftU, s_eqc, k_eqc, k_eqc2, eq_ii, ne_ii, eq_ss, ne_ss, eq_bb, ne_bb, s_cmpE, s_asB, s_tru, k_tru, rT_some, tru_d, tru_c, dtru_bl, dtru_non, dtru_int, dtru_lst, dtru_tup, s_and, s_or, s_not, k_and, k_or, k_not, s_yes, m_and, m_or, s_eand, k_eand, k_eand2, s_eor, k_eor, k_eor2, s_enot, k_enot, k_enot2, s_if, k_if, m_iteD, m_iteI, m_iteB, m_iteAnd, m_iteOr, m_iteS, s_chain, k_ch, k_ch2, k_ch3, k_ch4, s_anil, s_acons, k_arg, k_arg2, s_tup, s_lst, k_tup, k_lst, rL_some, dats_nil, dats_cons, opt_map_some, opt_map_none, opt_or_some, opt_or_none, opt_bind_some, s_ix, k_ix, k_ix2, wix_dd, wix_cd, ix_t, ix_l, ix_s, cix_l, cix_d, ix_d, at_0, at_1, at_2, s_sl, k_sl, k_sl2, k_sl3, s_onone, s_osome, k_asI, sl_d, sl_c, sl_l, sl_t, cut_hi, cut_lo, cut_lh, s_fn, k_fn0, k_fn1, k_fn2, k_fn3, k_fn4, k_fn5, k_fn6, s_fnp, k_fnp1, k_fnp2, k_fnp2r, k_fnp3, s_call, k_call, s_o1, s_o2, len_d, len_c, len_l, len_t, len_scr, len_s, clen_l, int_i, int_b, min_i, max_i, sq_dl, sq_cl, csq_l, lof_t, lof_l, tof_t, tof_l, s_meth, k_meth, k_meth_str, ok_str, mt_str1, mt_join, d_I0, d_mod, d_div, d_pow, d_shr, d_neg, d_mulL, d_mulR, d_mulS, d_addI, d_addS, d_addL, d_addT, s_seq, k_seq_nx, k_seq_rt, k_seq_bk, k_seq_ct, s_nil, s_ret, k_ret, s_retn, s_brk, s_cnt, s_expr, k_expr, s_sif, k_sif, s_set, k_set, s_asg, k_asg, rE_some, t_name, t_tup, t_cons, t_nil, s_par, k_par, s_par3, k_par3, s_raise, s_put, k_put, k_put2, k_put3, k_put4, put_is, s_for, k_for, s_while, s_iseq, as_l, as_t, as_s, as_scr, s_rg1, s_rg2, k_rg1, k_rg2, s_enum, k_enum_l, k_enum_s, s_zip, k_zip_l, k_zip_t, k_zip_s, s_off, k_of, rD_some, dats_mapd, s_flc, k_lc, wipe_nil, wipe_cons, s_celf, k_celf, s_flst, k_flst, k_fin_rt, k_fin_nx, start_nil, start_cons, repl_0, repl_S, s_caught, s_frz, k_frzd, s_fld, k_fld, s_rgl1, k_rgl1, s_rgl2, k_rgl, k_rgl2, s_flc2, k_lc2, s_new, k_new2, dk_cat, dk_cat2, dk_cat3, dk_nil, dk_cons, dk_val, dk_val2, dk_dicC, dk_dicC2, dk_dic, dk_dic2, dk_rK, dk_dat, dk_datn, eq_nn, ne_nn, lo_l, lo_t, lo_s, dk_frz, dk_rF, dk_cfrz, dk_methc, dk_rLst, dk_app, dk_rApp, dk_ext, dk_rExt, dk_snoc, dk_last, dk_setl, dk_putF, dk_putF2, dk_putF3, dk_putF4, dk_rPF, dk_new, dk_newT, dk_cfrzI, List.set_cons_zero, List.set_cons_succ, List.getElem?_cons_zero, List.getElem?_cons_succ, List.length_cons, List.length_nil, ↓reduceIte, Nat.reduceAdd, decide_eq_true_eq, Bool.not_true, Bool.not_false, Bool.true_and, Bool.false_and, Bool.and_true, Bool.and_false, Bool.or_true, Bool.or_false, Bool.true_or, Bool.false_or, reduceCtorEq, decide_true, decide_false, Bool.false_eq_true, Int.reduceLT, Int.reduceLE, Int.reduceNeg, Int.reduceAdd, Int.reduceSub, Int.reduceMul, Nat.reduceMul, Nat.reduceLeDiff, Nat.zero_add, Bool.not_not, beq_self_eq_true, bne_self_eq_false, not_true_eq_false, not_false_eq_true, Bool.not_eq_true, Option.some.injEq, List.map_cons, List.map_nil, List.isEmpty_cons, List.isEmpty_nil, and_self, and_true, true_and, Int.toNat_natCast, Int.natCast_nonneg, Int.reduceToNat, Int.reduceEq, Int.reduceNe, Nat.reduceLT, Int.reduceBEq, Int.reduceBNe, Bool.not_eq_eq_eq_not, eq_self, if_true, if_false, ite_self, mb, b1]
    exact ih
theorem r_word {cs xt : List Cell} {t n : Nat} (hs : St cs xt t) (ht : t + 20 < 1000000) (hn : n ≤ 12) : ∃ a cs', m__law_word [.cel 1, .dat (.int n)] cs = .ok (wd a.s a.l) cs' ∧ WOk' n a ∧ St cs' xt (t + n + 1) := by
  obtain ⟨d, cs1, e3, q, h1, h2, s1⟩ := word_loop (some (.dat (.int n))) (rangeW 0 n) [] cs t none (by intro x hx; simp at hx) (by simp [rangeW]; omega) hs (by simp [rangeW]; omega)
  have hd : d.length = n := by simpa [rangeW] using h1
  have s1 : St cs1 xt (t + n) := by simpa [rangeW] using s1
  obtain ⟨x, cs2, q2, hm, s2⟩ := r_pick (l := [.int 1, .int 1, .int (-1)]) s1 (by omega) (by decide) (by decide)
  have hx : ∃ s, Sg s ∧ x = .int s := by
    simp only [List.mem_cons, List.not_mem_nil, or_false] at hm
    rcases hm with rfl | rfl | rfl
    · exact ⟨1, .inl rfl, rfl⟩
    · exact ⟨1, .inl rfl, rfl⟩
    · exact ⟨-1, .inr rfl, rfl⟩
  obtain ⟨s, hsg, rfl⟩ := hx
  refine ⟨⟨s, d⟩, cs2, fn_ev ?_, ⟨hsg, hd, h2⟩, s2⟩
  rw [show strOf [] = ("" : Str) from rfl] at q
  simp (disch := (first | assumption | omega | (simp only [List.length_cons, List.length_nil, List.length_map, List.length_append, List.length_replicate] <;> omega))) only [rb_ok, rb_exc, rb_bad, rb_ite, m_ret, m_badE, m_opt, m_optn, m_ite, rO_some, rO_none, rW_some, rW_none, rO_map, rW_map, s_var0, s_varS, s_c, s_bin, k_bin, s_lift, s_un, s_liftU, s_eqc, k_eqc, k_eqc2, eq_ii, ne_ii, eq_ss, ne_ss, eq_bb, ne_bb, s_cmpE, s_asB, s_tru, k_tru, rT_some, tru_d, tru_c, dtru_bl, dtru_non, dtru_int, dtru_lst, dtru_tup, s_and, s_or, s_not, k_and, k_or, k_not, s_yes, m_and, m_or, s_eand, k_eand, k_eand2, s_eor, k_eor, k_eor2, s_enot, k_enot, k_enot2, s_if, k_if, m_iteD, m_iteI, m_iteB, m_iteAnd, m_iteOr, m_iteS, s_chain, k_ch, k_ch2, k_ch3, k_ch4, s_anil, s_acons, k_arg, k_arg2, s_tup, s_lst, k_tup, k_lst, rL_some, dats_nil, dats_cons, opt_map_some, opt_map_none, opt_or_some, opt_or_none, opt_bind_some, s_ix, k_ix, k_ix2, wix_dd, wix_cd, ix_t, ix_l, ix_s, cix_l, cix_d, ix_d, at_0, at_1, at_2, s_sl, k_sl, k_sl2, k_sl3, s_onone, s_osome, k_asI, sl_d, sl_c, sl_l, sl_t, cut_hi, cut_lo, cut_lh, s_fn, k_fn0, k_fn1, k_fn2, k_fn3, k_fn4, k_fn5, k_fn6, s_fnp, k_fnp1, k_fnp2, k_fnp2r, k_fnp3, s_call, k_call, s_o1, s_o2, len_d, len_c, len_l, len_t, len_scr, len_s, clen_l, int_i, int_b, min_i, max_i, sq_dl, sq_cl, csq_l, lof_t, lof_l, tof_t, tof_l, s_meth, k_meth, k_meth_str, ok_str, mt_str1, mt_join, d_I0, d_mod, d_div, d_pow, d_shr, d_neg, d_mulL, d_mulR, d_mulS, d_addI, d_addS, d_addL, d_addT, s_seq, k_seq_nx, k_seq_rt, k_seq_bk, k_seq_ct, s_nil, s_ret, k_ret, s_retn, s_brk, s_cnt, s_expr, k_expr, s_sif, k_sif, s_set, k_set, s_asg, k_asg, rE_some, t_name, t_tup, t_cons, t_nil, s_par, k_par, s_par3, k_par3, s_raise, s_put, k_put, k_put2, k_put3, k_put4, put_is, s_for, k_for, s_while, s_iseq, as_l, as_t, as_s, as_scr, s_rg1, s_rg2, k_rg1, k_rg2, s_enum, k_enum_l, k_enum_s, s_zip, k_zip_l, k_zip_t, k_zip_s, s_off, k_of, rD_some, dats_mapd, s_flc, k_lc, wipe_nil, wipe_cons, s_celf, k_celf, s_flst, k_flst, k_fin_rt, k_fin_nx, start_nil, start_cons, repl_0, repl_S, s_caught, s_frz, k_frzd, s_fld, k_fld, s_rgl1, k_rgl1, s_rgl2, k_rgl, k_rgl2, s_flc2, k_lc2, s_new, k_new2, dk_cat, dk_cat2, dk_cat3, dk_nil, dk_cons, dk_val, dk_val2, dk_dicC, dk_dicC2, dk_dic, dk_dic2, dk_rK, dk_dat, dk_datn, eq_nn, ne_nn, lo_l, lo_t, lo_s, dk_frz, dk_rF, dk_cfrz, dk_methc, dk_rLst, dk_app, dk_rApp, dk_ext, dk_rExt, dk_snoc, dk_last, dk_setl, dk_putF, dk_putF2, dk_putF3, dk_putF4, dk_rPF, dk_new, dk_newT, dk_cfrzI, List.set_cons_zero, List.set_cons_succ, List.getElem?_cons_zero, List.getElem?_cons_succ, List.length_cons, List.length_nil, ↓reduceIte, Nat.reduceAdd, decide_eq_true_eq, Bool.not_true, Bool.not_false, Bool.true_and, Bool.false_and, Bool.and_true, Bool.and_false, Bool.or_true, Bool.or_false, Bool.true_or, Bool.false_or, reduceCtorEq, decide_true, decide_false, Bool.false_eq_true, Int.reduceLT, Int.reduceLE, Int.reduceNeg, Int.reduceAdd, Int.reduceSub, Int.reduceMul, Nat.reduceMul, Nat.reduceLeDiff, Nat.zero_add, Bool.not_not, beq_self_eq_true, bne_self_eq_false, not_true_eq_false, not_false_eq_true, Bool.not_eq_true, Option.some.injEq, List.map_cons, List.map_nil, List.isEmpty_cons, List.isEmpty_nil, and_self, and_true, true_and, Int.toNat_natCast, Int.natCast_nonneg, Int.reduceToNat, Int.reduceEq, Int.reduceNe, Nat.reduceLT, Int.reduceBEq, Int.reduceBNe, Bool.not_eq_eq_eq_not, eq_self, if_true, if_false, ite_self, b__law_word, start_cons, start_nil, repl_S, repl_0, q, q2]
  rfl
def badW : List Dt := [.non, .int 5, .str "a", .tup [], .tup [.int 1], .tup [.int 1, .str ""], .tup [.int 0, .str "a"], .tup [.int 2, .str "a"], .tup [.bl true, .str "a"], .tup [.int 1, .str "d"], .tup [.int 1, .str "A"], .lst [.int 1, .str "a"], .tup [.int 1, .int 5], .tup [.int 1, .str (Txt.mul "a" 13)], .tup [.str "1", .str "a"], .tup [.int 1, .tup [.str "a"]], .tup [.int 1, .str "a", .int 1], .tup [.int (-1), .str "ab "], .tup [.non, .str "1"], .dic []]
theorem badW_pl : ∀ x ∈ badW, pl1 x = true := by
  have h : (badW.all pl1) = true := by decide +kernel
  exact fun x hx => List.all_eq_true.mp h x hx
theorem badW_no : ∀ x ∈ badW, isW x = false := by
  have h : (badW.all fun x => !isW x) = true := by decide +kernel
  exact fun x hx => by simpa using List.all_eq_true.mp h x hx
theorem r_bad_word {cs xt : List Cell} {t : Nat} (hs : St cs xt t) (ht : t < 1000000) : ∃ x cs', m__law_bad_word [.cel 1] cs = .ok (.dat x) cs' ∧ x ∈ badW ∧ St cs' xt (t + 1) := by
  obtain ⟨x, cs', q, hm, s1⟩ := r_pick (l := badW) hs ht (by decide) (by decide)
  refine ⟨x, cs', fn_ev ?_, hm, s1⟩
  unfold badW at q
  have ha : ("a" : Str).length * (13 : Int).toNat ≤ 16777216 := by decide
  have z1 : (13 : Int) ≤ 16777216 := by decide
  simp (disch := (first | assumption | omega | (simp only [List.length_cons, List.length_nil, List.length_map, List.length_append, List.length_replicate] <;> omega))) only [rb_ok, rb_exc, rb_bad, rb_ite, m_ret, m_badE, m_opt, m_optn, m_ite, rO_some, rO_none, rW_some, rW_none, rO_map, rW_map, s_var0, s_varS, s_c, s_bin, k_bin, s_lift, s_un, s_liftU, s_eqc, k_eqc, k_eqc2, eq_ii, ne_ii, eq_ss, ne_ss, eq_bb, ne_bb, s_cmpE, s_asB, s_tru, k_tru, rT_some, tru_d, tru_c, dtru_bl, dtru_non, dtru_int, dtru_lst, dtru_tup, s_and, s_or, s_not, k_and, k_or, k_not, s_yes, m_and, m_or, s_eand, k_eand, k_eand2, s_eor, k_eor, k_eor2, s_enot, k_enot, k_enot2, s_if, k_if, m_iteD, m_iteI, m_iteB, m_iteAnd, m_iteOr, m_iteS, s_chain, k_ch, k_ch2, k_ch3, k_ch4, s_anil, s_acons, k_arg, k_arg2, s_tup, s_lst, k_tup, k_lst, rL_some, dats_nil, dats_cons, opt_map_some, opt_map_none, opt_or_some, opt_or_none, opt_bind_some, s_ix, k_ix, k_ix2, wix_dd, wix_cd, ix_t, ix_l, ix_s, cix_l, cix_d, ix_d, at_0, at_1, at_2, s_sl, k_sl, k_sl2, k_sl3, s_onone, s_osome, k_asI, sl_d, sl_c, sl_l, sl_t, cut_hi, cut_lo, cut_lh, s_fn, k_fn0, k_fn1, k_fn2, k_fn3, k_fn4, k_fn5, k_fn6, s_fnp, k_fnp1, k_fnp2, k_fnp2r, k_fnp3, s_call, k_call, s_o1, s_o2, len_d, len_c, len_l, len_t, len_scr, len_s, clen_l, int_i, int_b, min_i, max_i, sq_dl, sq_cl, csq_l, lof_t, lof_l, tof_t, tof_l, s_meth, k_meth, k_meth_str, ok_str, mt_str1, mt_join, d_I0, d_mod, d_div, d_pow, d_shr, d_neg, d_mulL, d_mulR, d_mulS, d_addI, d_addS, d_addL, d_addT, s_seq, k_seq_nx, k_seq_rt, k_seq_bk, k_seq_ct, s_nil, s_ret, k_ret, s_retn, s_brk, s_cnt, s_expr, k_expr, s_sif, k_sif, s_set, k_set, s_asg, k_asg, rE_some, t_name, t_tup, t_cons, t_nil, s_par, k_par, s_par3, k_par3, s_raise, s_put, k_put, k_put2, k_put3, k_put4, put_is, s_for, k_for, s_while, s_iseq, as_l, as_t, as_s, as_scr, s_rg1, s_rg2, k_rg1, k_rg2, s_enum, k_enum_l, k_enum_s, s_zip, k_zip_l, k_zip_t, k_zip_s, s_off, k_of, rD_some, dats_mapd, s_flc, k_lc, wipe_nil, wipe_cons, s_celf, k_celf, s_flst, k_flst, k_fin_rt, k_fin_nx, start_nil, start_cons, repl_0, repl_S, s_caught, s_frz, k_frzd, s_fld, k_fld, s_rgl1, k_rgl1, s_rgl2, k_rgl, k_rgl2, s_flc2, k_lc2, s_new, k_new2, dk_cat, dk_cat2, dk_cat3, dk_nil, dk_cons, dk_val, dk_val2, dk_dicC, dk_dicC2, dk_dic, dk_dic2, dk_rK, dk_dat, dk_datn, eq_nn, ne_nn, lo_l, lo_t, lo_s, dk_frz, dk_rF, dk_cfrz, dk_methc, dk_rLst, dk_app, dk_rApp, dk_ext, dk_rExt, dk_snoc, dk_last, dk_setl, dk_putF, dk_putF2, dk_putF3, dk_putF4, dk_rPF, dk_new, dk_newT, dk_cfrzI, List.set_cons_zero, List.set_cons_succ, List.getElem?_cons_zero, List.getElem?_cons_succ, List.length_cons, List.length_nil, ↓reduceIte, Nat.reduceAdd, decide_eq_true_eq, Bool.not_true, Bool.not_false, Bool.true_and, Bool.false_and, Bool.and_true, Bool.and_false, Bool.or_true, Bool.or_false, Bool.true_or, Bool.false_or, reduceCtorEq, decide_true, decide_false, Bool.false_eq_true, Int.reduceLT, Int.reduceLE, Int.reduceNeg, Int.reduceAdd, Int.reduceSub, Int.reduceMul, Nat.reduceMul, Nat.reduceLeDiff, Nat.zero_add, Bool.not_not, beq_self_eq_true, bne_self_eq_false, not_true_eq_false, not_false_eq_true, Bool.not_eq_true, Option.some.injEq, List.map_cons, List.map_nil, List.isEmpty_cons, List.isEmpty_nil, and_self, and_true, true_and, Int.toNat_natCast, Int.natCast_nonneg, Int.reduceToNat, Int.reduceEq, Int.reduceNe, Nat.reduceLT, Int.reduceBEq, Int.reduceBNe, Bool.not_eq_eq_eq_not, eq_self, if_true, if_false, ite_self, b__law_bad_word, start_cons, start_nil, repl_S, repl_0, List.cons_append, List.nil_append, q]
/-! the law's own -/
theorem two_loop : ∀ (l m d : List Nat) (s : Int) (A B e4 e5 e6 e7 : Option Wv) (cs : List Cell), l.length = m.length → Fig l → Fig m → Sg s → d.length + l.length ≤ 12 →
    ∃ f4 f5 f6 f7, loopS (tTupG 2 (tgCons (tName 4) (tgCons (tName 5) tgNil))) lb__law_two_0 ((l.zip m).map fun q => .dat (.tup [.str ⟨#[chr4 q.1]⟩, .str ⟨#[chr4 q.2]⟩])) [A, B, some (.dat (.int s)), some (.dat (.str (strOf d))), e4, e5, e6, e7] cs = .ok (.nx [A, B, some (.dat (.int (if cross l m = true then -s else s))), some (.dat (.str (strOf (d ++ zx l m)))), f4, f5, f6, f7]) cs
  | [], [], d, s, A, B, e4, e5, e6, e7, cs, _, _, _, _, _ => ⟨e4, e5, e6, e7, by simp [zx, cross, loopS, M.ret]⟩
  | x :: l, y :: m, d, s, A, B, e4, e5, e6, e7, cs, h, fl, fm, hs, hd => by
    have hx := fl x List.mem_cons_self
    have hy := fm y List.mem_cons_self
    simp only [List.length_cons] at hd
    have kx := kidx hx
    have ky := kidx hy
    have hxy : x ^^^ y < 4 := Nat.xor_lt_two_pow (n := 2) hx hy
    have ex := bitXor_nat x y
    have le := letter hxy
    have l1 := strOf_len d
    have l2 : (⟨#[chr4 (x ^^^ y)]⟩ : Str).length = 1 := rfl
    have ap : strOf d ++ (⟨#[chr4 (x ^^^ y)]⟩ : Str) = strOf (d ++ [x ^^^ y]) := strOf_app d [x ^^^ y]
    have e1 : d ++ [x ^^^ y] ++ zx l m = d ++ zx (x :: l) (y :: m) := by simp [zx]
    have cr : cross (x :: l) (y :: m) = xor (decide (2 ≤ x) && decide (y % 2 = 1)) (cross l m) := rfl
    have hns : Sg (-s) := by rcases hs with rfl | rfl <;> simp [Sg]
    by_cases hc : 2 ≤ x ∧ y % 2 = 1
    · obtain ⟨f4, f5, f6, f7, ih⟩ := two_loop l m (d ++ [x ^^^ y]) (-s) A B (some (.dat (.str ⟨#[chr4 x]⟩))) (some (.dat (.str ⟨#[chr4 y]⟩))) (some (.dat (.int x))) (some (.dat (.int y))) cs (by simpa using h) (fig_tl fl) (fig_tl fm) hns (by simp; omega)
      refine ⟨f4, f5, f6, f7, ?_⟩
      have c1 : (1 : Int) < x := by omega
      have c2 : (y : Int) % 2 = 1 := by omega
      have b1 : lb__law_two_0 [A, B, some (.dat (.int s)), some (.dat (.str (strOf d))), some (.dat (.str ⟨#[chr4 x]⟩)), some (.dat (.str ⟨#[chr4 y]⟩)), e6, e7] cs = .ok (.nx [A, B, some (.dat (.int (-s))), some (.dat (.str (strOf (d ++ [x ^^^ y])))), some (.dat (.str ⟨#[chr4 x]⟩)), some (.dat (.str ⟨#[chr4 y]⟩)), some (.dat (.int x)), some (.dat (.int y))]) cs := by
        simp (disch := (first | assumption | omega | (simp only [List.length_cons, List.length_nil, List.length_map, List.length_append, List.length_replicate] <;> omega))) only [rb_ok, rb_exc, rb_bad, rb_ite, m_ret, m_badE, m_opt, m_optn, m_ite, rO_some, rO_none, rW_some, rW_none, rO_map, rW_map, s_var0, s_varS, s_c, s_bin, k_bin, s_lift, s_un, s_liftU, s_eqc, k_eqc, k_eqc2, eq_ii, ne_ii, eq_ss, ne_ss, eq_bb, ne_bb, s_cmpE, s_asB, s_tru, k_tru, rT_some, tru_d, tru_c, dtru_bl, dtru_non, dtru_int, dtru_lst, dtru_tup, s_and, s_or, s_not, k_and, k_or, k_not, s_yes, m_and, m_or, s_eand, k_eand, k_eand2, s_eor, k_eor, k_eor2, s_enot, k_enot, k_enot2, s_if, k_if, m_iteD, m_iteI, m_iteB, m_iteAnd, m_iteOr, m_iteS, s_chain, k_ch, k_ch2, k_ch3, k_ch4, s_anil, s_acons, k_arg, k_arg2, s_tup, s_lst, k_tup, k_lst, rL_some, dats_nil, dats_cons, opt_map_some, opt_map_none, opt_or_some, opt_or_none, opt_bind_some, s_ix, k_ix, k_ix2, wix_dd, wix_cd, ix_t, ix_l, cix_l, cix_d, ix_d, at_0, at_1, at_2, s_sl, k_sl, k_sl2, k_sl3, s_onone, s_osome, k_asI, sl_d, sl_c, sl_l, sl_t, cut_hi, cut_lo, cut_lh, s_fn, k_fn0, k_fn1, k_fn2, k_fn3, k_fn4, k_fn5, k_fn6, s_fnp, k_fnp1, k_fnp2, k_fnp2r, k_fnp3, s_call, k_call, s_o1, s_o2, len_d, len_c, len_l, len_t, len_scr, len_s, clen_l, int_i, int_b, min_i, max_i, sq_dl, sq_cl, csq_l, lof_t, lof_l, tof_t, tof_l, s_meth, k_meth, k_meth_str, ok_str, mt_str1, mt_join, d_I0, d_mod, d_div, d_pow, d_shr, d_neg, d_mulL, d_mulR, d_mulS, d_addI, d_addS, d_addL, d_addT, s_seq, k_seq_nx, k_seq_rt, k_seq_bk, k_seq_ct, s_nil, s_ret, k_ret, s_retn, s_brk, s_cnt, s_expr, k_expr, s_sif, k_sif, s_set, k_set, s_asg, k_asg, rE_some, t_name, t_tup, t_cons, t_nil, s_par, k_par, s_par3, k_par3, s_raise, s_put, k_put, k_put2, k_put3, k_put4, put_is, s_for, k_for, s_while, s_iseq, as_l, as_t, as_s, as_scr, s_rg1, s_rg2, k_rg1, k_rg2, s_enum, k_enum_l, k_enum_s, s_zip, k_zip_l, k_zip_t, k_zip_s, s_off, k_of, rD_some, dats_mapd, s_flc, k_lc, wipe_nil, wipe_cons, s_celf, k_celf, s_flst, k_flst, k_fin_rt, k_fin_nx, start_nil, start_cons, repl_0, repl_S, s_caught, s_frz, k_frzd, s_fld, k_fld, s_rgl1, k_rgl1, s_rgl2, k_rgl, k_rgl2, s_flc2, k_lc2, s_new, k_new2, dk_cat, dk_cat2, dk_cat3, dk_nil, dk_cons, dk_val, dk_val2, dk_dicC, dk_dicC2, dk_dic, dk_dic2, dk_rK, dk_dat, dk_datn, eq_nn, ne_nn, lo_l, lo_t, lo_s, dk_frz, dk_rF, dk_cfrz, dk_methc, dk_rLst, dk_app, dk_rApp, dk_ext, dk_rExt, dk_snoc, dk_last, dk_setl, dk_putF, dk_putF2, dk_putF3, dk_putF4, dk_rPF, dk_new, dk_newT, dk_cfrzI, List.set_cons_zero, List.set_cons_succ, List.getElem?_cons_zero, List.getElem?_cons_succ, List.length_cons, List.length_nil, ↓reduceIte, Nat.reduceAdd, decide_eq_true_eq, Bool.not_true, Bool.not_false, Bool.true_and, Bool.false_and, Bool.and_true, Bool.and_false, Bool.or_true, Bool.or_false, Bool.true_or, Bool.false_or, reduceCtorEq, decide_true, decide_false, Bool.false_eq_true, Int.reduceLT, Int.reduceLE, Int.reduceNeg, Int.reduceAdd, Int.reduceSub, Int.reduceMul, Nat.reduceMul, Nat.reduceLeDiff, Nat.zero_add, Bool.not_not, beq_self_eq_true, bne_self_eq_false, not_true_eq_false, not_false_eq_true, Bool.not_eq_true, Option.some.injEq, List.map_cons, List.map_nil, List.isEmpty_cons, List.isEmpty_nil, and_self, and_true, true_and, Int.toNat_natCast, Int.natCast_nonneg, Int.reduceToNat, Int.reduceEq, Int.reduceNe, Nat.reduceLT, Int.reduceBEq, Int.reduceBNe, Bool.not_eq_eq_eq_not, eq_self, if_true, if_false, ite_self, lb__law_two_0, kx, ky, c1, c2, ex, le, ap]
      rw [List.zip_cons_cons, List.map_cons, loopS, mb]
      simp (disch := (first | assumption | omega | (simp only [List.length_cons, List.length_nil, List.length_map, List.length_append, List.length_replicate] <;> omega))) only [rb_ok, rb_exc, rb_bad, rb_ite, m_ret, m_badE, m_opt, m_optn, m_ite, rO_some, rO_none, rW_some, rW_none, rO_map, rW_map, s_var0, s_varS, s_c, s_bin, k_bin, s_lift, s_un, s_liftU, s_eqc, k_eqc, k_eqc2, eq_ii, ne_ii, eq_ss, ne_ss, eq_bb, ne_bb, s_cmpE, s_asB, s_tru, k_tru, rT_some, tru_d, tru_c, dtru_bl, dtru_non, dtru_int, dtru_lst, dtru_tup, s_and, s_or, s_not, k_and, k_or, k_not, s_yes, m_and, m_or, s_eand, k_eand, k_eand2, s_eor, k_eor, k_eor2, s_enot, k_enot, k_enot2, s_if, k_if, m_iteD, m_iteI, m_iteB, m_iteAnd, m_iteOr, m_iteS, s_chain, k_ch, k_ch2, k_ch3, k_ch4, s_anil, s_acons, k_arg, k_arg2, s_tup, s_lst, k_tup, k_lst, rL_some, dats_nil, dats_cons, opt_map_some, opt_map_none, opt_or_some, opt_or_none, opt_bind_some, s_ix, k_ix, k_ix2, wix_dd, wix_cd, ix_t, ix_l, ix_s, cix_l, cix_d, ix_d, at_0, at_1, at_2, s_sl, k_sl, k_sl2, k_sl3, s_onone, s_osome, k_asI, sl_d, sl_c, sl_l, sl_t, cut_hi, cut_lo, cut_lh, s_fn, k_fn0, k_fn1, k_fn2, k_fn3, k_fn4, k_fn5, k_fn6, s_fnp, k_fnp1, k_fnp2, k_fnp2r, k_fnp3, s_call, k_call, s_o1, s_o2, len_d, len_c, len_l, len_t, len_scr, len_s, clen_l, int_i, int_b, min_i, max_i, sq_dl, sq_cl, csq_l, lof_t, lof_l, tof_t, tof_l, s_meth, k_meth, k_meth_str, ok_str, mt_str1, mt_join, d_I0, d_mod, d_div, d_pow, d_shr, d_neg, d_mulL, d_mulR, d_mulS, d_addI, d_addS, d_addL, d_addT, s_seq, k_seq_nx, k_seq_rt, k_seq_bk, k_seq_ct, s_nil, s_ret, k_ret, s_retn, s_brk, s_cnt, s_expr, k_expr, s_sif, k_sif, s_set, k_set, s_asg, k_asg, rE_some, t_name, t_tup, t_cons, t_nil, s_par, k_par, s_par3, k_par3, s_raise, s_put, k_put, k_put2, k_put3, k_put4, put_is, s_for, k_for, s_while, s_iseq, as_l, as_t, as_s, as_scr, s_rg1, s_rg2, k_rg1, k_rg2, s_enum, k_enum_l, k_enum_s, s_zip, k_zip_l, k_zip_t, k_zip_s, s_off, k_of, rD_some, dats_mapd, s_flc, k_lc, wipe_nil, wipe_cons, s_celf, k_celf, s_flst, k_flst, k_fin_rt, k_fin_nx, start_nil, start_cons, repl_0, repl_S, s_caught, s_frz, k_frzd, s_fld, k_fld, s_rgl1, k_rgl1, s_rgl2, k_rgl, k_rgl2, s_flc2, k_lc2, s_new, k_new2, dk_cat, dk_cat2, dk_cat3, dk_nil, dk_cons, dk_val, dk_val2, dk_dicC, dk_dicC2, dk_dic, dk_dic2, dk_rK, dk_dat, dk_datn, eq_nn, ne_nn, lo_l, lo_t, lo_s, dk_frz, dk_rF, dk_cfrz, dk_methc, dk_rLst, dk_app, dk_rApp, dk_ext, dk_rExt, dk_snoc, dk_last, dk_setl, dk_putF, dk_putF2, dk_putF3, dk_putF4, dk_rPF, dk_new, dk_newT, dk_cfrzI, List.set_cons_zero, List.set_cons_succ, List.getElem?_cons_zero, List.getElem?_cons_succ, List.length_cons, List.length_nil, ↓reduceIte, Nat.reduceAdd, decide_eq_true_eq, Bool.not_true, Bool.not_false, Bool.true_and, Bool.false_and, Bool.and_true, Bool.and_false, Bool.or_true, Bool.or_false, Bool.true_or, Bool.false_or, reduceCtorEq, decide_true, decide_false, Bool.false_eq_true, Int.reduceLT, Int.reduceLE, Int.reduceNeg, Int.reduceAdd, Int.reduceSub, Int.reduceMul, Nat.reduceMul, Nat.reduceLeDiff, Nat.zero_add, Bool.not_not, beq_self_eq_true, bne_self_eq_false, not_true_eq_false, not_false_eq_true, Bool.not_eq_true, Option.some.injEq, List.map_cons, List.map_nil, List.isEmpty_cons, List.isEmpty_nil, and_self, and_true, true_and, Int.toNat_natCast, Int.natCast_nonneg, Int.reduceToNat, Int.reduceEq, Int.reduceNe, Nat.reduceLT, Int.reduceBEq, Int.reduceBNe, Bool.not_eq_eq_eq_not, eq_self, if_true, if_false, ite_self, mb, b1, ih, e1]
      rw [cr, decide_eq_true hc.1, decide_eq_true hc.2]
      cases cross l m <;> simp
    · obtain ⟨f4, f5, f6, f7, ih⟩ := two_loop l m (d ++ [x ^^^ y]) s A B (some (.dat (.str ⟨#[chr4 x]⟩))) (some (.dat (.str ⟨#[chr4 y]⟩))) (some (.dat (.int x))) (some (.dat (.int y))) cs (by simpa using h) (fig_tl fl) (fig_tl fm) hs (by simp; omega)
      refine ⟨f4, f5, f6, f7, ?_⟩
      have c0 : (decide (2 ≤ x) && decide (y % 2 = 1)) = false := by
        by_cases h1 : 2 ≤ x
        · rw [decide_eq_false (p := y % 2 = 1) (fun h2 => hc ⟨h1, h2⟩)]; simp
        · rw [decide_eq_false h1]; rfl
      have b1 : lb__law_two_0 [A, B, some (.dat (.int s)), some (.dat (.str (strOf d))), some (.dat (.str ⟨#[chr4 x]⟩)), some (.dat (.str ⟨#[chr4 y]⟩)), e6, e7] cs = .ok (.nx [A, B, some (.dat (.int s)), some (.dat (.str (strOf (d ++ [x ^^^ y])))), some (.dat (.str ⟨#[chr4 x]⟩)), some (.dat (.str ⟨#[chr4 y]⟩)), some (.dat (.int x)), some (.dat (.int y))]) cs := by
        by_cases h1 : 2 ≤ x
        · have c1 : (1 : Int) < x := by omega
          have c2 : ¬ (y : Int) % 2 = 1 := fun h2 => hc ⟨h1, by omega⟩
          simp (disch := (first | assumption | omega | (simp only [List.length_cons, List.length_nil, List.length_map, List.length_append, List.length_replicate] <;> omega))) only [rb_ok, rb_exc, rb_bad, rb_ite, m_ret, m_badE, m_opt, m_optn, m_ite, rO_some, rO_none, rW_some, rW_none, rO_map, rW_map, s_var0, s_varS, s_c, s_bin, k_bin, s_lift, s_un, s_liftU, s_eqc, k_eqc, k_eqc2, eq_ii, ne_ii, eq_ss, ne_ss, eq_bb, ne_bb, s_cmpE, s_asB, s_tru, k_tru, rT_some, tru_d, tru_c, dtru_bl, dtru_non, dtru_int, dtru_lst, dtru_tup, s_and, s_or, s_not, k_and, k_or, k_not, s_yes, m_and, m_or, s_eand, k_eand, k_eand2, s_eor, k_eor, k_eor2, s_enot, k_enot, k_enot2, s_if, k_if, m_iteD, m_iteI, m_iteB, m_iteAnd, m_iteOr, m_iteS, s_chain, k_ch, k_ch2, k_ch3, k_ch4, s_anil, s_acons, k_arg, k_arg2, s_tup, s_lst, k_tup, k_lst, rL_some, dats_nil, dats_cons, opt_map_some, opt_map_none, opt_or_some, opt_or_none, opt_bind_some, s_ix, k_ix, k_ix2, wix_dd, wix_cd, ix_t, ix_l, cix_l, cix_d, ix_d, at_0, at_1, at_2, s_sl, k_sl, k_sl2, k_sl3, s_onone, s_osome, k_asI, sl_d, sl_c, sl_l, sl_t, cut_hi, cut_lo, cut_lh, s_fn, k_fn0, k_fn1, k_fn2, k_fn3, k_fn4, k_fn5, k_fn6, s_fnp, k_fnp1, k_fnp2, k_fnp2r, k_fnp3, s_call, k_call, s_o1, s_o2, len_d, len_c, len_l, len_t, len_scr, len_s, clen_l, int_i, int_b, min_i, max_i, sq_dl, sq_cl, csq_l, lof_t, lof_l, tof_t, tof_l, s_meth, k_meth, k_meth_str, ok_str, mt_str1, mt_join, d_I0, d_mod, d_div, d_pow, d_shr, d_neg, d_mulL, d_mulR, d_mulS, d_addI, d_addS, d_addL, d_addT, s_seq, k_seq_nx, k_seq_rt, k_seq_bk, k_seq_ct, s_nil, s_ret, k_ret, s_retn, s_brk, s_cnt, s_expr, k_expr, s_sif, k_sif, s_set, k_set, s_asg, k_asg, rE_some, t_name, t_tup, t_cons, t_nil, s_par, k_par, s_par3, k_par3, s_raise, s_put, k_put, k_put2, k_put3, k_put4, put_is, s_for, k_for, s_while, s_iseq, as_l, as_t, as_s, as_scr, s_rg1, s_rg2, k_rg1, k_rg2, s_enum, k_enum_l, k_enum_s, s_zip, k_zip_l, k_zip_t, k_zip_s, s_off, k_of, rD_some, dats_mapd, s_flc, k_lc, wipe_nil, wipe_cons, s_celf, k_celf, s_flst, k_flst, k_fin_rt, k_fin_nx, start_nil, start_cons, repl_0, repl_S, s_caught, s_frz, k_frzd, s_fld, k_fld, s_rgl1, k_rgl1, s_rgl2, k_rgl, k_rgl2, s_flc2, k_lc2, s_new, k_new2, dk_cat, dk_cat2, dk_cat3, dk_nil, dk_cons, dk_val, dk_val2, dk_dicC, dk_dicC2, dk_dic, dk_dic2, dk_rK, dk_dat, dk_datn, eq_nn, ne_nn, lo_l, lo_t, lo_s, dk_frz, dk_rF, dk_cfrz, dk_methc, dk_rLst, dk_app, dk_rApp, dk_ext, dk_rExt, dk_snoc, dk_last, dk_setl, dk_putF, dk_putF2, dk_putF3, dk_putF4, dk_rPF, dk_new, dk_newT, dk_cfrzI, List.set_cons_zero, List.set_cons_succ, List.getElem?_cons_zero, List.getElem?_cons_succ, List.length_cons, List.length_nil, ↓reduceIte, Nat.reduceAdd, decide_eq_true_eq, Bool.not_true, Bool.not_false, Bool.true_and, Bool.false_and, Bool.and_true, Bool.and_false, Bool.or_true, Bool.or_false, Bool.true_or, Bool.false_or, reduceCtorEq, decide_true, decide_false, Bool.false_eq_true, Int.reduceLT, Int.reduceLE, Int.reduceNeg, Int.reduceAdd, Int.reduceSub, Int.reduceMul, Nat.reduceMul, Nat.reduceLeDiff, Nat.zero_add, Bool.not_not, beq_self_eq_true, bne_self_eq_false, not_true_eq_false, not_false_eq_true, Bool.not_eq_true, Option.some.injEq, List.map_cons, List.map_nil, List.isEmpty_cons, List.isEmpty_nil, and_self, and_true, true_and, Int.toNat_natCast, Int.natCast_nonneg, Int.reduceToNat, Int.reduceEq, Int.reduceNe, Nat.reduceLT, Int.reduceBEq, Int.reduceBNe, Bool.not_eq_eq_eq_not, eq_self, if_true, if_false, ite_self, lb__law_two_0, kx, ky, c1, c2, ex, le, ap]
        · have c1 : ¬ (1 : Int) < x := by omega
          simp (disch := (first | assumption | omega | (simp only [List.length_cons, List.length_nil, List.length_map, List.length_append, List.length_replicate] <;> omega))) only [rb_ok, rb_exc, rb_bad, rb_ite, m_ret, m_badE, m_opt, m_optn, m_ite, rO_some, rO_none, rW_some, rW_none, rO_map, rW_map, s_var0, s_varS, s_c, s_bin, k_bin, s_lift, s_un, s_liftU, s_eqc, k_eqc, k_eqc2, eq_ii, ne_ii, eq_ss, ne_ss, eq_bb, ne_bb, s_cmpE, s_asB, s_tru, k_tru, rT_some, tru_d, tru_c, dtru_bl, dtru_non, dtru_int, dtru_lst, dtru_tup, s_and, s_or, s_not, k_and, k_or, k_not, s_yes, m_and, m_or, s_eand, k_eand, k_eand2, s_eor, k_eor, k_eor2, s_enot, k_enot, k_enot2, s_if, k_if, m_iteD, m_iteI, m_iteB, m_iteAnd, m_iteOr, m_iteS, s_chain, k_ch, k_ch2, k_ch3, k_ch4, s_anil, s_acons, k_arg, k_arg2, s_tup, s_lst, k_tup, k_lst, rL_some, dats_nil, dats_cons, opt_map_some, opt_map_none, opt_or_some, opt_or_none, opt_bind_some, s_ix, k_ix, k_ix2, wix_dd, wix_cd, ix_t, ix_l, cix_l, cix_d, ix_d, at_0, at_1, at_2, s_sl, k_sl, k_sl2, k_sl3, s_onone, s_osome, k_asI, sl_d, sl_c, sl_l, sl_t, cut_hi, cut_lo, cut_lh, s_fn, k_fn0, k_fn1, k_fn2, k_fn3, k_fn4, k_fn5, k_fn6, s_fnp, k_fnp1, k_fnp2, k_fnp2r, k_fnp3, s_call, k_call, s_o1, s_o2, len_d, len_c, len_l, len_t, len_scr, len_s, clen_l, int_i, int_b, min_i, max_i, sq_dl, sq_cl, csq_l, lof_t, lof_l, tof_t, tof_l, s_meth, k_meth, k_meth_str, ok_str, mt_str1, mt_join, d_I0, d_mod, d_div, d_pow, d_shr, d_neg, d_mulL, d_mulR, d_mulS, d_addI, d_addS, d_addL, d_addT, s_seq, k_seq_nx, k_seq_rt, k_seq_bk, k_seq_ct, s_nil, s_ret, k_ret, s_retn, s_brk, s_cnt, s_expr, k_expr, s_sif, k_sif, s_set, k_set, s_asg, k_asg, rE_some, t_name, t_tup, t_cons, t_nil, s_par, k_par, s_par3, k_par3, s_raise, s_put, k_put, k_put2, k_put3, k_put4, put_is, s_for, k_for, s_while, s_iseq, as_l, as_t, as_s, as_scr, s_rg1, s_rg2, k_rg1, k_rg2, s_enum, k_enum_l, k_enum_s, s_zip, k_zip_l, k_zip_t, k_zip_s, s_off, k_of, rD_some, dats_mapd, s_flc, k_lc, wipe_nil, wipe_cons, s_celf, k_celf, s_flst, k_flst, k_fin_rt, k_fin_nx, start_nil, start_cons, repl_0, repl_S, s_caught, s_frz, k_frzd, s_fld, k_fld, s_rgl1, k_rgl1, s_rgl2, k_rgl, k_rgl2, s_flc2, k_lc2, s_new, k_new2, dk_cat, dk_cat2, dk_cat3, dk_nil, dk_cons, dk_val, dk_val2, dk_dicC, dk_dicC2, dk_dic, dk_dic2, dk_rK, dk_dat, dk_datn, eq_nn, ne_nn, lo_l, lo_t, lo_s, dk_frz, dk_rF, dk_cfrz, dk_methc, dk_rLst, dk_app, dk_rApp, dk_ext, dk_rExt, dk_snoc, dk_last, dk_setl, dk_putF, dk_putF2, dk_putF3, dk_putF4, dk_rPF, dk_new, dk_newT, dk_cfrzI, List.set_cons_zero, List.set_cons_succ, List.getElem?_cons_zero, List.getElem?_cons_succ, List.length_cons, List.length_nil, ↓reduceIte, Nat.reduceAdd, decide_eq_true_eq, Bool.not_true, Bool.not_false, Bool.true_and, Bool.false_and, Bool.and_true, Bool.and_false, Bool.or_true, Bool.or_false, Bool.true_or, Bool.false_or, reduceCtorEq, decide_true, decide_false, Bool.false_eq_true, Int.reduceLT, Int.reduceLE, Int.reduceNeg, Int.reduceAdd, Int.reduceSub, Int.reduceMul, Nat.reduceMul, Nat.reduceLeDiff, Nat.zero_add, Bool.not_not, beq_self_eq_true, bne_self_eq_false, not_true_eq_false, not_false_eq_true, Bool.not_eq_true, Option.some.injEq, List.map_cons, List.map_nil, List.isEmpty_cons, List.isEmpty_nil, and_self, and_true, true_and, Int.toNat_natCast, Int.natCast_nonneg, Int.reduceToNat, Int.reduceEq, Int.reduceNe, Nat.reduceLT, Int.reduceBEq, Int.reduceBNe, Bool.not_eq_eq_eq_not, eq_self, if_true, if_false, ite_self, lb__law_two_0, kx, ky, c1, ex, le, ap]
      rw [List.zip_cons_cons, List.map_cons, loopS, mb]
      simp (disch := (first | assumption | omega | (simp only [List.length_cons, List.length_nil, List.length_map, List.length_append, List.length_replicate] <;> omega))) only [rb_ok, rb_exc, rb_bad, rb_ite, m_ret, m_badE, m_opt, m_optn, m_ite, rO_some, rO_none, rW_some, rW_none, rO_map, rW_map, s_var0, s_varS, s_c, s_bin, k_bin, s_lift, s_un, s_liftU, s_eqc, k_eqc, k_eqc2, eq_ii, ne_ii, eq_ss, ne_ss, eq_bb, ne_bb, s_cmpE, s_asB, s_tru, k_tru, rT_some, tru_d, tru_c, dtru_bl, dtru_non, dtru_int, dtru_lst, dtru_tup, s_and, s_or, s_not, k_and, k_or, k_not, s_yes, m_and, m_or, s_eand, k_eand, k_eand2, s_eor, k_eor, k_eor2, s_enot, k_enot, k_enot2, s_if, k_if, m_iteD, m_iteI, m_iteB, m_iteAnd, m_iteOr, m_iteS, s_chain, k_ch, k_ch2, k_ch3, k_ch4, s_anil, s_acons, k_arg, k_arg2, s_tup, s_lst, k_tup, k_lst, rL_some, dats_nil, dats_cons, opt_map_some, opt_map_none, opt_or_some, opt_or_none, opt_bind_some, s_ix, k_ix, k_ix2, wix_dd, wix_cd, ix_t, ix_l, ix_s, cix_l, cix_d, ix_d, at_0, at_1, at_2, s_sl, k_sl, k_sl2, k_sl3, s_onone, s_osome, k_asI, sl_d, sl_c, sl_l, sl_t, cut_hi, cut_lo, cut_lh, s_fn, k_fn0, k_fn1, k_fn2, k_fn3, k_fn4, k_fn5, k_fn6, s_fnp, k_fnp1, k_fnp2, k_fnp2r, k_fnp3, s_call, k_call, s_o1, s_o2, len_d, len_c, len_l, len_t, len_scr, len_s, clen_l, int_i, int_b, min_i, max_i, sq_dl, sq_cl, csq_l, lof_t, lof_l, tof_t, tof_l, s_meth, k_meth, k_meth_str, ok_str, mt_str1, mt_join, d_I0, d_mod, d_div, d_pow, d_shr, d_neg, d_mulL, d_mulR, d_mulS, d_addI, d_addS, d_addL, d_addT, s_seq, k_seq_nx, k_seq_rt, k_seq_bk, k_seq_ct, s_nil, s_ret, k_ret, s_retn, s_brk, s_cnt, s_expr, k_expr, s_sif, k_sif, s_set, k_set, s_asg, k_asg, rE_some, t_name, t_tup, t_cons, t_nil, s_par, k_par, s_par3, k_par3, s_raise, s_put, k_put, k_put2, k_put3, k_put4, put_is, s_for, k_for, s_while, s_iseq, as_l, as_t, as_s, as_scr, s_rg1, s_rg2, k_rg1, k_rg2, s_enum, k_enum_l, k_enum_s, s_zip, k_zip_l, k_zip_t, k_zip_s, s_off, k_of, rD_some, dats_mapd, s_flc, k_lc, wipe_nil, wipe_cons, s_celf, k_celf, s_flst, k_flst, k_fin_rt, k_fin_nx, start_nil, start_cons, repl_0, repl_S, s_caught, s_frz, k_frzd, s_fld, k_fld, s_rgl1, k_rgl1, s_rgl2, k_rgl, k_rgl2, s_flc2, k_lc2, s_new, k_new2, dk_cat, dk_cat2, dk_cat3, dk_nil, dk_cons, dk_val, dk_val2, dk_dicC, dk_dicC2, dk_dic, dk_dic2, dk_rK, dk_dat, dk_datn, eq_nn, ne_nn, lo_l, lo_t, lo_s, dk_frz, dk_rF, dk_cfrz, dk_methc, dk_rLst, dk_app, dk_rApp, dk_ext, dk_rExt, dk_snoc, dk_last, dk_setl, dk_putF, dk_putF2, dk_putF3, dk_putF4, dk_rPF, dk_new, dk_newT, dk_cfrzI, List.set_cons_zero, List.set_cons_succ, List.getElem?_cons_zero, List.getElem?_cons_succ, List.length_cons, List.length_nil, ↓reduceIte, Nat.reduceAdd, decide_eq_true_eq, Bool.not_true, Bool.not_false, Bool.true_and, Bool.false_and, Bool.and_true, Bool.and_false, Bool.or_true, Bool.or_false, Bool.true_or, Bool.false_or, reduceCtorEq, decide_true, decide_false, Bool.false_eq_true, Int.reduceLT, Int.reduceLE, Int.reduceNeg, Int.reduceAdd, Int.reduceSub, Int.reduceMul, Nat.reduceMul, Nat.reduceLeDiff, Nat.zero_add, Bool.not_not, beq_self_eq_true, bne_self_eq_false, not_true_eq_false, not_false_eq_true, Bool.not_eq_true, Option.some.injEq, List.map_cons, List.map_nil, List.isEmpty_cons, List.isEmpty_nil, and_self, and_true, true_and, Int.toNat_natCast, Int.natCast_nonneg, Int.reduceToNat, Int.reduceEq, Int.reduceNe, Nat.reduceLT, Int.reduceBEq, Int.reduceBNe, Bool.not_eq_eq_eq_not, eq_self, if_true, if_false, ite_self, mb, b1, ih, e1]
      rw [cr, c0]
      simp
theorem r_two {a b : Wd} {n : Nat} {cs : List Cell} (ha : WOk' n a) (hb : WOk' n b) (hn : n ≤ 12) : m__law_two [wd a.s a.l, wd b.s b.l] cs = .ok (wd (pu a b).s (pu a b).l) cs := by
  have st : Sg (a.s * b.s) := by rcases ha.sg with h | h <;> rcases hb.sg with h2 | h2 <;> rw [h, h2] <;> simp [Sg]
  obtain ⟨b1, b2, b3, b4⟩ := mul_sg ha.sg hb.sg
  obtain ⟨f4, f5, f6, f7, q⟩ := two_loop a.l b.l [] (a.s * b.s) (some (wd a.s a.l)) (some (wd b.s b.l)) none none none none cs (ha.len.trans hb.len.symm) ha.fig hb.fig st (by simp; rw [ha.len]; exact hn)
  rw [show strOf [] = ("" : Str) from rfl] at q
  refine fn_ev ?_
  simp (disch := (first | assumption | omega | (simp only [List.length_cons, List.length_nil, List.length_map, List.length_append, List.length_replicate] <;> omega))) only [rb_ok, rb_exc, rb_bad, rb_ite, m_ret, m_badE, m_opt, m_optn, m_ite, rO_some, rO_none, rW_some, rW_none, rO_map, rW_map, s_var0, s_varS, s_c, s_bin, k_bin, s_lift, s_un, s_liftU, s_eqc, k_eqc, k_eqc2, eq_ii, ne_ii, eq_ss, ne_ss, eq_bb, ne_bb, s_cmpE, s_asB, s_tru, k_tru, rT_some, tru_d, tru_c, dtru_bl, dtru_non, dtru_int, dtru_lst, dtru_tup, s_and, s_or, s_not, k_and, k_or, k_not, s_yes, m_and, m_or, s_eand, k_eand, k_eand2, s_eor, k_eor, k_eor2, s_enot, k_enot, k_enot2, s_if, k_if, m_iteD, m_iteI, m_iteB, m_iteAnd, m_iteOr, m_iteS, s_chain, k_ch, k_ch2, k_ch3, k_ch4, s_anil, s_acons, k_arg, k_arg2, s_tup, s_lst, k_tup, k_lst, rL_some, dats_nil, dats_cons, opt_map_some, opt_map_none, opt_or_some, opt_or_none, opt_bind_some, s_ix, k_ix, k_ix2, wix_dd, wix_cd, ix_t, ix_l, ix_s, cix_l, cix_d, ix_d, at_0, at_1, at_2, s_sl, k_sl, k_sl2, k_sl3, s_onone, s_osome, k_asI, sl_d, sl_c, sl_l, sl_t, cut_hi, cut_lo, cut_lh, s_fn, k_fn0, k_fn1, k_fn2, k_fn3, k_fn4, k_fn5, k_fn6, s_fnp, k_fnp1, k_fnp2, k_fnp2r, k_fnp3, s_call, k_call, s_o1, s_o2, len_d, len_c, len_l, len_t, len_scr, len_s, clen_l, int_i, int_b, min_i, max_i, sq_dl, sq_cl, csq_l, lof_t, lof_l, tof_t, tof_l, s_meth, k_meth, k_meth_str, ok_str, mt_str1, mt_join, d_I0, d_mod, d_div, d_pow, d_shr, d_neg, d_mulL, d_mulR, d_mulS, d_addI, d_addS, d_addL, d_addT, s_seq, k_seq_nx, k_seq_rt, k_seq_bk, k_seq_ct, s_nil, s_ret, k_ret, s_retn, s_brk, s_cnt, s_expr, k_expr, s_sif, k_sif, s_set, k_set, s_asg, k_asg, rE_some, t_name, t_tup, t_cons, t_nil, s_par, k_par, s_par3, k_par3, s_raise, s_put, k_put, k_put2, k_put3, k_put4, put_is, s_for, k_for, s_while, s_iseq, as_l, as_t, as_s, as_scr, s_rg1, s_rg2, k_rg1, k_rg2, s_enum, k_enum_l, k_enum_s, s_zip, k_zip_l, k_zip_t, k_zip_s, s_off, k_of, rD_some, dats_mapd, s_flc, k_lc, wipe_nil, wipe_cons, s_celf, k_celf, s_flst, k_flst, k_fin_rt, k_fin_nx, start_nil, start_cons, repl_0, repl_S, s_caught, s_frz, k_frzd, s_fld, k_fld, s_rgl1, k_rgl1, s_rgl2, k_rgl, k_rgl2, s_flc2, k_lc2, s_new, k_new2, dk_cat, dk_cat2, dk_cat3, dk_nil, dk_cons, dk_val, dk_val2, dk_dicC, dk_dicC2, dk_dic, dk_dic2, dk_rK, dk_dat, dk_datn, eq_nn, ne_nn, lo_l, lo_t, lo_s, dk_frz, dk_rF, dk_cfrz, dk_methc, dk_rLst, dk_app, dk_rApp, dk_ext, dk_rExt, dk_snoc, dk_last, dk_setl, dk_putF, dk_putF2, dk_putF3, dk_putF4, dk_rPF, dk_new, dk_newT, dk_cfrzI, List.set_cons_zero, List.set_cons_succ, List.getElem?_cons_zero, List.getElem?_cons_succ, List.length_cons, List.length_nil, ↓reduceIte, Nat.reduceAdd, decide_eq_true_eq, Bool.not_true, Bool.not_false, Bool.true_and, Bool.false_and, Bool.and_true, Bool.and_false, Bool.or_true, Bool.or_false, Bool.true_or, Bool.false_or, reduceCtorEq, decide_true, decide_false, Bool.false_eq_true, Int.reduceLT, Int.reduceLE, Int.reduceNeg, Int.reduceAdd, Int.reduceSub, Int.reduceMul, Nat.reduceMul, Nat.reduceLeDiff, Nat.zero_add, Bool.not_not, beq_self_eq_true, bne_self_eq_false, not_true_eq_false, not_false_eq_true, Bool.not_eq_true, Option.some.injEq, List.map_cons, List.map_nil, List.isEmpty_cons, List.isEmpty_nil, and_self, and_true, true_and, Int.toNat_natCast, Int.natCast_nonneg, Int.reduceToNat, Int.reduceEq, Int.reduceNe, Nat.reduceLT, Int.reduceBEq, Int.reduceBNe, Bool.not_eq_eq_eq_not, eq_self, if_true, if_false, ite_self, b__law_two, start_cons, start_nil, repl_S, repl_0, dix_w0, dix_w1, signD_strOf, zip_map, q]
  rfl
theorem strOf_inj : ∀ {l m : List Nat}, Fig l → Fig m → strOf l = strOf m → l = m := by
  have ci : ∀ {x y : Nat}, x < 4 → y < 4 → chr4 x = chr4 y → x = y := by
    intro x y hx hy
    have h : ∀ a b : Fin 4, chr4 a.val = chr4 b.val → a = b := by decide
    exact fun e => congrArg Fin.val (h ⟨x, hx⟩ ⟨y, hy⟩ e)
  have key : ∀ {l m : List Nat}, Fig l → Fig m → l.map chr4 = m.map chr4 → l = m := by
    intro l
    induction l with
    | nil => intro m _ _ h; cases m with
      | nil => rfl
      | cons _ _ => simp at h
    | cons x l ih =>
      intro m hl hm h
      cases m with
      | nil => simp at h
      | cons y m =>
        simp only [List.map_cons, List.cons.injEq] at h
        rw [ci (hl x List.mem_cons_self) (hm y List.mem_cons_self) h.1, ih (fig_tl hl) (fig_tl hm) h.2]
  intro l m hl hm h
  refine key hl hm ?_
  have := congrArg (fun s : Str => s.cps.toList) h
  simpa [strOf] using this
theorem strOk_of (l : List Nat) : PyData.strOk (strOf l) = true := by
  unfold PyData.strOk
  rw [Array.all_eq_true]
  intro i hi
  have h : (strOf l).cps[i] < 128 := by
    have : ∀ c ∈ (strOf l).cps.toList, c < 128 := by
      intro c hc
      simp [strOf] at hc
      obtain ⟨x, _, rfl⟩ := hc
      unfold chr4
      split <;> decide
    exact this _ (by simp)
  exact decide_eq_true (Nat.lt_trans h (by decide))
theorem eq_wd {s t : Int} {l m : List Nat} {cs : List Cell} (fl : Fig l) (fm : Fig m) : eqC false (wd s l) (wd t m) cs = some (.bl (decide (s = t) && decide (l = m))) := by
  have sh : ∀ (s : Int) (l : List Nat), SeqAt.shaped (.tuple [.int s, .str (strOf l)]) = true := fun s l => by
    show ((true && (PyData.strOk (strOf l) && true)) && decide (1 ≤ 64)) = true
    rw [strOk_of]
    rfl
  unfold eqC eqB
  rw [show eqS (wd s l) (wd t m) = none from rfl]
  dsimp only
  unfold eqL
  rw [show snap cs (wd s l) = some (.tuple [.int s, .str (strOf l)]) from rfl, show snap cs (wd t m) = some (.tuple [.int t, .str (strOf m)]) from rfl]
  dsimp only
  rw [sh, sh]
  show some (Dt.bl ((s == t) && ((strOf l == strOf m) && true))) = _
  congr 2
  rw [str_beq, Bool.and_true]
  congr 1
  rw [decide_eq_decide]
  exact ⟨strOf_inj fl fm, fun h => h ▸ rfl⟩
theorem zx_comm : ∀ l m : List Nat, zx l m = zx m l
  | [], m => by cases m <;> simp [zx]
  | _ :: _, [] => by simp [zx]
  | x :: l, y :: m => by
    have ih := zx_comm l m
    show (x ^^^ y) :: zx l m = (y ^^^ x) :: zx m l
    rw [ih, Nat.xor_comm]
theorem pu_gp {a b : Wd} (ha : Sg a.s) (hb : Sg b.s) : decide ((pu a b).s = (pu b a).s) = gp a.l b.l := by
  show decide (ps a.s b.s a.l b.l = ps b.s a.s b.l a.l) = _
  unfold ps gp
  rcases ha with h | h <;> rcases hb with h2 | h2 <;> rw [h, h2] <;> cases cross a.l b.l <;> cases cross b.l a.l <;> rfl
theorem r_law_past {a b : Wd} {n : Nat} {cs : List Cell} (ha : WOk' n a) (hb : WOk' n b) (hn : n ≤ 12) : m__law_past [wd a.s a.l, wd b.s b.l] cs = .ok (.dat (.bl (gp a.l b.l))) cs := by
  have q1 := r_two (cs := cs) ha hb hn
  have q2 := r_two (cs := cs) hb ha hn
  have o1 := pu_ok ha hb
  have o2 := pu_ok hb ha
  have q3 := eq_wd (s := (pu a b).s) (t := (pu b a).s) (cs := cs) o1.fig o2.fig
  have e : decide ((pu a b).l = (pu b a).l) = true := decide_eq_true (zx_comm _ _)
  rw [e, Bool.and_true, pu_gp ha.sg hb.sg] at q3
  refine fn_ev ?_
  simp (disch := (first | assumption | omega | (simp only [List.length_cons, List.length_nil, List.length_map, List.length_append, List.length_replicate] <;> omega))) only [rb_ok, rb_exc, rb_bad, rb_ite, m_ret, m_badE, m_opt, m_optn, m_ite, rO_some, rO_none, rW_some, rW_none, rO_map, rW_map, s_var0, s_varS, s_c, s_bin, k_bin, s_lift, s_un, s_liftU, s_eqc, k_eqc, k_eqc2, eq_ii, ne_ii, eq_ss, ne_ss, eq_bb, ne_bb, s_cmpE, s_asB, s_tru, k_tru, rT_some, tru_d, tru_c, dtru_bl, dtru_non, dtru_int, dtru_lst, dtru_tup, s_and, s_or, s_not, k_and, k_or, k_not, s_yes, m_and, m_or, s_eand, k_eand, k_eand2, s_eor, k_eor, k_eor2, s_enot, k_enot, k_enot2, s_if, k_if, m_iteD, m_iteI, m_iteB, m_iteAnd, m_iteOr, m_iteS, s_chain, k_ch, k_ch2, k_ch3, k_ch4, s_anil, s_acons, k_arg, k_arg2, s_tup, s_lst, k_tup, k_lst, rL_some, dats_nil, dats_cons, opt_map_some, opt_map_none, opt_or_some, opt_or_none, opt_bind_some, s_ix, k_ix, k_ix2, wix_dd, wix_cd, ix_t, ix_l, ix_s, cix_l, cix_d, ix_d, at_0, at_1, at_2, s_sl, k_sl, k_sl2, k_sl3, s_onone, s_osome, k_asI, sl_d, sl_c, sl_l, sl_t, cut_hi, cut_lo, cut_lh, s_fn, k_fn0, k_fn1, k_fn2, k_fn3, k_fn4, k_fn5, k_fn6, s_fnp, k_fnp1, k_fnp2, k_fnp2r, k_fnp3, s_call, k_call, s_o1, s_o2, len_d, len_c, len_l, len_t, len_scr, len_s, clen_l, int_i, int_b, min_i, max_i, sq_dl, sq_cl, csq_l, lof_t, lof_l, tof_t, tof_l, s_meth, k_meth, k_meth_str, ok_str, mt_str1, mt_join, d_I0, d_mod, d_div, d_pow, d_shr, d_neg, d_mulL, d_mulR, d_mulS, d_addI, d_addS, d_addL, d_addT, s_seq, k_seq_nx, k_seq_rt, k_seq_bk, k_seq_ct, s_nil, s_ret, k_ret, s_retn, s_brk, s_cnt, s_expr, k_expr, s_sif, k_sif, s_set, k_set, s_asg, k_asg, rE_some, t_name, t_tup, t_cons, t_nil, s_par, k_par, s_par3, k_par3, s_raise, s_put, k_put, k_put2, k_put3, k_put4, put_is, s_for, k_for, s_while, s_iseq, as_l, as_t, as_s, as_scr, s_rg1, s_rg2, k_rg1, k_rg2, s_enum, k_enum_l, k_enum_s, s_zip, k_zip_l, k_zip_t, k_zip_s, s_off, k_of, rD_some, dats_mapd, s_flc, k_lc, wipe_nil, wipe_cons, s_celf, k_celf, s_flst, k_flst, k_fin_rt, k_fin_nx, start_nil, start_cons, repl_0, repl_S, s_caught, s_frz, k_frzd, s_fld, k_fld, s_rgl1, k_rgl1, s_rgl2, k_rgl, k_rgl2, s_flc2, k_lc2, s_new, k_new2, dk_cat, dk_cat2, dk_cat3, dk_nil, dk_cons, dk_val, dk_val2, dk_dicC, dk_dicC2, dk_dic, dk_dic2, dk_rK, dk_dat, dk_datn, eq_nn, ne_nn, lo_l, lo_t, lo_s, dk_frz, dk_rF, dk_cfrz, dk_methc, dk_rLst, dk_app, dk_rApp, dk_ext, dk_rExt, dk_snoc, dk_last, dk_setl, dk_putF, dk_putF2, dk_putF3, dk_putF4, dk_rPF, dk_new, dk_newT, dk_cfrzI, List.set_cons_zero, List.set_cons_succ, List.getElem?_cons_zero, List.getElem?_cons_succ, List.length_cons, List.length_nil, ↓reduceIte, Nat.reduceAdd, decide_eq_true_eq, Bool.not_true, Bool.not_false, Bool.true_and, Bool.false_and, Bool.and_true, Bool.and_false, Bool.or_true, Bool.or_false, Bool.true_or, Bool.false_or, reduceCtorEq, decide_true, decide_false, Bool.false_eq_true, Int.reduceLT, Int.reduceLE, Int.reduceNeg, Int.reduceAdd, Int.reduceSub, Int.reduceMul, Nat.reduceMul, Nat.reduceLeDiff, Nat.zero_add, Bool.not_not, beq_self_eq_true, bne_self_eq_false, not_true_eq_false, not_false_eq_true, Bool.not_eq_true, Option.some.injEq, List.map_cons, List.map_nil, List.isEmpty_cons, List.isEmpty_nil, and_self, and_true, true_and, Int.toNat_natCast, Int.natCast_nonneg, Int.reduceToNat, Int.reduceEq, Int.reduceNe, Nat.reduceLT, Int.reduceBEq, Int.reduceBNe, Bool.not_eq_eq_eq_not, eq_self, if_true, if_false, ite_self, b__law_past, start_cons, start_nil, repl_S, repl_0, q1, q2, q3]
/-! what repr gives -/
def shw (a : Wd) : Str := PyData.shown (.tuple [.int a.s, .str (strOf a.l)])
theorem append_len (a b : Str) : (a ++ b).length = a.length + b.length := by
  show (Str.mk (a.cps ++ b.cps)).cps.size = _
  simp [Str.length]
theorem shw_len {a : Wd} {n : Nat} (ha : WOk' n a) (hn : n ≤ 12) : (shw a).length ≤ 1000 := by
  have h1 := StrLaws.reprText_len (strOf a.l) fun c hc => by
    simp [strOf] at hc
    obtain ⟨x, _, rfl⟩ := hc
    unfold chr4
    split <;> decide
  rw [strOf_len, ha.len] at h1
  have e : shw a = ("(" : Str) ++ ((toString a.s : String) ++ (", " : Str) ++ reprText (strOf a.l)) ++ (")" : Str) := rfl
  rw [e]
  simp only [append_len]
  have h2 : ((toString a.s : String) : Str).length ≤ 2 := by
    rcases ha.sg with h | h <;> rw [h] <;> decide +kernel
  have h3 : ("(" : Str).length = 1 := rfl
  have h4 : (", " : Str).length = 2 := rfl
  have h5 : (")" : Str).length = 1 := rfl
  omega
theorem r_repr {a : Wd} {n : Nat} (ha : WOk' n a) (hn : n ≤ 12) : dRepr (wdD a.s a.l) = some (.str (shw a)) := by
  have e1 : seqOf (wdD a.s a.l) = some [.int a.s, .str (strOf a.l)] := rfl
  have e2 : py (wdD a.s a.l) = some (.tuple [.int a.s, .str (strOf a.l)]) := rfl
  unfold dRepr
  rw [e1, e2]
  dsimp only
  have c1 : PyData.showable (.tuple [.int a.s, .str (strOf a.l)]) = true := by
    rcases ha.sg with h | h <;> rw [h] <;> rfl
  have c2 : decide (PyData.depth (.tuple [.int a.s, .str (strOf a.l)]) ≤ 64) = true := rfl
  have c3 : szOk (PyData.shown (.tuple [.int a.s, .str (strOf a.l)])).length = true := decide_eq_true (by have := shw_len ha hn; unfold shw at this; omega)
  rw [c1, c2, c3]
  rfl
/-! unlike letters -/
def unl (l m : List Nat) : Nat := ((l.zip m).map fun q => if q.1 ≠ 0 ∧ q.2 ≠ 0 ∧ q.1 ≠ q.2 then 1 else 0).sum
theorem unl_gp : ∀ {l m : List Nat}, l.length = m.length → Fig l → Fig m → decide (unl l m % 2 = 0) = gp l m
  | [], [], _, _, _ => rfl
  | x :: l, y :: m, h, fl, fm => by
    have ih := unl_gp (l := l) (m := m) (by simpa using h) (fig_tl fl) (fig_tl fm)
    have key : ∀ a b : Fin 4, (if a.val ≠ 0 ∧ b.val ≠ 0 ∧ a.val ≠ b.val then 1 else 0 : Nat) % 2 = (if xor (decide (2 ≤ a.val) && decide (b.val % 2 = 1)) (decide (2 ≤ b.val) && decide (a.val % 2 = 1)) = true then 1 else 0) := by decide
    have k := key ⟨x, fl x List.mem_cons_self⟩ ⟨y, fm y List.mem_cons_self⟩
    dsimp only at k
    have e : unl (x :: l) (y :: m) = (if x ≠ 0 ∧ y ≠ 0 ∧ x ≠ y then 1 else 0) + unl l m := by simp [unl]
    rw [e]
    unfold gp at ih ⊢
    show _ = (xor (decide (2 ≤ x) && decide (y % 2 = 1)) (cross l m) == xor (decide (2 ≤ y) && decide (x % 2 = 1)) (cross m l))
    generalize (decide (2 ≤ x) && decide (y % 2 = 1)) = p1 at k ⊢
    generalize (decide (2 ≤ y) && decide (x % 2 = 1)) = p2 at k ⊢
    generalize cross l m = p3 at ih ⊢
    generalize cross m l = p4 at ih ⊢
    generalize (if x ≠ 0 ∧ y ≠ 0 ∧ x ≠ y then 1 else 0 : Nat) = u at k ⊢
    have hb : ∀ w : Bool, decide ((u + unl l m) % 2 = 0) = w ↔ ((u + unl l m) % 2 = 0 ↔ w = true) := fun w => by
      cases w <;> simp
    rw [hb]
    have ih2 : unl l m % 2 = 0 ↔ (p3 == p4) = true := by rw [← ih]; simp
    revert k ih2
    cases p1 <;> cases p2 <;> cases p3 <;> cases p4 <;> simp <;> omega
end DX

set_option Elab.async false
set_option linter.all false
set_option maxRecDepth 100000
set_option maxHeartbeats 4000000
namespace DX
open PySem PySem.Spec PyProof.Rows L2
def b_is_between : Sv := sRet (eAnd (eFn 1 (m_is_number) (aCons (eVar 0) (aNil))) (eChain (dI0 fun i j => .bl (decide (i ≤ j))) (dI0 fun i j => .bl (decide (i ≤ j))) (eVar 1) (eVar 0) (eVar 2)))
abbrev m_is_between : Fn := fnOf 3 (b_is_between)
def ce_is_rising_0 : Ev := eFn 3 (m_is_between) (aCons (eVar 2) (aCons (eC (.int 0)) (aCons (eBin (dI0 fun i j => .int (i - j)) (eVar 1) (eC (.int 1))) (aNil))))
def ce_is_rising_1 : Ev := eBin (dI0 fun i j => .bl (decide (i < j))) (eVar 3) (eVar 4)
def b_is_rising : Sv := sSeq (sIf (tOr' (tNot' (tTru (eCall oIsi (aCons (eVar 0) (aCons (eC (.op (.ty "tuple"))) (aNil)))))) (tNot' (tTru (eCall (o1 dAll) (aCons (eOfF (fLc (iSeq (eVar 0)) (tName 2) (tYesE) (ce_is_rising_0) [2])) (aNil)))))) (sRet (eC (.bl false))) (sNil)) (sRet (eCall (o1 dAll) (aCons (eOfF (fLc (iZipE (aCons (eVar 0) (aCons (eSl (eVar 0) (oSome (eC (.int 1))) (oNone)) (aNil)))) (tTupG 2 (tgCons (tName 3) (tgCons (tName 4) (tgNil)))) (tYesE) (ce_is_rising_1) [3, 4])) (aNil))))
abbrev m_is_rising : Fn := fnOf 5 (b_is_rising)
def b_is_crew : Sv := sRet (eAnd (eFn 2 (m_is_rising) (aCons (eVar 1) (aCons (eVar 0) (aNil)))) (eChain (dI0 fun i j => .bl (decide (i ≤ j))) (dI0 fun i j => .bl (decide (i ≤ j))) (eC (.int 1)) (eCall oLen (aCons (eVar 1) (aNil))) (eC (.int 8))))
abbrev m_is_crew : Fn := fnOf 2 (b_is_crew)
def b_is_bench : Sv := sRet (eAnd (eCall oIsi (aCons (eVar 1) (aCons (eC (.op (.ty "tuple"))) (aNil)))) (eAnd (eEqC false (eCall oLen (aCons (eVar 1) (aNil))) (eC (.int 2))) (eAnd (eFn 1 (m_is_sign) (aCons (eIx (eVar 1) (eC (.int 0))) (aNil))) (eFn 2 (m_is_crew) (aCons (eVar 0) (aCons (eIx (eVar 1) (eC (.int 1))) (aNil)))))))
abbrev m_is_bench : Fn := fnOf 2 (b_is_bench)
def ce_Hall_init__0 : Ev := eFn 2 (m_is_bench) (aCons (eVar 1) (aCons (eVar 3) (aNil)))
def b_Hall_init_ (V : Ax) : Sv := sSeq (sIf (tNot' (tTru (eFn 3 (m_is_between) (aCons (eVar 1) (aCons (eC (.int 1)) (aCons (eC (.int 15)) (aNil))))))) (sRaise "BadMany") (sNil)) (sSeq (sIf (tOr' (tNot' (tTru (eCall oIsi (aCons (eVar 2) (aCons (eC (.op (.ty "tuple"))) (aNil)))))) (tCmpE (eBin (dI0 fun i j => .bl (decide (j < i))) (eCall oLen (aCons (eVar 2) (aNil))) (eC (.int 12))))) (sRaise "BadBenches") (sNil)) (sSeq (sIf (tNot' (tTru (eCall (o1 dAll) (aCons (eOfF (fLc (iSeq (eVar 2)) (tName 3) (tYesE) (ce_Hall_init__0) [3])) (aNil))))) (sRaise "BadBenches") (sNil)) (sSeq (sPutF (V.A 52) "many" (eVar 0) (eVar 1)) (sPutF (V.A 52) "benches" (eVar 0) (eVar 2)))))
abbrev m_Hall_init_ (V : Ax) : Fn := fnOf 4 (b_Hall_init_ V)
def ci__law_judged_0 : EvT := tNot' (tTru (eFn 2 (m__law_says) (aCons (eFn 1 (m_is_word) (aCons (eVar 7) (aNil))) (aCons (eFn 1 (m__law_is_word) (aCons (eVar 7) (aNil))) (aNil)))))
def ce__law_judged_0 : Ev := eC (.int 1)
def b__law_judged (V : Ax) : Sv := sSeq (sAsg (tTupG 2 (tgCons (tName 2) (tgCons (tName 3) (tgNil)))) (eVar 1)) (sSeq (sSet 4 (eFn 2 (m__law_draw) (aCons (eVar 0) (aCons (eCall oLen (aCons (eVar 3) (aNil))) (aNil))))) (sSeq (sSet 5 (eBin dAdd (eBin dAdd (eSl (eVar 3) (oNone) (oSome (eVar 4))) (eFn 2 (m__law_pick) (aCons (eVar 0) (aCons (eLst (aCons (eC (.str "d")) (aCons (eC (.str "A")) (aCons (eC (.str " ")) (aCons (eC (.str "")) (aCons (eC (.str "0")) (aCons (eC (.str "aa")) (aCons (eC (.str "1")) (aCons (eC (.str "C")) (aNil)))))))))) (aNil))))) (eSl (eVar 3) (oSome (eBin dAdd (eVar 4) (eC (.int 1)))) (oNone)))) (sSeq (sSet 6 (eCelF (fLst (aCons (eVar 1) (aCons (eTup (aCons (eVar 2) (aCons (eVar 5) (aNil)))) (aCons (eLst (aCons (eVar 2) (aCons (eVar 3) (aNil)))) (aCons (eTup (aCons (eVar 3) (aCons (eVar 2) (aNil)))) (aCons (eTup (aCons (eVar 2) (aCons (eCall oListOf (aCons (eVar 3) (aNil))) (aNil)))) (aCons (eTup (aCons (eVar 2) (aNil))) (aNil)))))))))) (sSeq (sSet 6 (eCelF (fCat (eFrz (eVar 6)) (eLst (aCons (eTup (aCons (eUn dNeg (eVar 2)) (aCons (eVar 3) (aNil)))) (aCons (eTup (aCons (eBin dMul (eVar 2) (eC (.int 2))) (aCons (eVar 3) (aNil)))) (aCons (eTup (aCons (eEqC false (eVar 2) (eC (.int 1))) (aCons (eVar 3) (aNil)))) (aCons (eBin dAdd (eVar 1) (eTup (aCons (eC (.int 1)) (aNil)))) (aNil))))))))) (sSeq (sSet 6 (eCelF (fCat (eFrz (eVar 6)) (eLst (aCons (eTup (aCons (eVar 2) (aCons (eBin dMul (eVar 3) (eC (.int 2))) (aNil)))) (aCons (eNew true (V.A 52) 3 (m_Hall_init_ V) (aCons (eC (.int 1)) (aCons (eTup (aNil)) (aNil)))) (aCons (eFn 1 (m__law_bad_word) (aCons (eVar 0) (aNil))) (aCons (eTup (aCons (eVar 2) (aCons (eBin dMul (eC (.str "1")) (eC (.int 12))) (aNil)))) (aNil))))))))) (sSeq (sExpr (eMeth okLst oAppend (eVar 6) (aCons (eTup (aCons (eVar 2) (aCons (eBin dMul (eC (.str "c")) (eC (.int 13))) (aNil)))) (aNil)))) (sSeq (sIf (tNot' (tTru (eFn 2 (m__law_says) (aCons (eFnP 1 [0] (m_is_word) (aCons (eIx (eVar 6) (eC (.int 1))) (aNil))) (aCons (eFn 1 (m__law_is_word) (aCons (eIx (eVar 6) (eC (.int 1))) (aNil))) (aNil)))))) (sRet (eC (.bl false))) (sNil)) (sRet (eEqC false (eOfF (fLc (iSeq (eFrz (eVar 6))) (tName 7) (ci__law_judged_0) (ce__law_judged_0) [7])) (eLst (aNil)))))))))))
abbrev m__law_judged (V : Ax) : Fn := fnOf 8 (b__law_judged V)
def lb__law_is_right_0 : Sv := sSet 4 (eBin dAdd (eVar 4) (eCall (o1 dInt1) (aCons (eAnd (eEqC true (eVar 5) (eC (.str "1"))) (eAnd (eEqC true (eVar 6) (eC (.str "1"))) (eEqC true (eVar 5) (eVar 6)))) (aNil))))
def b__law_is_right (V : Ax) : Sv := sSeq (sSet 1 (eBin dAdd (eC (.int 1)) (eFn 2 (m__law_draw) (aCons (eVar 0) (aCons (eC (.int 12)) (aNil)))))) (sSeq (sPar 2 3 (aCons (eFn 2 (m__law_word) (aCons (eVar 0) (aCons (eVar 1) (aNil)))) (aCons (eFn 2 (m__law_word) (aCons (eVar 0) (aCons (eVar 1) (aNil)))) (aNil)))) (sSeq (sIf (tCmpE (eEqC false (eFn 2 (m__law_draw) (aCons (eVar 0) (aCons (eC (.int 4)) (aNil)))) (eC (.int 0)))) (sSet 3 (eFn 1 (m__law_minus) (aCons (eVar 2) (aNil)))) (sNil)) (sSeq (sSet 4 (eC (.int 0))) (sSeq (sFor (iZipE (aCons (eIx (eVar 2) (eC (.int 1))) (aCons (eIx (eVar 3) (eC (.int 1))) (aNil)))) (tTupG 2 (tgCons (tName 5) (tgCons (tName 6) (tgNil)))) (lb__law_is_right_0)) (sSeq (sSet 7 (eEqC false (eBin (dI cMod fun i j => .int (i % j)) (eCall (o1 dInt1) (aCons (eVar 4) (aNil))) (eC (.int 2))) (eC (.int 0)))) (sSeq (sIf (tOr' (tNot' (tTru (eFn 2 (m__law_says) (aCons (eFn 2 (m_goes_past) (aCons (eVar 2) (aCons (eVar 3) (aNil)))) (aCons (eVar 7) (aNil)))))) (tNot' (tTru (eFn 2 (m__law_says) (aCons (eFnP 2 [0, 1] (m_goes_past) (aCons (eVar 3) (aCons (eVar 2) (aNil)))) (aCons (eVar 7) (aNil))))))) (sRet (eC (.bl false))) (sNil)) (sSeq (sPar 8 9 (aCons (eFn 2 (m_put_together) (aCons (eVar 2) (aCons (eVar 3) (aNil)))) (aCons (eFn 2 (m_put_together) (aCons (eVar 3) (aCons (eVar 2) (aNil)))) (aNil)))) (sSeq (sIf (tOr' (tCmpE (eEqC true (eCall (o1 dRepr) (aCons (eVar 8) (aNil))) (eCall (o1 dRepr) (aCons (eIf (tTru (eVar 7)) (eVar 9) (eFn 1 (m__law_minus) (aCons (eVar 9) (aNil)))) (aNil))))) (tCmpE (eEqC true (eVar 7) (eFn 2 (m__law_past) (aCons (eVar 2) (aCons (eVar 3) (aNil))))))) (sRet (eC (.bl false))) (sNil)) (sSeq (sSet 10 (eEqC false (eBin (dI cMod fun i j => .int (i % j)) (eCall (o1 dInt1) (aCons (eMeth okStr (oStr1 kCount) (eIx (eVar 2) (eC (.int 1))) (aCons (eC (.str "c")) (aNil))) (aNil))) (eC (.int 2))) (eC (.int 0)))) (sSeq (sSet 11 (eCall (o1 dRepr) (aCons (eFn 2 (m__law_nothing) (aCons (eVar 1) (aCons (eIf (tTru (eVar 10)) (eC (.int 1)) (eUn dNeg (eC (.int 1)))) (aNil)))) (aNil)))) (sRet (eAnd (eFn 2 (m__law_says) (aCons (eFnP 1 [0] (m_is_turner) (aCons (eVar 2) (aNil))) (aCons (eVar 10) (aNil)))) (eAnd (eEqC false (eCall (o1 dRepr) (aCons (eFn 2 (m_put_together) (aCons (eVar 2) (aCons (eVar 2) (aNil)))) (aNil))) (eVar 11)) (eFn 2 (m__law_judged V) (aCons (eVar 0) (aCons (eVar 2) (aNil)))))))))))))))))
abbrev m__law_is_right (V : Ax) : Fn := fnOf 12 (b__law_is_right V)
def b__law_refuses (V : Ax) : Sv := sSeq (sAsg (tTupG 2 (tgCons (tName 1) (tgCons (tName 2) (tgNil)))) (eTup (aCons (eFn 2 (m__law_word) (aCons (eVar 0) (aCons (eBin dAdd (eC (.int 1)) (eFn 2 (m__law_draw) (aCons (eVar 0) (aCons (eC (.int 12)) (aNil))))) (aNil)))) (aCons (eFn 1 (m__law_bad_word) (aCons (eVar 0) (aNil))) (aNil))))) (sSeq (sSet 3 (eFn 2 (m__law_word) (aCons (eVar 0) (aCons (eBin dAdd (eC (.int 1)) (eBin (dI cMod fun i j => .int (i % j)) (eCall (o1 dInt1) (aCons (eCall oLen (aCons (eIx (eVar 1) (eC (.int 1))) (aNil))) (aNil))) (eC (.int 12)))) (aNil))))) (sSeq (sSet 4 (eCaught V.L (eFn 2 (m_goes_past) (aCons (eVar 2) (aCons (eVar 3) (aNil)))))) (sSeq (sIf (tNot' (tTru (eCall (oIsXD V.K (V.L.map (·.2))) (aCons (eVar 4) (aCons (eC (.op (.ref (V.A 36)))) (aNil)))))) (sRet (eC (.bl false))) (sNil)) (sSeq (sSet 4 (eCaught V.L (eFn 2 (m_goes_past) (aCons (eVar 1) (aCons (eVar 2) (aNil)))))) (sSeq (sIf (tNot' (tTru (eCall (oIsXD V.K (V.L.map (·.2))) (aCons (eVar 4) (aCons (eC (.op (.ref (V.A 36)))) (aNil)))))) (sRet (eC (.bl false))) (sNil)) (sSeq (sSet 4 (eCaught V.L (eFn 2 (m_goes_past) (aCons (eVar 3) (aCons (eVar 1) (aNil)))))) (sSeq (sIf (tNot' (tTru (eCall (oIsXD V.K (V.L.map (·.2))) (aCons (eVar 4) (aCons (eC (.op (.ref (V.A 49)))) (aNil)))))) (sRet (eC (.bl false))) (sNil)) (sSeq (sSet 4 (eCaught V.L (eFn 1 (m_is_turner) (aCons (eVar 2) (aNil))))) (sRet (eCall (oIsXD V.K (V.L.map (·.2))) (aCons (eVar 4) (aCons (eC (.op (.ref (V.A 36)))) (aNil)))))))))))))
abbrev m__law_refuses (V : Ax) : Fn := fnOf 5 (b__law_refuses V)
def lb_law_0 (V : Ax) : Sv := sIf (tOr' (tNot' (tTru (eFn 1 (m__law_is_right V) (aCons (eVar 1) (aNil))))) (tNot' (tTru (eFn 1 (m__law_refuses V) (aCons (eVar 1) (aNil)))))) (sRet (eC (.bl false))) (sNil)
def b_law (V : Ax) : Sv := sSeq (sSet 1 (eFn 1 (m__law_begun) (aCons (eVar 0) (aNil)))) (sSeq (sFor (iRg1 (aCons (eBin dAdd (eC (.int 1)) (eCall (o2 dMin2) (aCons (eCall oLen (aCons (eVar 0) (aNil))) (aCons (eC (.int 3)) (aNil))))) (aNil))) (tName 2) ((lb_law_0 V))) (sRet (eC (.bl true))))
abbrev m_law (V : Ax) : Fn := fnOf 3 (b_law V)
/-- what is known of the classes -/
structure AxF_k01 (V : Ax) : Prop where
  lk_BadWord : V.L.lookup ("BadWord" : Str) = some (V.A 36)
  mm_BadWord : V.A 36 ∈ V.L.map (·.2)
  lk_OtherLength : V.L.lookup ("OtherLength" : Str) = some (V.A 49)
  mm_OtherLength : V.A 49 ∈ V.L.map (·.2)
  lk_BadMany : V.L.lookup ("BadMany" : Str) = some (V.A 15)
  mm_BadMany : V.A 15 ∈ V.L.map (·.2)
  lk_BadBenches : V.L.lookup ("BadBenches" : Str) = some (V.A 2)
  mm_BadBenches : V.A 2 ∈ V.L.map (·.2)
  n_BadWord : PySem.W.kitOne V.K (.type "NoneType") (.ref (V.A 36)) = some false
  i_BadWord_BadWord : PySem.W.kitOne V.K (.ref (V.A 36)) (.ref (V.A 36)) = some true
  i_OtherLength_BadWord : PySem.W.kitOne V.K (.ref (V.A 49)) (.ref (V.A 36)) = some false
  i_BadMany_BadWord : PySem.W.kitOne V.K (.ref (V.A 15)) (.ref (V.A 36)) = some false
  i_BadBenches_BadWord : PySem.W.kitOne V.K (.ref (V.A 2)) (.ref (V.A 36)) = some false
  n_OtherLength : PySem.W.kitOne V.K (.type "NoneType") (.ref (V.A 49)) = some false
  i_BadWord_OtherLength : PySem.W.kitOne V.K (.ref (V.A 36)) (.ref (V.A 49)) = some false
  i_OtherLength_OtherLength : PySem.W.kitOne V.K (.ref (V.A 49)) (.ref (V.A 49)) = some true
  i_BadMany_OtherLength : PySem.W.kitOne V.K (.ref (V.A 15)) (.ref (V.A 49)) = some false
  i_BadBenches_OtherLength : PySem.W.kitOne V.K (.ref (V.A 2)) (.ref (V.A 49)) = some false
end DX

set_option Elab.async false
set_option linter.all false
set_option maxRecDepth 100000
set_option maxHeartbeats 4000000
namespace DX
open PySem PySem.Spec PyProof.Rows L2
def topS (i : Nat) : Stmt := PySem.Challenge.pw_leftminus_k01_words_that_go_past.main.body.getD i (.Pass ⟨0, 0, 0, 0⟩)
abbrev s__law_begun : Stmt := topS 38
theorem sc__law_begun : FnScope ["_law_script", "_law_cells_here", "_law_large", "_law_cell"] ["_law_script"] (defScope s__law_begun) := ⟨rfl, rfl, rfl, by decide +kernel, rfl, by decide +kernel, by decide +kernel⟩
abbrev s__law_draw : Stmt := topS 39
theorem sc__law_draw : FnScope ["_law_state", "_law_size_here", "_law_found", "_law_turn", "_law_cell", "_law_mixed"] ["_law_state", "_law_size_here"] (defScope s__law_draw) := ⟨rfl, rfl, rfl, by decide +kernel, rfl, by decide +kernel, by decide +kernel⟩
abbrev s__law_pick : Stmt := topS 40
theorem sc__law_pick : FnScope ["_law_state", "_law_several"] ["_law_state", "_law_several"] (defScope s__law_pick) := ⟨rfl, rfl, rfl, by decide +kernel, rfl, by decide +kernel, by decide +kernel⟩
abbrev s__law_word : Stmt := topS 47
theorem sc__law_word : FnScope ["_law_state", "_law_size_here", "_law_letters_here", "_law_lap"] ["_law_state", "_law_size_here"] (defScope s__law_word) := ⟨rfl, rfl, rfl, by decide +kernel, rfl, by decide +kernel, by decide +kernel⟩
abbrev s__law_minus : Stmt := topS 50
theorem sc__law_minus : FnScope ["_law_each"] ["_law_each"] (defScope s__law_minus) := ⟨rfl, rfl, rfl, by decide +kernel, rfl, by decide +kernel, by decide +kernel⟩
abbrev s_is_number : Stmt := topS 3
theorem sc_is_number : FnScope ["thing"] ["thing"] (defScope s_is_number) := ⟨rfl, rfl, rfl, by decide +kernel, rfl, by decide +kernel, by decide +kernel⟩
abbrev s_is_sign : Stmt := topS 5
theorem sc_is_sign : FnScope ["thing"] ["thing"] (defScope s_is_sign) := ⟨rfl, rfl, rfl, by decide +kernel, rfl, by decide +kernel, by decide +kernel⟩
abbrev s_is_word : Stmt := topS 17
theorem sc_is_word : FnScope ["thing", "letters", "one"] ["thing"] (defScope s_is_word) := ⟨rfl, rfl, rfl, by decide +kernel, rfl, by decide +kernel, by decide +kernel⟩
abbrev s_need_word : Stmt := topS 18
theorem sc_need_word : FnScope ["word"] ["word"] (defScope s_need_word) := ⟨rfl, rfl, rfl, by decide +kernel, rfl, by decide +kernel, by decide +kernel⟩
abbrev s_need_like : Stmt := topS 19
theorem sc_need_like : FnScope ["one", "other"] ["one", "other"] (defScope s_need_like) := ⟨rfl, rfl, rfl, by decide +kernel, rfl, by decide +kernel, by decide +kernel⟩
abbrev s_code_of : Stmt := topS 20
theorem sc_code_of : FnScope ["word", "at", "letter"] ["word"] (defScope s_code_of) := ⟨rfl, rfl, rfl, by decide +kernel, rfl, by decide +kernel, by decide +kernel⟩
abbrev s_is_odd : Stmt := topS 1
theorem sc_is_odd : FnScope ["mask", "odd"] ["mask"] (defScope s_is_odd) := ⟨rfl, rfl, rfl, by decide +kernel, rfl, by decide +kernel, by decide +kernel⟩
abbrev s_is_crossed : Stmt := topS 22
theorem sc_is_crossed : FnScope ["one", "other"] ["one", "other"] (defScope s_is_crossed) := ⟨rfl, rfl, rfl, by decide +kernel, rfl, by decide +kernel, by decide +kernel⟩
abbrev s_letters_of : Stmt := topS 21
theorem sc_letters_of : FnScope ["code", "length", "at"] ["code", "length"] (defScope s_letters_of) := ⟨rfl, rfl, rfl, by decide +kernel, rfl, by decide +kernel, by decide +kernel⟩
abbrev s_put_of : Stmt := topS 24
theorem sc_put_of : FnScope ["one", "other", "first", "second", "sign"] ["one", "other"] (defScope s_put_of) := ⟨rfl, rfl, rfl, by decide +kernel, rfl, by decide +kernel, by decide +kernel⟩
abbrev s_put_together : Stmt := topS 27
theorem sc_put_together : FnScope ["one", "other"] ["one", "other"] (defScope s_put_together) := ⟨rfl, rfl, rfl, by decide +kernel, rfl, by decide +kernel, by decide +kernel⟩
abbrev s__law_nothing : Stmt := topS 45
theorem sc__law_nothing : FnScope ["_law_size_here", "_law_sign"] ["_law_size_here", "_law_sign"] (defScope s__law_nothing) := ⟨rfl, rfl, rfl, by decide +kernel, rfl, by decide +kernel, by decide +kernel⟩
abbrev s__law_says : Stmt := topS 46
theorem sc__law_says : FnScope ["_law_found", "_law_due"] ["_law_found", "_law_due"] (defScope s__law_says) := ⟨rfl, rfl, rfl, by decide +kernel, rfl, by decide +kernel, by decide +kernel⟩
abbrev s_is_between : Stmt := topS 4
theorem sc_is_between : FnScope ["thing", "least", "most"] ["thing", "least", "most"] (defScope s_is_between) := ⟨rfl, rfl, rfl, by decide +kernel, rfl, by decide +kernel, by decide +kernel⟩
abbrev s_is_rising : Stmt := topS 6
theorem sc_is_rising : FnScope ["thing", "many", "item", "one", "other"] ["thing", "many"] (defScope s_is_rising) := ⟨rfl, rfl, rfl, by decide +kernel, rfl, by decide +kernel, by decide +kernel⟩
abbrev s_is_crew : Stmt := topS 34
theorem sc_is_crew : FnScope ["many", "thing"] ["many", "thing"] (defScope s_is_crew) := ⟨rfl, rfl, rfl, by decide +kernel, rfl, by decide +kernel, by decide +kernel⟩
abbrev s_is_bench : Stmt := topS 35
theorem sc_is_bench : FnScope ["many", "thing"] ["many", "thing"] (defScope s_is_bench) := ⟨rfl, rfl, rfl, by decide +kernel, rfl, by decide +kernel, by decide +kernel⟩
abbrev s_Hall_init_ : Stmt := inClass (topS 36) 0
theorem sc_Hall_init_ : FnScope ["self", "many", "benches", "bench"] ["self", "many", "benches"] (defScope s_Hall_init_) := ⟨rfl, rfl, rfl, by decide +kernel, rfl, by decide +kernel, by decide +kernel⟩
abbrev s__law_bad_word : Stmt := topS 49
theorem sc__law_bad_word : FnScope ["_law_state", "_law_bad"] ["_law_state"] (defScope s__law_bad_word) := ⟨rfl, rfl, rfl, by decide +kernel, rfl, by decide +kernel, by decide +kernel⟩
abbrev s__law_is_whole : Stmt := topS 42
theorem sc__law_is_whole : FnScope ["_law_item"] ["_law_item"] (defScope s__law_is_whole) := ⟨rfl, rfl, rfl, by decide +kernel, rfl, by decide +kernel, by decide +kernel⟩
abbrev s__law_is_word : Stmt := topS 48
theorem sc__law_is_word : FnScope ["_law_item", "_law_each"] ["_law_item"] (defScope s__law_is_word) := ⟨rfl, rfl, rfl, by decide +kernel, rfl, by decide +kernel, by decide +kernel⟩
abbrev s__law_judged : Stmt := topS 51
theorem sc__law_judged : FnScope ["_law_state", "_law_good", "_law_sign", "_law_letters_here", "_law_spot", "_law_odd", "_law_several", "_law_each"] ["_law_state", "_law_good"] (defScope s__law_judged) := ⟨rfl, rfl, rfl, by decide +kernel, rfl, by decide +kernel, by decide +kernel⟩
abbrev s__law_two : Stmt := topS 43
theorem sc__law_two : FnScope ["_law_one", "_law_other", "_law_sign", "_law_letters_here", "_law_first", "_law_second", "_law_here", "_law_there"] ["_law_one", "_law_other"] (defScope s__law_two) := ⟨rfl, rfl, rfl, by decide +kernel, rfl, by decide +kernel, by decide +kernel⟩
abbrev s__law_past : Stmt := topS 44
theorem sc__law_past : FnScope ["_law_one", "_law_other"] ["_law_one", "_law_other"] (defScope s__law_past) := ⟨rfl, rfl, rfl, by decide +kernel, rfl, by decide +kernel, by decide +kernel⟩
abbrev s_is_turning : Stmt := topS 26
theorem sc_is_turning : FnScope ["word"] ["word"] (defScope s_is_turning) := ⟨rfl, rfl, rfl, by decide +kernel, rfl, by decide +kernel, by decide +kernel⟩
abbrev s_is_turner : Stmt := topS 29
theorem sc_is_turner : FnScope ["word"] ["word"] (defScope s_is_turner) := ⟨rfl, rfl, rfl, by decide +kernel, rfl, by decide +kernel, by decide +kernel⟩
abbrev s_is_past : Stmt := topS 23
theorem sc_is_past : FnScope ["one", "other"] ["one", "other"] (defScope s_is_past) := ⟨rfl, rfl, rfl, by decide +kernel, rfl, by decide +kernel, by decide +kernel⟩
abbrev s_past_of : Stmt := topS 25
theorem sc_past_of : FnScope ["one", "other"] ["one", "other"] (defScope s_past_of) := ⟨rfl, rfl, rfl, by decide +kernel, rfl, by decide +kernel, by decide +kernel⟩
abbrev s_goes_past : Stmt := topS 28
theorem sc_goes_past : FnScope ["one", "other"] ["one", "other"] (defScope s_goes_past) := ⟨rfl, rfl, rfl, by decide +kernel, rfl, by decide +kernel, by decide +kernel⟩
abbrev s__law_is_right : Stmt := topS 52
theorem sc__law_is_right : FnScope ["_law_state", "_law_size_here", "_law_one", "_law_other", "_law_unlike", "_law_first", "_law_second", "_law_due", "_law_there", "_law_back", "_law_even", "_law_twice"] ["_law_state"] (defScope s__law_is_right) := ⟨rfl, rfl, rfl, by decide +kernel, rfl, by decide +kernel, by decide +kernel⟩
abbrev s__law_caught : Stmt := topS 41
theorem sc__law_caught : FnScope ["_law_work", "_law_caught_here", "error"] ["_law_work"] (defScope s__law_caught) := ⟨rfl, rfl, rfl, by decide +kernel, rfl, by decide +kernel, by decide +kernel⟩
abbrev s__law_refuses : Stmt := topS 53
theorem sc__law_refuses : FnScope ["_law_state", "_law_good", "_law_bad", "_law_far", "_law_caught_here"] ["_law_state"] (defScope s__law_refuses) := ⟨rfl, rfl, rfl, by decide +kernel, rfl, by decide +kernel, by decide +kernel⟩
abbrev s_law : Stmt := topS 54
theorem sc_law : FnScope ["_law_script", "_law_state", "_law_turn"] ["_law_script"] (defScope s_law) := ⟨rfl, rfl, rfl, by decide +kernel, rfl, by decide +kernel, by decide +kernel⟩
structure Top (K : Frag) (mg : MG) where
  C_Hall : Addr
  M_Hall : mg "Hall" = some (.ref C_Hall)
  f__law_begun : Addr
  d__law_begun : FuncData
  F__law_begun : Fun K "_law_begun" "_law_begun" s__law_begun f__law_begun d__law_begun
  m__law_begun : mg "_law_begun" = some (.ref f__law_begun)
  b__law_begun : L2.Binds K d__law_begun ["_law_script"] []
  f__law_draw : Addr
  d__law_draw : FuncData
  F__law_draw : Fun K "_law_draw" "_law_draw" s__law_draw f__law_draw d__law_draw
  m__law_draw : mg "_law_draw" = some (.ref f__law_draw)
  b__law_draw : L2.Binds K d__law_draw ["_law_state", "_law_size_here"] []
  f__law_pick : Addr
  d__law_pick : FuncData
  F__law_pick : Fun K "_law_pick" "_law_pick" s__law_pick f__law_pick d__law_pick
  m__law_pick : mg "_law_pick" = some (.ref f__law_pick)
  b__law_pick : L2.Binds K d__law_pick ["_law_state", "_law_several"] []
  f__law_word : Addr
  d__law_word : FuncData
  F__law_word : Fun K "_law_word" "_law_word" s__law_word f__law_word d__law_word
  m__law_word : mg "_law_word" = some (.ref f__law_word)
  b__law_word : L2.Binds K d__law_word ["_law_state", "_law_size_here"] []
  f__law_minus : Addr
  d__law_minus : FuncData
  F__law_minus : Fun K "_law_minus" "_law_minus" s__law_minus f__law_minus d__law_minus
  m__law_minus : mg "_law_minus" = some (.ref f__law_minus)
  b__law_minus : L2.Binds K d__law_minus ["_law_each"] []
  f_is_number : Addr
  d_is_number : FuncData
  F_is_number : Fun K "is_number" "is_number" s_is_number f_is_number d_is_number
  m_is_number : mg "is_number" = some (.ref f_is_number)
  b_is_number : L2.Binds K d_is_number ["thing"] []
  f_is_sign : Addr
  d_is_sign : FuncData
  F_is_sign : Fun K "is_sign" "is_sign" s_is_sign f_is_sign d_is_sign
  m_is_sign : mg "is_sign" = some (.ref f_is_sign)
  b_is_sign : L2.Binds K d_is_sign ["thing"] []
  f_is_word : Addr
  d_is_word : FuncData
  F_is_word : Fun K "is_word" "is_word" s_is_word f_is_word d_is_word
  m_is_word : mg "is_word" = some (.ref f_is_word)
  b_is_word : L2.Binds K d_is_word ["thing"] []
  f_need_word : Addr
  d_need_word : FuncData
  F_need_word : Fun K "need_word" "need_word" s_need_word f_need_word d_need_word
  m_need_word : mg "need_word" = some (.ref f_need_word)
  b_need_word : L2.Binds K d_need_word ["word"] []
  f_need_like : Addr
  d_need_like : FuncData
  F_need_like : Fun K "need_like" "need_like" s_need_like f_need_like d_need_like
  m_need_like : mg "need_like" = some (.ref f_need_like)
  b_need_like : L2.Binds K d_need_like ["one", "other"] []
  f_code_of : Addr
  d_code_of : FuncData
  F_code_of : Fun K "code_of" "code_of" s_code_of f_code_of d_code_of
  m_code_of : mg "code_of" = some (.ref f_code_of)
  b_code_of : L2.Binds K d_code_of ["word"] []
  f_is_odd : Addr
  d_is_odd : FuncData
  F_is_odd : Fun K "is_odd" "is_odd" s_is_odd f_is_odd d_is_odd
  m_is_odd : mg "is_odd" = some (.ref f_is_odd)
  b_is_odd : L2.Binds K d_is_odd ["mask"] []
  f_is_crossed : Addr
  d_is_crossed : FuncData
  F_is_crossed : Fun K "is_crossed" "is_crossed" s_is_crossed f_is_crossed d_is_crossed
  m_is_crossed : mg "is_crossed" = some (.ref f_is_crossed)
  b_is_crossed : L2.Binds K d_is_crossed ["one", "other"] []
  f_letters_of : Addr
  d_letters_of : FuncData
  F_letters_of : Fun K "letters_of" "letters_of" s_letters_of f_letters_of d_letters_of
  m_letters_of : mg "letters_of" = some (.ref f_letters_of)
  b_letters_of : L2.Binds K d_letters_of ["code", "length"] []
  f_put_of : Addr
  d_put_of : FuncData
  F_put_of : Fun K "put_of" "put_of" s_put_of f_put_of d_put_of
  m_put_of : mg "put_of" = some (.ref f_put_of)
  b_put_of : L2.Binds K d_put_of ["one", "other"] []
  f_put_together : Addr
  d_put_together : FuncData
  F_put_together : Fun K "put_together" "put_together" s_put_together f_put_together d_put_together
  m_put_together : mg "put_together" = some (.ref f_put_together)
  b_put_together : L2.Binds K d_put_together ["one", "other"] []
  f__law_nothing : Addr
  d__law_nothing : FuncData
  F__law_nothing : Fun K "_law_nothing" "_law_nothing" s__law_nothing f__law_nothing d__law_nothing
  m__law_nothing : mg "_law_nothing" = some (.ref f__law_nothing)
  b__law_nothing : L2.Binds K d__law_nothing ["_law_size_here", "_law_sign"] []
  f__law_says : Addr
  d__law_says : FuncData
  F__law_says : Fun K "_law_says" "_law_says" s__law_says f__law_says d__law_says
  m__law_says : mg "_law_says" = some (.ref f__law_says)
  b__law_says : L2.Binds K d__law_says ["_law_found", "_law_due"] []
  f_is_between : Addr
  d_is_between : FuncData
  F_is_between : Fun K "is_between" "is_between" s_is_between f_is_between d_is_between
  m_is_between : mg "is_between" = some (.ref f_is_between)
  b_is_between : L2.Binds K d_is_between ["thing", "least", "most"] []
  f_is_rising : Addr
  d_is_rising : FuncData
  F_is_rising : Fun K "is_rising" "is_rising" s_is_rising f_is_rising d_is_rising
  m_is_rising : mg "is_rising" = some (.ref f_is_rising)
  b_is_rising : L2.Binds K d_is_rising ["thing", "many"] []
  f_is_crew : Addr
  d_is_crew : FuncData
  F_is_crew : Fun K "is_crew" "is_crew" s_is_crew f_is_crew d_is_crew
  m_is_crew : mg "is_crew" = some (.ref f_is_crew)
  b_is_crew : L2.Binds K d_is_crew ["many", "thing"] []
  f_is_bench : Addr
  d_is_bench : FuncData
  F_is_bench : Fun K "is_bench" "is_bench" s_is_bench f_is_bench d_is_bench
  m_is_bench : mg "is_bench" = some (.ref f_is_bench)
  b_is_bench : L2.Binds K d_is_bench ["many", "thing"] []
  f_Hall_init_ : Addr
  d_Hall_init_ : FuncData
  F_Hall_init_ : Fun K "__init__" "Hall.__init__" s_Hall_init_ f_Hall_init_ d_Hall_init_
  b_Hall_init_ : L2.Binds K d_Hall_init_ ["self", "many", "benches"] []
  f__law_bad_word : Addr
  d__law_bad_word : FuncData
  F__law_bad_word : Fun K "_law_bad_word" "_law_bad_word" s__law_bad_word f__law_bad_word d__law_bad_word
  m__law_bad_word : mg "_law_bad_word" = some (.ref f__law_bad_word)
  b__law_bad_word : L2.Binds K d__law_bad_word ["_law_state"] []
  f__law_is_whole : Addr
  d__law_is_whole : FuncData
  F__law_is_whole : Fun K "_law_is_whole" "_law_is_whole" s__law_is_whole f__law_is_whole d__law_is_whole
  m__law_is_whole : mg "_law_is_whole" = some (.ref f__law_is_whole)
  b__law_is_whole : L2.Binds K d__law_is_whole ["_law_item"] []
  f__law_is_word : Addr
  d__law_is_word : FuncData
  F__law_is_word : Fun K "_law_is_word" "_law_is_word" s__law_is_word f__law_is_word d__law_is_word
  m__law_is_word : mg "_law_is_word" = some (.ref f__law_is_word)
  b__law_is_word : L2.Binds K d__law_is_word ["_law_item"] []
  f__law_judged : Addr
  d__law_judged : FuncData
  F__law_judged : Fun K "_law_judged" "_law_judged" s__law_judged f__law_judged d__law_judged
  m__law_judged : mg "_law_judged" = some (.ref f__law_judged)
  b__law_judged : L2.Binds K d__law_judged ["_law_state", "_law_good"] []
  f__law_two : Addr
  d__law_two : FuncData
  F__law_two : Fun K "_law_two" "_law_two" s__law_two f__law_two d__law_two
  m__law_two : mg "_law_two" = some (.ref f__law_two)
  b__law_two : L2.Binds K d__law_two ["_law_one", "_law_other"] []
  f__law_past : Addr
  d__law_past : FuncData
  F__law_past : Fun K "_law_past" "_law_past" s__law_past f__law_past d__law_past
  m__law_past : mg "_law_past" = some (.ref f__law_past)
  b__law_past : L2.Binds K d__law_past ["_law_one", "_law_other"] []
  f_is_turning : Addr
  d_is_turning : FuncData
  F_is_turning : Fun K "is_turning" "is_turning" s_is_turning f_is_turning d_is_turning
  m_is_turning : mg "is_turning" = some (.ref f_is_turning)
  b_is_turning : L2.Binds K d_is_turning ["word"] []
  f_is_turner : Addr
  d_is_turner : FuncData
  F_is_turner : Fun K "is_turner" "is_turner" s_is_turner f_is_turner d_is_turner
  m_is_turner : mg "is_turner" = some (.ref f_is_turner)
  b_is_turner : L2.Binds K d_is_turner ["word"] []
  f_is_past : Addr
  d_is_past : FuncData
  F_is_past : Fun K "is_past" "is_past" s_is_past f_is_past d_is_past
  m_is_past : mg "is_past" = some (.ref f_is_past)
  b_is_past : L2.Binds K d_is_past ["one", "other"] []
  f_past_of : Addr
  d_past_of : FuncData
  F_past_of : Fun K "past_of" "past_of" s_past_of f_past_of d_past_of
  m_past_of : mg "past_of" = some (.ref f_past_of)
  b_past_of : L2.Binds K d_past_of ["one", "other"] []
  f_goes_past : Addr
  d_goes_past : FuncData
  F_goes_past : Fun K "goes_past" "goes_past" s_goes_past f_goes_past d_goes_past
  m_goes_past : mg "goes_past" = some (.ref f_goes_past)
  b_goes_past : L2.Binds K d_goes_past ["one", "other"] []
  f__law_is_right : Addr
  d__law_is_right : FuncData
  F__law_is_right : Fun K "_law_is_right" "_law_is_right" s__law_is_right f__law_is_right d__law_is_right
  m__law_is_right : mg "_law_is_right" = some (.ref f__law_is_right)
  b__law_is_right : L2.Binds K d__law_is_right ["_law_state"] []
  f__law_caught : Addr
  d__law_caught : FuncData
  F__law_caught : Fun K "_law_caught" "_law_caught" s__law_caught f__law_caught d__law_caught
  m__law_caught : mg "_law_caught" = some (.ref f__law_caught)
  b__law_caught : L2.Binds K d__law_caught ["_law_work"] []
  f__law_refuses : Addr
  d__law_refuses : FuncData
  F__law_refuses : Fun K "_law_refuses" "_law_refuses" s__law_refuses f__law_refuses d__law_refuses
  m__law_refuses : mg "_law_refuses" = some (.ref f__law_refuses)
  b__law_refuses : L2.Binds K d__law_refuses ["_law_state"] []
  f_law : Addr
  d_law : FuncData
  F_law : Fun K "law" "law" s_law f_law d_law
  m_law : mg "law" = some (.ref f_law)
  b_law : L2.Binds K d_law ["_law_script"] []
  C_TurnError : Addr
  M_TurnError : mg "TurnError" = some (.ref C_TurnError)
  q_TurnError : PySem.W.excIn K C_TurnError bmV newV = true
  k_TurnError : PySem.W.keepIn K (.ref C_TurnError) = true
  r_TurnError : PySem.W.subIn K (.ref C_TurnError) (.type "BaseException") = some true
  t_TurnError : PySem.W.typeIn K (.ref C_TurnError) = some (.type "type")
  X_TurnError : ExcC K C_TurnError
  C_BadWord : Addr
  M_BadWord : mg "BadWord" = some (.ref C_BadWord)
  q_BadWord : PySem.W.excIn K C_BadWord bmV newV = true
  k_BadWord : PySem.W.keepIn K (.ref C_BadWord) = true
  r_BadWord : PySem.W.subIn K (.ref C_BadWord) (.type "BaseException") = some true
  t_BadWord : PySem.W.typeIn K (.ref C_BadWord) = some (.type "type")
  X_BadWord : ExcC K C_BadWord
  C_OtherLength : Addr
  M_OtherLength : mg "OtherLength" = some (.ref C_OtherLength)
  q_OtherLength : PySem.W.excIn K C_OtherLength bmV newV = true
  k_OtherLength : PySem.W.keepIn K (.ref C_OtherLength) = true
  r_OtherLength : PySem.W.subIn K (.ref C_OtherLength) (.type "BaseException") = some true
  t_OtherLength : PySem.W.typeIn K (.ref C_OtherLength) = some (.type "type")
  X_OtherLength : ExcC K C_OtherLength
  C_BadMany : Addr
  M_BadMany : mg "BadMany" = some (.ref C_BadMany)
  q_BadMany : PySem.W.excIn K C_BadMany bmV newV = true
  k_BadMany : PySem.W.keepIn K (.ref C_BadMany) = true
  r_BadMany : PySem.W.subIn K (.ref C_BadMany) (.type "BaseException") = some true
  t_BadMany : PySem.W.typeIn K (.ref C_BadMany) = some (.type "type")
  X_BadMany : ExcC K C_BadMany
  C_BadBenches : Addr
  M_BadBenches : mg "BadBenches" = some (.ref C_BadBenches)
  q_BadBenches : PySem.W.excIn K C_BadBenches bmV newV = true
  k_BadBenches : PySem.W.keepIn K (.ref C_BadBenches) = true
  r_BadBenches : PySem.W.subIn K (.ref C_BadBenches) (.type "BaseException") = some true
  t_BadBenches : PySem.W.typeIn K (.ref C_BadBenches) = some (.type "type")
  X_BadBenches : ExcC K C_BadBenches
  cl_Hall : Cls K C_Hall
  ic_Hall : OwnC K C_Hall
  mk_Hall : Mk K C_Hall f_Hall_init_
  nf_Hall_benches : NoAttr K C_Hall "benches"
  nf_Hall_many : NoAttr K C_Hall "many"
  g_LETTERS : ∃ t, mg "LETTERS" = some (.str "1abc" t)
  g_MOST_LENGTH : ∃ t, mg "MOST_LENGTH" = some (.int 12 t)
  g_A_FIGURES : ∃ t, mg "A_FIGURES" = some (.int 5592405 t)
  g_MOST_TURNERS : ∃ t, mg "MOST_TURNERS" = some (.int 15 t)
  g_MOST_BENCHES : ∃ t, mg "MOST_BENCHES" = some (.int 12 t)
  g_MOST_CREW : ∃ t, mg "MOST_CREW" = some (.int 8 t)
  z_abs : mg "abs" = none
  z_all : mg "all" = none
  z_bool : mg "bool" = none
  z_enumerate : mg "enumerate" = none
  z_int : mg "int" = none
  z_isinstance : mg "isinstance" = none
  z_len : mg "len" = none
  z_list : mg "list" = none
  z_min : mg "min" = none
  z_range : mg "range" = none
  z_repr : mg "repr" = none
  z_str : mg "str" = none
  z_sum : mg "sum" = none
  z_tuple : mg "tuple" = none
  z_zip : mg "zip" = none
  c__law_refuses : Addr
  P__law_refuses : Addr
  e__law_refuses : d__law_refuses.code = .ref c__law_refuses
  y_BadWord : PySem.W.exmOne K (.ref C_BadWord) (.ref C_TurnError) = some true
  y_OtherLength : PySem.W.exmOne K (.ref C_OtherLength) (.ref C_TurnError) = some true
  y_BadMany : PySem.W.exmOne K (.ref C_BadMany) (.ref C_TurnError) = some true
  y_BadBenches : PySem.W.exmOne K (.ref C_BadBenches) (.ref C_TurnError) = some true
def Top.caught {K : Frag} {mg : MG} (T : Top K mg) : List (Str × Addr) := [("BadWord", T.C_BadWord), ("OtherLength", T.C_OtherLength), ("BadMany", T.C_BadMany), ("BadBenches", T.C_BadBenches)]
@[reducible] def Top.ax {K : Frag} {mg : MG} (T : Top K mg) : Ax := ⟨K, fun n => match n with | 0 => T.C_TurnError | 2 => T.C_BadBenches | 15 => T.C_BadMany | 36 => T.C_BadWord | 49 => T.C_OtherLength | 52 => T.C_Hall | _ => 0, T.caught⟩
theorem Top.caught_ok {K : Frag} {mg : MG} (T : Top K mg) (x : Str) (C : Addr) (h : T.caught.lookup x = some C) : mg x = some (.ref C) ∧ PySem.W.exmOne K (.ref C) (.ref T.C_TurnError) = some true := by
  have h := PySem.mem_of_lookup h
  unfold Top.caught at h
  simp only [List.mem_cons, List.not_mem_nil, or_false, Prod.mk.injEq] at h
  rcases h with ⟨rfl, rfl⟩ | ⟨rfl, rfl⟩ | ⟨rfl, rfl⟩ | ⟨rfl, rfl⟩
  · exact ⟨T.M_BadWord, T.y_BadWord⟩
  · exact ⟨T.M_OtherLength, T.y_OtherLength⟩
  · exact ⟨T.M_BadMany, T.y_BadMany⟩
  · exact ⟨T.M_BadBenches, T.y_BadBenches⟩
theorem Top.caught_exc {K : Frag} {mg : MG} (T : Top K mg) : ∀ D ∈ T.caught.map (·.2), ExcC K D := by
  intro D h
  unfold Top.caught at h
  simp only [List.map_cons, List.map_nil, List.mem_cons, List.not_mem_nil, or_false] at h
  rcases h with rfl | rfl | rfl | rfl
  · exact T.X_BadWord
  · exact T.X_OtherLength
  · exact T.X_BadMany
  · exact T.X_BadBenches
def Top.tabs {K : Frag} {mg : MG} (T : Top K mg) : List (Addr × Str) := [(T.P__law_refuses, (envOfC "_law_refuses" (defScope s__law_refuses) 0 0 .none).qual ++ "<lambda>")]
structure Tb [TabT] {K : Frag} {mg : MG} (T : Top K mg) (base : Heap) : Prop where
  eq : TabT.T = T.tabs
  tab__law_refuses : LamX.TabB base mg T.c__law_refuses T.P__law_refuses
section
variable [TabT] {P : Program} {w : World} {K : Frag} {mg : MG} {base : Heap}
theorem caught_gv (T : Top K mg) {X : Cx} (hm : X.mg = mg) {cdg : Value} {q : Str} : LamX.GivesTo X ["_law_work", "_law_caught_here", "error"] "_law_caught" (defScope s__law_caught) T.f__law_caught cdg (defBody s__law_caught) "_law_work" q (tCaught X.K (.ref T.C_TurnError)) :=
  caught_gives (cT := "TurnError") rfl sc__law_caught.nd rfl rfl rfl (hm ▸ T.M_TurnError) (by decide) (by decide) (by decide) (by decide) (by decide)
theorem ev_caught (T : Top K mg) {X : Cx} {E : XK} (hK : X.K = K) (hm : X.mg = mg) {c Pt : Addr} {k : Nat} {fb : Ev} {params : Arguments} {bodyL : Expr} {scope : Scope} {p lpos pos : Pos} (hg : Gl X "_law_caught")
    (TB : LamX.TabB X.base X.mg c Pt) (hcode : X.env.code = .ref c) (hmT : (Pt, X.env.qual ++ "<lambda>") ∈ TabT.T) (hu : ∀ p ∈ TabT.T, p.1 = Pt → p.2 = X.env.qual ++ "<lambda>") (hr : Room (k + 2) X.A) (LS : LamX.LamS X.env.scope scope) (hdef : defaultsOf params X.env = ([], []))
    (hbind : ∀ (q : Str) (cl : List (Str × Addr)) (pm cv ctv : Value), bindArgs (PySem.W.kla_fn "<lambda>" q params bodyL scope cl pm cv ctv) ⟨[], []⟩ = pure [])
    (hbody : ∀ (A : Around) (outer : List Env) (s : Shared) (H : Hp) (E : XK) (f c' : Addr), Room k (A.deeper (LamX.lamEnv X scope s.heap.objs.size f c')) → EV (LamX.lamCx X A outer s H E scope f c') E bodyL fb) :
    EV X E (.Call (.Name "_law_caught" p) [.Lambda params bodyL scope lpos] [] pos) (eCaught T.caught fb) := by
  subst hK hm
  obtain ⟨ocC, odC, kVC, docC, pmC, anC, cdvC, ctC, oslC, eC0, lkC0, hcgC⟩ := T.F__law_caught.ex
  have lkC := eC0 ▸ lkC0
  have bdC := eC0 ▸ T.b__law_caught
  exact ev_lamcall (cT := "TurnError") hg T.m__law_caught T.F__law_caught.kp lkC hcgC bdC sc__law_caught rfl (.inl rfl) (caught_gv T rfl) T.caught_ok TB hcode hmT hu hr LS hdef hbind hbody (by decide) (by decide) (by decide)
theorem w__law_begun (T : Top K mg) : FnG P w K mg base false 1 T.f__law_begun T.d__law_begun ["_law_script"] (m__law_begun) := fng_of T.F__law_begun sc__law_begun fun cdv A outer s H E hc hr hgd => svs_cons (sv_setLc (i := 1) eOfF (fun _ _ _ _ h => data_use h) rfl sc__law_begun.nd rfl rfl (sw_true rfl rfl rfl rfl) (ei_seq (ev_var (i := 0) rfl (by first | exact .inl rfl | exact .inr (.inl rfl) | exact .inr (.inr rfl)) (by decide) (by decide))) (own := [("_law_cell", 3)]) (blkOk_by (N := ["_law_script", "_law_cells_here", "_law_large", "_law_cell"]) (sc := defScope s__law_begun) (by decide +kernel)) (fun _ _ _ _ _ => gv_name (i := 3) sc__law_begun.nd rfl (by first | exact .inl rfl | exact .inr rfl) (by first | exact .inl rfl | exact .inr rfl)) (fun _ _ _ _ _ => ets_nil) (fun _ _ _ _ _ => b_abs rfl T.z_abs (ea_cons (ev_var (i := 3) rfl (by first | exact .inl rfl | exact .inr (.inl rfl) | exact .inr (.inr rfl)) (by decide) (by decide)) (ea_nil) rfl) rfl) (by decide) (fun _ => rfl))
    (svs_cons (sv_setLc (i := 2) eCelF (fun _ _ _ _ h => cell_use h) rfl sc__law_begun.nd rfl rfl (sw_true rfl rfl rfl rfl) (ei_seq (ev_var (i := 1) rfl (by first | exact .inl rfl | exact .inr (.inl rfl) | exact .inr (.inr rfl)) (by decide) (by decide))) (own := [("_law_cell", 3)]) (blkOk_by (N := ["_law_script", "_law_cells_here", "_law_large", "_law_cell"]) (sc := defScope s__law_begun) (by decide +kernel)) (fun _ _ _ _ _ => gv_name (i := 3) sc__law_begun.nd rfl (by first | exact .inl rfl | exact .inr rfl) (by first | exact .inl rfl | exact .inr rfl)) (fun _ _ _ _ _ => ets_one (et_ge (ev_var (i := 3) rfl (by first | exact .inl rfl | exact .inr (.inl rfl) | exact .inr (.inr rfl)) (by decide) (by decide)) (ev_pow (ev_int) (ev_int)))) (fun _ _ _ _ _ => ev_sub (ev_var (i := 3) rfl (by first | exact .inl rfl | exact .inr (.inl rfl) | exact .inr (.inr rfl)) (by decide) (by decide)) (ev_pow (ev_int) (ev_int))) (by decide) (fun _ => rfl))
    (svs_one (sv_ret (ev_dicC (ep_str (ev_var (i := 2) rfl (by first | exact .inl rfl | exact .inr (.inl rfl) | exact .inr (.inr rfl)) (by decide) (by decide)) (ep_str (ev_var (i := 1) rfl (by first | exact .inl rfl | exact .inr (.inl rfl) | exact .inr (.inr rfl)) (by decide) (by decide)) (ep_str (ev_int) (ep_str (ev_int) (ep_nil))))) rfl rfl (List.cons_ne_nil _ _) (by decide) (of_decide_eq_true rfl) (by decide +kernel)))))
theorem w__law_draw (T : Top K mg) : FnG P w K mg base false 1 T.f__law_draw T.d__law_draw ["_law_state", "_law_size_here"] (m__law_draw) := fng_of T.F__law_draw sc__law_draw fun cdv A outer s H E hc hr hgd => svs_cons (sv_while mu__law_draw_0 owOf (et_w (ew_and (et_eqC (Room.u64 hr) (ev_ix (Room.u1 hr) (ev_var (i := 0) rfl (by first | exact .inl rfl | exact .inr (.inl rfl) | exact .inr (.inr rfl)) (by decide) (by decide)) (ev_str) (fun _ _ => rfl) (fun _ _ => rfl)) (ev_int)) (ew_and1 (et_neC (Room.u64 hr) (ev_ix (Room.u1 hr) (ev_var (i := 0) rfl (by first | exact .inl rfl | exact .inr (.inl rfl) | exact .inr (.inr rfl)) (by decide) (by decide)) (ev_str) (fun _ _ => rfl) (fun _ _ => rfl)) (ev_lst (ea_nil)))))) (svs_one (sv_put (Room.u1 hr) (ev_var (i := 0) rfl (by first | exact .inl rfl | exact .inr (.inl rfl) | exact .inr (.inr rfl)) (by decide) (by decide)) (ev_str) (ev_popAt (ev_ix (Room.u1 hr) (ev_var (i := 0) rfl (by first | exact .inl rfl | exact .inr (.inl rfl) | exact .inr (.inr rfl)) (by decide) (by decide)) (ev_str) (fun _ _ => rfl) (fun _ _ => rfl)) (ea_cons (ev_int) (ea_nil) rfl) rfl rfl rfl rfl) rfl)))
    (svs_cons (sv_if (et_gt (ev_ix (Room.u1 hr) (ev_var (i := 0) rfl (by first | exact .inl rfl | exact .inr (.inl rfl) | exact .inr (.inr rfl)) (by decide) (by decide)) (ev_str) (fun _ _ => rfl) (fun _ _ => rfl)) (ev_int)) (svs_cons (sv_set (i := 2) sc__law_draw.nd rfl (by first | exact .inl rfl | exact .inr rfl) (ev_mod (b_int rfl T.z_int (ea_cons (ev_ix (Room.u1 hr) (ev_var (i := 0) rfl (by first | exact .inl rfl | exact .inr (.inl rfl) | exact .inr (.inr rfl)) (by decide) (by decide)) (ev_str) (fun _ _ => rfl) (fun _ _ => rfl)) (ea_nil) rfl) rfl) (ev_var (i := 1) rfl (by first | exact .inl rfl | exact .inr (.inl rfl) | exact .inr (.inr rfl)) (by decide) (by decide))) rfl (by first | exact .inl rfl | exact .inr rfl))
    (svs_cons (sv_put (Room.u1 hr) (ev_var (i := 0) rfl (by first | exact .inl rfl | exact .inr (.inl rfl) | exact .inr (.inr rfl)) (by decide) (by decide)) (ev_str) (ev_fdiv (ev_ix (Room.u1 hr) (ev_var (i := 0) rfl (by first | exact .inl rfl | exact .inr (.inl rfl) | exact .inr (.inr rfl)) (by decide) (by decide)) (ev_str) (fun _ _ => rfl) (fun _ _ => rfl)) (ev_var (i := 1) rfl (by first | exact .inl rfl | exact .inr (.inl rfl) | exact .inr (.inr rfl)) (by decide) (by decide))) rfl)
    (svs_one (sv_ret (ev_var (i := 2) rfl (by first | exact .inl rfl | exact .inr (.inl rfl) | exact .inr (.inr rfl)) (by decide) (by decide)))))) (svs_nil))
    (svs_cons (sv_set (i := 3) sc__law_draw.nd rfl (by first | exact .inl rfl | exact .inr rfl) (ev_add (ev_ix (Room.u1 hr) (ev_var (i := 0) rfl (by first | exact .inl rfl | exact .inr (.inl rfl) | exact .inr (.inr rfl)) (by decide) (by decide)) (ev_str) (fun _ _ => rfl) (fun _ _ => rfl)) (ev_int)) rfl (by first | exact .inl rfl | exact .inr rfl))
    (svs_cons (sv_put (Room.u1 hr) (ev_var (i := 0) rfl (by first | exact .inl rfl | exact .inr (.inl rfl) | exact .inr (.inr rfl)) (by decide) (by decide)) (ev_str) (ev_var (i := 3) rfl (by first | exact .inl rfl | exact .inr (.inl rfl) | exact .inr (.inr rfl)) (by decide) (by decide)) rfl)
    (svs_cons (sv_set (i := 4) sc__law_draw.nd rfl (by first | exact .inl rfl | exact .inr rfl) (ev_if (et_neC (Room.u64 hr) (ev_ix (Room.u1 hr) (ev_var (i := 0) rfl (by first | exact .inl rfl | exact .inr (.inl rfl) | exact .inr (.inr rfl)) (by decide) (by decide)) (ev_str) (fun _ _ => rfl) (fun _ _ => rfl)) (ev_lst (ea_nil))) (ev_ix (Room.u1 hr) (ev_ix (Room.u1 hr) (ev_var (i := 0) rfl (by first | exact .inl rfl | exact .inr (.inl rfl) | exact .inr (.inr rfl)) (by decide) (by decide)) (ev_str) (fun _ _ => rfl) (fun _ _ => rfl)) (ev_mod (b_int rfl T.z_int (ea_cons (ev_var (i := 3) rfl (by first | exact .inl rfl | exact .inr (.inl rfl) | exact .inr (.inr rfl)) (by decide) (by decide)) (ea_nil) rfl) rfl) (b_len rfl T.z_len (ea_cons (ev_ix (Room.u1 hr) (ev_var (i := 0) rfl (by first | exact .inl rfl | exact .inr (.inl rfl) | exact .inr (.inr rfl)) (by decide) (by decide)) (ev_str) (fun _ _ => rfl) (fun _ _ => rfl)) (ea_nil) rfl) rfl)) (fun _ _ => rfl) (fun _ _ => rfl)) (ev_int)) rfl (by first | exact .inl rfl | exact .inr rfl))
    (svs_cons (sv_set (i := 5) sc__law_draw.nd rfl (by first | exact .inl rfl | exact .inr rfl) (ev_mod (b_int rfl T.z_int (ea_cons (ev_pow (ev_add (ev_add (ev_mod (b_int rfl T.z_int (ea_cons (ev_var (i := 4) rfl (by first | exact .inl rfl | exact .inr (.inl rfl) | exact .inr (.inr rfl)) (by decide) (by decide)) (ea_nil) rfl) rfl) (ev_int)) (ev_mul (ev_int) (ev_var (i := 3) rfl (by first | exact .inl rfl | exact .inr (.inl rfl) | exact .inr (.inr rfl)) (by decide) (by decide)))) (ev_int)) (ev_int)) (ea_nil) rfl) rfl) (ev_int)) rfl (by first | exact .inl rfl | exact .inr rfl))
    (svs_one (sv_ret (ev_mod (b_int rfl T.z_int (ea_cons (ev_fdiv (ev_mod (b_int rfl T.z_int (ea_cons (ev_pow (ev_add (ev_var (i := 5) rfl (by first | exact .inl rfl | exact .inr (.inl rfl) | exact .inr (.inr rfl)) (by decide) (by decide)) (ev_mul (ev_int) (ev_var (i := 3) rfl (by first | exact .inl rfl | exact .inr (.inl rfl) | exact .inr (.inr rfl)) (by decide) (by decide)))) (ev_int)) (ea_nil) rfl) rfl) (ev_int)) (ev_int)) (ea_nil) rfl) rfl) (ev_var (i := 1) rfl (by first | exact .inl rfl | exact .inr (.inl rfl) | exact .inr (.inr rfl)) (by decide) (by decide))))))))))
theorem w__law_pick (T : Top K mg) : FnG P w K mg base false 2 T.f__law_pick T.d__law_pick ["_law_state", "_law_several"] (m__law_pick) := fng_of T.F__law_pick sc__law_pick fun cdv A outer s H E hc hr hgd => svs_one (sv_ret (ev_ix (Room.u1 hr) (ev_var (i := 1) rfl (by first | exact .inl rfl | exact .inr (.inl rfl) | exact .inr (.inr rfl)) (by decide) (by decide)) (ev_callF (gd := false) (k := 1) (ps := ["_law_state", "_law_size_here"]) ((w__law_draw T).mono (by decide)) hr (fun h => nomatch h) psOf rfl T.m__law_draw T.F__law_draw.kp T.b__law_draw (ea_cons (ev_var (i := 0) rfl (by first | exact .inl rfl | exact .inr (.inl rfl) | exact .inr (.inr rfl)) (by decide) (by decide)) (ea_cons (b_len rfl T.z_len (ea_cons (ev_var (i := 1) rfl (by first | exact .inl rfl | exact .inr (.inl rfl) | exact .inr (.inr rfl)) (by decide) (by decide)) (ea_nil) rfl) rfl) (ea_nil) rfl) rfl) (by decide) rfl rfl) (fun _ _ => rfl) (fun _ _ => rfl)))
theorem w__law_word (T : Top K mg) : FnG P w K mg base false 3 T.f__law_word T.d__law_word ["_law_state", "_law_size_here"] (m__law_word) := fng_of T.F__law_word sc__law_word fun cdv A outer s H E hc hr hgd => svs_cons (sv_set (i := 2) sc__law_word.nd rfl (by first | exact .inl rfl | exact .inr rfl) (ev_str) rfl (by first | exact .inl rfl | exact .inr rfl))
    (svs_cons (sv_for owOf rfl (ei_range1 rfl T.z_range (ea_cons (ev_var (i := 1) rfl (by first | exact .inl rfl | exact .inr (.inl rfl) | exact .inr (.inr rfl)) (by decide) (by decide)) (ea_nil) rfl) rfl) (gv_name (i := 3) sc__law_word.nd rfl (by first | exact .inl rfl | exact .inr rfl) (by first | exact .inl rfl | exact .inr rfl)) (svs_one (sv_set (i := 2) sc__law_word.nd rfl (by first | exact .inl rfl | exact .inr rfl) (ev_add (ev_var (i := 2) rfl (by first | exact .inl rfl | exact .inr (.inl rfl) | exact .inr (.inr rfl)) (by decide) (by decide)) (ev_callF (gd := false) (k := 2) (ps := ["_law_state", "_law_several"]) ((w__law_pick T).mono (by decide)) hr (fun h => nomatch h) psOf rfl T.m__law_pick T.F__law_pick.kp T.b__law_pick (ea_cons (ev_var (i := 0) rfl (by first | exact .inl rfl | exact .inr (.inl rfl) | exact .inr (.inr rfl)) (by decide) (by decide)) (ea_cons (ev_lst (ea_cons (ev_str) (ea_cons (ev_str) (ea_cons (ev_str) (ea_cons (ev_str) (ea_nil) rfl) rfl) rfl) rfl)) (ea_nil) rfl) rfl) (by decide) rfl rfl)) rfl (by first | exact .inl rfl | exact .inr rfl))) (fun _ => rfl))
    (svs_one (sv_ret (ev_tup (ea_cons (ev_callF (gd := false) (k := 2) (ps := ["_law_state", "_law_several"]) ((w__law_pick T).mono (by decide)) hr (fun h => nomatch h) psOf rfl T.m__law_pick T.F__law_pick.kp T.b__law_pick (ea_cons (ev_var (i := 0) rfl (by first | exact .inl rfl | exact .inr (.inl rfl) | exact .inr (.inr rfl)) (by decide) (by decide)) (ea_cons (ev_lst (ea_cons (ev_int) (ea_cons (ev_int) (ea_cons (ev_neg (ev_int)) (ea_nil) rfl) rfl) rfl)) (ea_nil) rfl) rfl) (by decide) rfl rfl) (ea_cons (ev_var (i := 2) rfl (by first | exact .inl rfl | exact .inr (.inl rfl) | exact .inr (.inr rfl)) (by decide) (by decide)) (ea_nil) rfl) rfl)))))
theorem w__law_minus (T : Top K mg) : FnG P w K mg base false 1 T.f__law_minus T.d__law_minus ["_law_each"] (m__law_minus) := fng_of T.F__law_minus sc__law_minus fun cdv A outer s H E hc hr hgd => svs_one (sv_ret (ev_tup (ea_cons (ev_neg (ev_ix (Room.u1 hr) (ev_var (i := 0) rfl (by first | exact .inl rfl | exact .inr (.inl rfl) | exact .inr (.inr rfl)) (by decide) (by decide)) (ev_int) (fun _ _ => rfl) (fun _ _ => rfl))) (ea_cons (ev_ix (Room.u1 hr) (ev_var (i := 0) rfl (by first | exact .inl rfl | exact .inr (.inl rfl) | exact .inr (.inr rfl)) (by decide) (by decide)) (ev_int) (fun _ _ => rfl) (fun _ _ => rfl)) (ea_nil) rfl) rfl)))
theorem w_is_number (T : Top K mg) : FnG P w K mg base false 1 T.f_is_number T.d_is_number ["thing"] (m_is_number) := fng_of T.F_is_number sc_is_number fun cdv A outer s H E hc hr hgd => svs_one (sv_ret (ev_andB (b_isi2 rfl T.z_isinstance (ea_cons (ev_var (i := 0) rfl (by first | exact .inl rfl | exact .inr (.inl rfl) | exact .inr (.inr rfl)) (by decide) (by decide)) (ea_cons (ev_bltn (v := .ty "int") rfl T.z_int boot_int rfl (by decide) (by decide)) (ea_nil) rfl) rfl) rfl rfl) (ev_one (ev_not (b_isi2 rfl T.z_isinstance (ea_cons (ev_var (i := 0) rfl (by first | exact .inl rfl | exact .inr (.inl rfl) | exact .inr (.inr rfl)) (by decide) (by decide)) (ea_cons (ev_bltn (v := .ty "bool") rfl T.z_bool boot_bool rfl (by decide) (by decide)) (ea_nil) rfl) rfl) rfl rfl)))))
theorem w_is_sign (T : Top K mg) : FnG P w K mg base false 2 T.f_is_sign T.d_is_sign ["thing"] (m_is_sign) := fng_of T.F_is_sign sc_is_sign fun cdv A outer s H E hc hr hgd => svs_one (sv_ret (ev_andB (ev_callF (gd := false) (k := 1) (ps := ["thing"]) ((w_is_number T).mono (by decide)) hr (fun h => nomatch h) psOf rfl T.m_is_number T.F_is_number.kp T.b_is_number (ea_cons (ev_var (i := 0) rfl (by first | exact .inl rfl | exact .inr (.inl rfl) | exact .inr (.inr rfl)) (by decide) (by decide)) (ea_nil) rfl) (by decide) rfl rfl) (ev_one (ev_in (Room.u65 hr) (ev_var (i := 0) rfl (by first | exact .inl rfl | exact .inr (.inl rfl) | exact .inr (.inr rfl)) (by decide) (by decide)) (ev_tup (ea_cons (ev_int) (ea_cons (ev_neg (ev_int)) (ea_nil) rfl) rfl)) rfl))))
theorem w_is_word (T : Top K mg) : FnG P w K mg base false 3 T.f_is_word T.d_is_word ["thing"] (m_is_word) := fng_of T.F_is_word sc_is_word fun cdv A outer s H E hc hr hgd => svs_cons (sv_if (et_w (ew_or (et_not (et_tru (b_isi2 rfl T.z_isinstance (ea_cons (ev_var (i := 0) rfl (by first | exact .inl rfl | exact .inr (.inl rfl) | exact .inr (.inr rfl)) (by decide) (by decide)) (ea_cons (ev_bltn (v := .ty "tuple") rfl T.z_tuple boot_tuple rfl (by decide) (by decide)) (ea_nil) rfl) rfl) rfl rfl) (fun _ => rfl))) (ew_or (et_neC (Room.u64 hr) (b_len rfl T.z_len (ea_cons (ev_var (i := 0) rfl (by first | exact .inl rfl | exact .inr (.inl rfl) | exact .inr (.inr rfl)) (by decide) (by decide)) (ea_nil) rfl) rfl) (ev_int)) (ew_or1 (et_not (et_tru (ev_callF (gd := false) (k := 2) (ps := ["thing"]) ((w_is_sign T).mono (by decide)) hr (fun h => nomatch h) psOf rfl T.m_is_sign T.F_is_sign.kp T.b_is_sign (ea_cons (ev_ix (Room.u1 hr) (ev_var (i := 0) rfl (by first | exact .inl rfl | exact .inr (.inl rfl) | exact .inr (.inr rfl)) (by decide) (by decide)) (ev_int) (fun _ _ => rfl) (fun _ _ => rfl)) (ea_nil) rfl) (by decide) rfl rfl) (fun _ => rfl))))))) (svs_one (sv_ret (ev_bl))) (svs_nil))
    (svs_cons (sv_set (i := 1) sc_is_word.nd rfl (by first | exact .inl rfl | exact .inr rfl) (ev_ix (Room.u1 hr) (ev_var (i := 0) rfl (by first | exact .inl rfl | exact .inr (.inl rfl) | exact .inr (.inr rfl)) (by decide) (by decide)) (ev_int) (fun _ _ => rfl) (fun _ _ => rfl)) rfl (by first | exact .inl rfl | exact .inr rfl))
    (svs_one (sv_ret (ev_andB (b_isi2 rfl T.z_isinstance (ea_cons (ev_var (i := 1) rfl (by first | exact .inl rfl | exact .inr (.inl rfl) | exact .inr (.inr rfl)) (by decide) (by decide)) (ea_cons (ev_bltn (v := .ty "str") rfl T.z_str boot_str rfl (by decide) (by decide)) (ea_nil) rfl) rfl) rfl rfl) (ev_andB (ev_chain op_le bo_B0 op_le bo_B0 (ev_int) (b_len rfl T.z_len (ea_cons (ev_var (i := 1) rfl (by first | exact .inl rfl | exact .inr (.inl rfl) | exact .inr (.inr rfl)) (by decide) (by decide)) (ea_nil) rfl) rfl) (ev_glob (v := .int 12) rfl T.g_MOST_LENGTH.choose_spec ⟨_, rfl⟩ (fun _ _ => .int _) (by decide)) (by with_unfolding_all rfl)) (ev_one (b_all rfl rfl T.z_all (ea_cons (ev_ofF (ef_lc rfl sc_is_word.nd (ei_seq (ev_var (i := 1) rfl (by first | exact .inl rfl | exact .inr (.inl rfl) | exact .inr (.inr rfl)) (by decide) (by decide))) (own := [("one", 2)]) (blkOk_by (N := ["thing", "letters", "one"]) (sc := defScope s_is_word) (by decide +kernel)) (fun _ _ _ _ _ => gv_name (i := 2) sc_is_word.nd rfl (by first | exact .inl rfl | exact .inr rfl) (by first | exact .inl rfl | exact .inr rfl)) (fun _ _ _ _ _ => ets_nil) (fun _ _ _ _ _ => ev_in (Room.u65 hr) (ev_var (i := 2) rfl (by first | exact .inl rfl | exact .inr (.inl rfl) | exact .inr (.inr rfl)) (by decide) (by decide)) (ev_glob (v := .str "1abc") rfl T.g_LETTERS.choose_spec ⟨_, rfl⟩ (fun _ _ => .str _) (by decide)) rfl) (by decide) (fun _ => rfl))) (ea_nil) rfl) rfl)))))))
theorem w_need_word (T : Top K mg) : FnG P w K mg base false 4 T.f_need_word T.d_need_word ["word"] (m_need_word) := fng_of T.F_need_word sc_need_word fun cdv A outer s H E hc hr hgd => svs_one (sv_if (et_not (et_tru (ev_callF (gd := false) (k := 3) (ps := ["thing"]) ((w_is_word T).mono (by decide)) hr (fun h => nomatch h) psOf rfl T.m_is_word T.F_is_word.kp T.b_is_word (ea_cons (ev_var (i := 0) rfl (by first | exact .inl rfl | exact .inr (.inl rfl) | exact .inr (.inr rfl)) (by decide) (by decide)) (ea_nil) rfl) (by decide) rfl rfl) (fun _ => rfl))) (svs_one (sv_raise rfl tkOf T.M_BadWord (pmk_own PySem.F.excBase_ValueError T.q_BadWord T.M_BadWord T.k_BadWord (raises_own T.r_BadWord T.t_BadWord) rfl (by decide)))) (svs_nil))
theorem w_need_like (T : Top K mg) : FnG P w K mg base false 5 T.f_need_like T.d_need_like ["one", "other"] (m_need_like) := fng_of T.F_need_like sc_need_like fun cdv A outer s H E hc hr hgd => svs_cons (sv_expr (ev_callF (gd := false) (k := 4) (ps := ["word"]) ((w_need_word T).mono (by decide)) hr (fun h => nomatch h) psOf rfl T.m_need_word T.F_need_word.kp T.b_need_word (ea_cons (ev_var (i := 0) rfl (by first | exact .inl rfl | exact .inr (.inl rfl) | exact .inr (.inr rfl)) (by decide) (by decide)) (ea_nil) rfl) (by decide) rfl rfl) rfl)
    (svs_cons (sv_expr (ev_callF (gd := false) (k := 4) (ps := ["word"]) ((w_need_word T).mono (by decide)) hr (fun h => nomatch h) psOf rfl T.m_need_word T.F_need_word.kp T.b_need_word (ea_cons (ev_var (i := 1) rfl (by first | exact .inl rfl | exact .inr (.inl rfl) | exact .inr (.inr rfl)) (by decide) (by decide)) (ea_nil) rfl) (by decide) rfl rfl) rfl)
    (svs_one (sv_if (et_neC (Room.u64 hr) (b_len rfl T.z_len (ea_cons (ev_ix (Room.u1 hr) (ev_var (i := 0) rfl (by first | exact .inl rfl | exact .inr (.inl rfl) | exact .inr (.inr rfl)) (by decide) (by decide)) (ev_int) (fun _ _ => rfl) (fun _ _ => rfl)) (ea_nil) rfl) rfl) (b_len rfl T.z_len (ea_cons (ev_ix (Room.u1 hr) (ev_var (i := 1) rfl (by first | exact .inl rfl | exact .inr (.inl rfl) | exact .inr (.inr rfl)) (by decide) (by decide)) (ev_int) (fun _ _ => rfl) (fun _ _ => rfl)) (ea_nil) rfl) rfl)) (svs_one (sv_raise rfl tkOf T.M_OtherLength (pmk_own PySem.F.excBase_ValueError T.q_OtherLength T.M_OtherLength T.k_OtherLength (raises_own T.r_OtherLength T.t_OtherLength) rfl (by decide)))) (svs_nil))))
theorem w_code_of (T : Top K mg) : FnG P w K mg base false 1 T.f_code_of T.d_code_of ["word"] (m_code_of) := fng_of T.F_code_of sc_code_of fun cdv A outer s H E hc hr hgd => svs_one (sv_ret (b_sum rfl rfl T.z_sum (ea_cons (ev_ofF (ef_lc rfl sc_code_of.nd (ei_enum rfl T.z_enumerate (ea_cons (ev_ix (Room.u1 hr) (ev_var (i := 0) rfl (by first | exact .inl rfl | exact .inr (.inl rfl) | exact .inr (.inr rfl)) (by decide) (by decide)) (ev_int) (fun _ _ => rfl) (fun _ _ => rfl)) (ea_nil) rfl) rfl) (own := [("at", 1), ("letter", 2)]) (blkOk_by (N := ["word", "at", "letter"]) (sc := defScope s_code_of) (by decide +kernel)) (fun _ _ _ _ _ => gv_tup rfl (gvs_cons (gv_name (i := 1) sc_code_of.nd rfl (by first | exact .inl rfl | exact .inr rfl) (by first | exact .inl rfl | exact .inr rfl)) (gvs_cons (gv_name (i := 2) sc_code_of.nd rfl (by first | exact .inl rfl | exact .inr rfl) (by first | exact .inl rfl | exact .inr rfl)) (gvs_nil) rfl) rfl) rfl rfl) (fun _ _ _ _ _ => ets_nil) (fun _ _ _ _ _ => ev_shl (ev_index rfl (ev_glob (v := .str "1abc") rfl T.g_LETTERS.choose_spec ⟨_, rfl⟩ (fun _ _ => .str _) (by decide)) (ea_cons (ev_var (i := 2) rfl (by first | exact .inl rfl | exact .inr (.inl rfl) | exact .inr (.inr rfl)) (by decide) (by decide)) (ea_nil) rfl) rfl rfl rfl rfl) (ev_mul (ev_int) (ev_var (i := 1) rfl (by first | exact .inl rfl | exact .inr (.inl rfl) | exact .inr (.inr rfl)) (by decide) (by decide)))) (by decide) (fun _ => rfl))) (ea_nil) rfl) rfl))
theorem w_is_odd (T : Top K mg) : FnG P w K mg base false 1 T.f_is_odd T.d_is_odd ["mask"] (m_is_odd) := fng_of T.F_is_odd sc_is_odd fun cdv A outer s H E hc hr hgd => svs_cons (sv_set (i := 1) sc_is_odd.nd rfl (by first | exact .inl rfl | exact .inr rfl) (ev_bl) rfl (by first | exact .inl rfl | exact .inr rfl))
    (svs_cons (sv_while mu_is_odd_0 owOf (et_gt (ev_var (i := 0) rfl (by first | exact .inl rfl | exact .inr (.inl rfl) | exact .inr (.inr rfl)) (by decide) (by decide)) (ev_int)) (svs_one (sv_par (i := 0) (j := 1) rfl sc_is_odd.nd rfl rfl (by decide) rfl rfl (ea_cons (ev_and (ev_var (i := 0) rfl (by first | exact .inl rfl | exact .inr (.inl rfl) | exact .inr (.inr rfl)) (by decide) (by decide)) (ev_sub (ev_var (i := 0) rfl (by first | exact .inl rfl | exact .inr (.inl rfl) | exact .inr (.inr rfl)) (by decide) (by decide)) (ev_int))) (ea_cons (ev_not (ev_var (i := 1) rfl (by first | exact .inl rfl | exact .inr (.inl rfl) | exact .inr (.inr rfl)) (by decide) (by decide))) (ea_nil) rfl) rfl) rfl rfl)))
    (svs_one (sv_ret (ev_var (i := 1) rfl (by first | exact .inl rfl | exact .inr (.inl rfl) | exact .inr (.inr rfl)) (by decide) (by decide)))))
theorem w_is_crossed (T : Top K mg) : FnG P w K mg base false 2 T.f_is_crossed T.d_is_crossed ["one", "other"] (m_is_crossed) := fng_of T.F_is_crossed sc_is_crossed fun cdv A outer s H E hc hr hgd => svs_one (sv_ret (ev_callF (gd := false) (k := 1) (ps := ["mask"]) ((w_is_odd T).mono (by decide)) hr (fun h => nomatch h) psOf rfl T.m_is_odd T.F_is_odd.kp T.b_is_odd (ea_cons (ev_and (ev_and (ev_shr (ev_var (i := 0) rfl (by first | exact .inl rfl | exact .inr (.inl rfl) | exact .inr (.inr rfl)) (by decide) (by decide)) (ev_int)) (ev_var (i := 1) rfl (by first | exact .inl rfl | exact .inr (.inl rfl) | exact .inr (.inr rfl)) (by decide) (by decide))) (ev_glob (v := .int 5592405) rfl T.g_A_FIGURES.choose_spec ⟨_, rfl⟩ (fun _ _ => .int _) (by decide))) (ea_nil) rfl) (by decide) rfl rfl))
theorem w_letters_of (T : Top K mg) : FnG P w K mg base false 1 T.f_letters_of T.d_letters_of ["code", "length"] (m_letters_of) := fng_of T.F_letters_of sc_letters_of fun cdv A outer s H E hc hr hgd => svs_one (sv_ret (ev_join (ev_str) (ea_cons (ev_ofF (ef_lc rfl sc_letters_of.nd (ei_range1 rfl T.z_range (ea_cons (ev_var (i := 1) rfl (by first | exact .inl rfl | exact .inr (.inl rfl) | exact .inr (.inr rfl)) (by decide) (by decide)) (ea_nil) rfl) rfl) (own := [("at", 2)]) (blkOk_by (N := ["code", "length", "at"]) (sc := defScope s_letters_of) (by decide +kernel)) (fun _ _ _ _ _ => gv_name (i := 2) sc_letters_of.nd rfl (by first | exact .inl rfl | exact .inr rfl) (by first | exact .inl rfl | exact .inr rfl)) (fun _ _ _ _ _ => ets_nil) (fun _ _ _ _ _ => ev_ix (Room.u1 hr) (ev_glob (v := .str "1abc") rfl T.g_LETTERS.choose_spec ⟨_, rfl⟩ (fun _ _ => .str _) (by decide)) (ev_and (ev_shr (ev_var (i := 0) rfl (by first | exact .inl rfl | exact .inr (.inl rfl) | exact .inr (.inr rfl)) (by decide) (by decide)) (ev_mul (ev_int) (ev_var (i := 2) rfl (by first | exact .inl rfl | exact .inr (.inl rfl) | exact .inr (.inr rfl)) (by decide) (by decide)))) (ev_int)) (fun _ _ => rfl) (fun _ _ => rfl)) (by decide) (fun _ => rfl))) (ea_nil) rfl) rfl rfl rfl rfl))
theorem w_put_of (T : Top K mg) : FnG P w K mg base false 3 T.f_put_of T.d_put_of ["one", "other"] (m_put_of) := fng_of T.F_put_of sc_put_of fun cdv A outer s H E hc hr hgd => svs_cons (sv_par (i := 2) (j := 3) rfl sc_put_of.nd rfl rfl (by decide) rfl rfl (ea_cons (ev_callF (gd := false) (k := 2) (ps := ["word"]) ((w_code_of T).mono (by decide)) hr (fun h => nomatch h) psOf rfl T.m_code_of T.F_code_of.kp T.b_code_of (ea_cons (ev_var (i := 0) rfl (by first | exact .inl rfl | exact .inr (.inl rfl) | exact .inr (.inr rfl)) (by decide) (by decide)) (ea_nil) rfl) (by decide) rfl rfl) (ea_cons (ev_callF (gd := false) (k := 2) (ps := ["word"]) ((w_code_of T).mono (by decide)) hr (fun h => nomatch h) psOf rfl T.m_code_of T.F_code_of.kp T.b_code_of (ea_cons (ev_var (i := 1) rfl (by first | exact .inl rfl | exact .inr (.inl rfl) | exact .inr (.inr rfl)) (by decide) (by decide)) (ea_nil) rfl) (by decide) rfl rfl) (ea_nil) rfl) rfl) rfl rfl)
    (svs_cons (sv_set (i := 4) sc_put_of.nd rfl (by first | exact .inl rfl | exact .inr rfl) (ev_if (et_tru (ev_callF (gd := false) (k := 2) (ps := ["one", "other"]) ((w_is_crossed T).mono (by decide)) hr (fun h => nomatch h) psOf rfl T.m_is_crossed T.F_is_crossed.kp T.b_is_crossed (ea_cons (ev_var (i := 2) rfl (by first | exact .inl rfl | exact .inr (.inl rfl) | exact .inr (.inr rfl)) (by decide) (by decide)) (ea_cons (ev_var (i := 3) rfl (by first | exact .inl rfl | exact .inr (.inl rfl) | exact .inr (.inr rfl)) (by decide) (by decide)) (ea_nil) rfl) rfl) (by decide) rfl rfl) (fun _ => rfl)) (ev_mul (ev_neg (ev_ix (Room.u1 hr) (ev_var (i := 0) rfl (by first | exact .inl rfl | exact .inr (.inl rfl) | exact .inr (.inr rfl)) (by decide) (by decide)) (ev_int) (fun _ _ => rfl) (fun _ _ => rfl))) (ev_ix (Room.u1 hr) (ev_var (i := 1) rfl (by first | exact .inl rfl | exact .inr (.inl rfl) | exact .inr (.inr rfl)) (by decide) (by decide)) (ev_int) (fun _ _ => rfl) (fun _ _ => rfl))) (ev_mul (ev_ix (Room.u1 hr) (ev_var (i := 0) rfl (by first | exact .inl rfl | exact .inr (.inl rfl) | exact .inr (.inr rfl)) (by decide) (by decide)) (ev_int) (fun _ _ => rfl) (fun _ _ => rfl)) (ev_ix (Room.u1 hr) (ev_var (i := 1) rfl (by first | exact .inl rfl | exact .inr (.inl rfl) | exact .inr (.inr rfl)) (by decide) (by decide)) (ev_int) (fun _ _ => rfl) (fun _ _ => rfl)))) rfl (by first | exact .inl rfl | exact .inr rfl))
    (svs_one (sv_ret (ev_tup (ea_cons (ev_var (i := 4) rfl (by first | exact .inl rfl | exact .inr (.inl rfl) | exact .inr (.inr rfl)) (by decide) (by decide)) (ea_cons (ev_callF (gd := false) (k := 2) (ps := ["code", "length"]) ((w_letters_of T).mono (by decide)) hr (fun h => nomatch h) psOf rfl T.m_letters_of T.F_letters_of.kp T.b_letters_of (ea_cons (ev_xor (ev_var (i := 2) rfl (by first | exact .inl rfl | exact .inr (.inl rfl) | exact .inr (.inr rfl)) (by decide) (by decide)) (ev_var (i := 3) rfl (by first | exact .inl rfl | exact .inr (.inl rfl) | exact .inr (.inr rfl)) (by decide) (by decide))) (ea_cons (b_len rfl T.z_len (ea_cons (ev_ix (Room.u1 hr) (ev_var (i := 0) rfl (by first | exact .inl rfl | exact .inr (.inl rfl) | exact .inr (.inr rfl)) (by decide) (by decide)) (ev_int) (fun _ _ => rfl) (fun _ _ => rfl)) (ea_nil) rfl) rfl) (ea_nil) rfl) rfl) (by decide) rfl rfl) (ea_nil) rfl) rfl)))))
theorem w_put_together (T : Top K mg) : FnG P w K mg base false 6 T.f_put_together T.d_put_together ["one", "other"] (m_put_together) := fng_of T.F_put_together sc_put_together fun cdv A outer s H E hc hr hgd => svs_cons (sv_expr (ev_callF (gd := false) (k := 5) (ps := ["one", "other"]) ((w_need_like T).mono (by decide)) hr (fun h => nomatch h) psOf rfl T.m_need_like T.F_need_like.kp T.b_need_like (ea_cons (ev_var (i := 0) rfl (by first | exact .inl rfl | exact .inr (.inl rfl) | exact .inr (.inr rfl)) (by decide) (by decide)) (ea_cons (ev_var (i := 1) rfl (by first | exact .inl rfl | exact .inr (.inl rfl) | exact .inr (.inr rfl)) (by decide) (by decide)) (ea_nil) rfl) rfl) (by decide) rfl rfl) rfl)
    (svs_one (sv_ret (ev_callF (gd := false) (k := 5) (ps := ["one", "other"]) ((w_put_of T).mono (by decide)) hr (fun h => nomatch h) psOf rfl T.m_put_of T.F_put_of.kp T.b_put_of (ea_cons (ev_var (i := 0) rfl (by first | exact .inl rfl | exact .inr (.inl rfl) | exact .inr (.inr rfl)) (by decide) (by decide)) (ea_cons (ev_var (i := 1) rfl (by first | exact .inl rfl | exact .inr (.inl rfl) | exact .inr (.inr rfl)) (by decide) (by decide)) (ea_nil) rfl) rfl) (by decide) rfl rfl)))
theorem w__law_nothing (T : Top K mg) : FnG P w K mg base false 1 T.f__law_nothing T.d__law_nothing ["_law_size_here", "_law_sign"] (m__law_nothing) := fng_of T.F__law_nothing sc__law_nothing fun cdv A outer s H E hc hr hgd => svs_one (sv_ret (ev_tup (ea_cons (ev_var (i := 1) rfl (by first | exact .inl rfl | exact .inr (.inl rfl) | exact .inr (.inr rfl)) (by decide) (by decide)) (ea_cons (ev_mul (ev_str) (ev_var (i := 0) rfl (by first | exact .inl rfl | exact .inr (.inl rfl) | exact .inr (.inr rfl)) (by decide) (by decide))) (ea_nil) rfl) rfl)))
theorem w__law_says (T : Top K mg) : FnG P w K mg base false 1 T.f__law_says T.d__law_says ["_law_found", "_law_due"] (m__law_says) := fng_of T.F__law_says sc__law_says fun cdv A outer s H E hc hr hgd => svs_one (sv_ret (ev_if (et_tru (ev_var (i := 1) rfl (by first | exact .inl rfl | exact .inr (.inl rfl) | exact .inr (.inr rfl)) (by decide) (by decide)) (fun _ => rfl)) (ev_is (ev_var (i := 0) rfl (by first | exact .inl rfl | exact .inr (.inl rfl) | exact .inr (.inr rfl)) (by decide) (by decide)) (ev_bl)) (ev_is (ev_var (i := 0) rfl (by first | exact .inl rfl | exact .inr (.inl rfl) | exact .inr (.inr rfl)) (by decide) (by decide)) (ev_bl))))
theorem w_is_between (T : Top K mg) : FnG P w K mg base false 2 T.f_is_between T.d_is_between ["thing", "least", "most"] (m_is_between) := fng_of T.F_is_between sc_is_between fun cdv A outer s H E hc hr hgd => svs_one (sv_ret (ev_andB (ev_callF (gd := false) (k := 1) (ps := ["thing"]) ((w_is_number T).mono (by decide)) hr (fun h => nomatch h) psOf rfl T.m_is_number T.F_is_number.kp T.b_is_number (ea_cons (ev_var (i := 0) rfl (by first | exact .inl rfl | exact .inr (.inl rfl) | exact .inr (.inr rfl)) (by decide) (by decide)) (ea_nil) rfl) (by decide) rfl rfl) (ev_one (ev_chain op_le bo_B0 op_le bo_B0 (ev_var (i := 1) rfl (by first | exact .inl rfl | exact .inr (.inl rfl) | exact .inr (.inr rfl)) (by decide) (by decide)) (ev_var (i := 0) rfl (by first | exact .inl rfl | exact .inr (.inl rfl) | exact .inr (.inr rfl)) (by decide) (by decide)) (ev_var (i := 2) rfl (by first | exact .inl rfl | exact .inr (.inl rfl) | exact .inr (.inr rfl)) (by decide) (by decide)) (by with_unfolding_all rfl)))))
theorem w_is_rising (T : Top K mg) : FnG P w K mg base false 3 T.f_is_rising T.d_is_rising ["thing", "many"] (m_is_rising) := fng_of T.F_is_rising sc_is_rising fun cdv A outer s H E hc hr hgd => svs_cons (sv_if (et_w (ew_or (et_not (et_tru (b_isi2 rfl T.z_isinstance (ea_cons (ev_var (i := 0) rfl (by first | exact .inl rfl | exact .inr (.inl rfl) | exact .inr (.inr rfl)) (by decide) (by decide)) (ea_cons (ev_bltn (v := .ty "tuple") rfl T.z_tuple boot_tuple rfl (by decide) (by decide)) (ea_nil) rfl) rfl) rfl rfl) (fun _ => rfl))) (ew_or1 (et_not (et_tru (b_all rfl rfl T.z_all (ea_cons (ev_ofF (ef_lc rfl sc_is_rising.nd (ei_seq (ev_var (i := 0) rfl (by first | exact .inl rfl | exact .inr (.inl rfl) | exact .inr (.inr rfl)) (by decide) (by decide))) (own := [("item", 2)]) (blkOk_by (N := ["thing", "many", "item", "one", "other"]) (sc := defScope s_is_rising) (by decide +kernel)) (fun _ _ _ _ _ => gv_name (i := 2) sc_is_rising.nd rfl (by first | exact .inl rfl | exact .inr rfl) (by first | exact .inl rfl | exact .inr rfl)) (fun _ _ _ _ _ => ets_nil) (fun _ _ _ _ _ => ev_callF (gd := false) (k := 2) (ps := ["thing", "least", "most"]) ((w_is_between T).mono (by decide)) hr (fun h => nomatch h) pass_never rfl T.m_is_between T.F_is_between.kp T.b_is_between (ea_cons (ev_var (i := 2) rfl (by first | exact .inl rfl | exact .inr (.inl rfl) | exact .inr (.inr rfl)) (by decide) (by decide)) (ea_cons (ev_int) (ea_cons (ev_sub (ev_var (i := 1) rfl (by first | exact .inl rfl | exact .inr (.inl rfl) | exact .inr (.inr rfl)) (by decide) (by decide)) (ev_int)) (ea_nil) rfl) rfl) rfl) (by decide) rfl rfl) (by decide) (fun _ => rfl))) (ea_nil) rfl) rfl) (fun _ => rfl)))))) (svs_one (sv_ret (ev_bl))) (svs_nil))
    (svs_one (sv_ret (b_all rfl rfl T.z_all (ea_cons (ev_ofF (ef_lc rfl sc_is_rising.nd (ei_zip rfl T.z_zip (ea_cons (ev_var (i := 0) rfl (by first | exact .inl rfl | exact .inr (.inl rfl) | exact .inr (.inr rfl)) (by decide) (by decide)) (ea_cons (ev_sl (ev_var (i := 0) rfl (by first | exact .inl rfl | exact .inr (.inl rfl) | exact .inr (.inr rfl)) (by decide) (by decide)) (eo_some (ev_int)) (eo_none)) (ea_nil) rfl) rfl) rfl rfl) (own := [("one", 3), ("other", 4)]) (blkOk_by (N := ["thing", "many", "item", "one", "other"]) (sc := defScope s_is_rising) (by decide +kernel)) (fun _ _ _ _ _ => gv_tup rfl (gvs_cons (gv_name (i := 3) sc_is_rising.nd rfl (by first | exact .inl rfl | exact .inr rfl) (by first | exact .inl rfl | exact .inr rfl)) (gvs_cons (gv_name (i := 4) sc_is_rising.nd rfl (by first | exact .inl rfl | exact .inr rfl) (by first | exact .inl rfl | exact .inr rfl)) (gvs_nil) rfl) rfl) rfl rfl) (fun _ _ _ _ _ => ets_nil) (fun _ _ _ _ _ => ev_lt (ev_var (i := 3) rfl (by first | exact .inl rfl | exact .inr (.inl rfl) | exact .inr (.inr rfl)) (by decide) (by decide)) (ev_var (i := 4) rfl (by first | exact .inl rfl | exact .inr (.inl rfl) | exact .inr (.inr rfl)) (by decide) (by decide))) (by decide) (fun _ => rfl))) (ea_nil) rfl) rfl)))
theorem w_is_crew (T : Top K mg) : FnG P w K mg base false 4 T.f_is_crew T.d_is_crew ["many", "thing"] (m_is_crew) := fng_of T.F_is_crew sc_is_crew fun cdv A outer s H E hc hr hgd => svs_one (sv_ret (ev_andB (ev_callF (gd := false) (k := 3) (ps := ["thing", "many"]) ((w_is_rising T).mono (by decide)) hr (fun h => nomatch h) psOf rfl T.m_is_rising T.F_is_rising.kp T.b_is_rising (ea_cons (ev_var (i := 1) rfl (by first | exact .inl rfl | exact .inr (.inl rfl) | exact .inr (.inr rfl)) (by decide) (by decide)) (ea_cons (ev_var (i := 0) rfl (by first | exact .inl rfl | exact .inr (.inl rfl) | exact .inr (.inr rfl)) (by decide) (by decide)) (ea_nil) rfl) rfl) (by decide) rfl rfl) (ev_one (ev_chain op_le bo_B0 op_le bo_B0 (ev_int) (b_len rfl T.z_len (ea_cons (ev_var (i := 1) rfl (by first | exact .inl rfl | exact .inr (.inl rfl) | exact .inr (.inr rfl)) (by decide) (by decide)) (ea_nil) rfl) rfl) (ev_glob (v := .int 8) rfl T.g_MOST_CREW.choose_spec ⟨_, rfl⟩ (fun _ _ => .int _) (by decide)) (by with_unfolding_all rfl)))))
theorem w_is_bench (T : Top K mg) : FnG P w K mg base false 5 T.f_is_bench T.d_is_bench ["many", "thing"] (m_is_bench) := fng_of T.F_is_bench sc_is_bench fun cdv A outer s H E hc hr hgd => svs_one (sv_ret (ev_andB (b_isi2 rfl T.z_isinstance (ea_cons (ev_var (i := 1) rfl (by first | exact .inl rfl | exact .inr (.inl rfl) | exact .inr (.inr rfl)) (by decide) (by decide)) (ea_cons (ev_bltn (v := .ty "tuple") rfl T.z_tuple boot_tuple rfl (by decide) (by decide)) (ea_nil) rfl) rfl) rfl rfl) (ev_andB (ev_eqC (Room.u64 hr) (b_len rfl T.z_len (ea_cons (ev_var (i := 1) rfl (by first | exact .inl rfl | exact .inr (.inl rfl) | exact .inr (.inr rfl)) (by decide) (by decide)) (ea_nil) rfl) rfl) (ev_int)) (ev_andB (ev_callF (gd := false) (k := 4) (ps := ["thing"]) ((w_is_sign T).mono (by decide)) hr (fun h => nomatch h) psOf rfl T.m_is_sign T.F_is_sign.kp T.b_is_sign (ea_cons (ev_ix (Room.u1 hr) (ev_var (i := 1) rfl (by first | exact .inl rfl | exact .inr (.inl rfl) | exact .inr (.inr rfl)) (by decide) (by decide)) (ev_int) (fun _ _ => rfl) (fun _ _ => rfl)) (ea_nil) rfl) (by decide) rfl rfl) (ev_one (ev_callF (gd := false) (k := 4) (ps := ["many", "thing"]) ((w_is_crew T).mono (by decide)) hr (fun h => nomatch h) psOf rfl T.m_is_crew T.F_is_crew.kp T.b_is_crew (ea_cons (ev_var (i := 0) rfl (by first | exact .inl rfl | exact .inr (.inl rfl) | exact .inr (.inr rfl)) (by decide) (by decide)) (ea_cons (ev_ix (Room.u1 hr) (ev_var (i := 1) rfl (by first | exact .inl rfl | exact .inr (.inl rfl) | exact .inr (.inr rfl)) (by decide) (by decide)) (ev_int) (fun _ _ => rfl) (fun _ _ => rfl)) (ea_nil) rfl) rfl) (by decide) rfl rfl))))))
theorem w_Hall_init_ (T : Top K mg) : FnG P w K mg base false 6 T.f_Hall_init_ T.d_Hall_init_ ["self", "many", "benches"] (m_Hall_init_ T.ax) := fng_of T.F_Hall_init_ sc_Hall_init_ fun cdv A outer s H E hc hr hgd => svs_cons (sv_if (et_not (et_tru (ev_callF (gd := false) (k := 5) (ps := ["thing", "least", "most"]) ((w_is_between T).mono (by decide)) hr (fun h => nomatch h) psOf rfl T.m_is_between T.F_is_between.kp T.b_is_between (ea_cons (ev_var (i := 1) rfl (by first | exact .inl rfl | exact .inr (.inl rfl) | exact .inr (.inr rfl)) (by decide) (by decide)) (ea_cons (ev_int) (ea_cons (ev_glob (v := .int 15) rfl T.g_MOST_TURNERS.choose_spec ⟨_, rfl⟩ (fun _ _ => .int _) (by decide)) (ea_nil) rfl) rfl) rfl) (by decide) rfl rfl) (fun _ => rfl))) (svs_one (sv_raise rfl tkOf T.M_BadMany (pmk_own PySem.F.excBase_ValueError T.q_BadMany T.M_BadMany T.k_BadMany (raises_own T.r_BadMany T.t_BadMany) rfl (by decide)))) (svs_nil))
    (svs_cons (sv_if (et_w (ew_or (et_not (et_tru (b_isi2 rfl T.z_isinstance (ea_cons (ev_var (i := 2) rfl (by first | exact .inl rfl | exact .inr (.inl rfl) | exact .inr (.inr rfl)) (by decide) (by decide)) (ea_cons (ev_bltn (v := .ty "tuple") rfl T.z_tuple boot_tuple rfl (by decide) (by decide)) (ea_nil) rfl) rfl) rfl rfl) (fun _ => rfl))) (ew_or1 (et_gt (b_len rfl T.z_len (ea_cons (ev_var (i := 2) rfl (by first | exact .inl rfl | exact .inr (.inl rfl) | exact .inr (.inr rfl)) (by decide) (by decide)) (ea_nil) rfl) rfl) (ev_glob (v := .int 12) rfl T.g_MOST_BENCHES.choose_spec ⟨_, rfl⟩ (fun _ _ => .int _) (by decide)))))) (svs_one (sv_raise rfl tkOf T.M_BadBenches (pmk_own PySem.F.excBase_ValueError T.q_BadBenches T.M_BadBenches T.k_BadBenches (raises_own T.r_BadBenches T.t_BadBenches) rfl (by decide)))) (svs_nil))
    (svs_cons (sv_if (et_not (et_tru (b_all rfl rfl T.z_all (ea_cons (ev_ofF (ef_lc rfl sc_Hall_init_.nd (ei_seq (ev_var (i := 2) rfl (by first | exact .inl rfl | exact .inr (.inl rfl) | exact .inr (.inr rfl)) (by decide) (by decide))) (own := [("bench", 3)]) (blkOk_by (N := ["self", "many", "benches", "bench"]) (sc := defScope s_Hall_init_) (by decide +kernel)) (fun _ _ _ _ _ => gv_name (i := 3) sc_Hall_init_.nd rfl (by first | exact .inl rfl | exact .inr rfl) (by first | exact .inl rfl | exact .inr rfl)) (fun _ _ _ _ _ => ets_nil) (fun _ _ _ _ _ => ev_callF (gd := false) (k := 5) (ps := ["many", "thing"]) ((w_is_bench T).mono (by decide)) hr (fun h => nomatch h) pass_never rfl T.m_is_bench T.F_is_bench.kp T.b_is_bench (ea_cons (ev_var (i := 1) rfl (by first | exact .inl rfl | exact .inr (.inl rfl) | exact .inr (.inr rfl)) (by decide) (by decide)) (ea_cons (ev_var (i := 3) rfl (by first | exact .inl rfl | exact .inr (.inl rfl) | exact .inr (.inr rfl)) (by decide) (by decide)) (ea_nil) rfl) rfl) (by decide) rfl rfl) (by decide) (fun _ => rfl))) (ea_nil) rfl) rfl) (fun _ => rfl))) (svs_one (sv_raise rfl tkOf T.M_BadBenches (pmk_own PySem.F.excBase_ValueError T.q_BadBenches T.M_BadBenches T.k_BadBenches (raises_own T.r_BadBenches T.t_BadBenches) rfl (by decide)))) (svs_nil))
    (svs_cons (sv_putF (C := T.C_Hall) T.cl_Hall T.nf_Hall_many (ev_var (i := 0) rfl (by first | exact .inl rfl | exact .inr (.inl rfl) | exact .inr (.inr rfl)) (by decide) (by decide)) (ev_var (i := 1) rfl (by first | exact .inl rfl | exact .inr (.inl rfl) | exact .inr (.inr rfl)) (by decide) (by decide)) rfl)
    (svs_one (sv_putF (C := T.C_Hall) T.cl_Hall T.nf_Hall_benches (ev_var (i := 0) rfl (by first | exact .inl rfl | exact .inr (.inl rfl) | exact .inr (.inr rfl)) (by decide) (by decide)) (ev_var (i := 2) rfl (by first | exact .inl rfl | exact .inr (.inl rfl) | exact .inr (.inr rfl)) (by decide) (by decide)) rfl)))))
theorem w__law_bad_word (T : Top K mg) : FnG P w K mg base false 3 T.f__law_bad_word T.d__law_bad_word ["_law_state"] (m__law_bad_word) := fng_of T.F__law_bad_word sc__law_bad_word fun cdv A outer s H E hc hr hgd => svs_cons (sv_set (i := 1) sc__law_bad_word.nd rfl (by first | exact .inl rfl | exact .inr rfl) (ev_lst (ea_cons (ev_non) (ea_cons (ev_int) (ea_cons (ev_str) (ea_cons (ev_tup (ea_nil)) (ea_cons (ev_tup (ea_cons (ev_int) (ea_nil) rfl)) (ea_cons (ev_tup (ea_cons (ev_int) (ea_cons (ev_str) (ea_nil) rfl) rfl)) (ea_cons (ev_tup (ea_cons (ev_int) (ea_cons (ev_str) (ea_nil) rfl) rfl)) (ea_cons (ev_tup (ea_cons (ev_int) (ea_cons (ev_str) (ea_nil) rfl) rfl)) (ea_cons (ev_tup (ea_cons (ev_bl) (ea_cons (ev_str) (ea_nil) rfl) rfl)) (ea_cons (ev_tup (ea_cons (ev_int) (ea_cons (ev_str) (ea_nil) rfl) rfl)) (ea_cons (ev_tup (ea_cons (ev_int) (ea_cons (ev_str) (ea_nil) rfl) rfl)) (ea_cons (ev_lst (ea_cons (ev_int) (ea_cons (ev_str) (ea_nil) rfl) rfl)) (ea_cons (ev_tup (ea_cons (ev_int) (ea_cons (ev_int) (ea_nil) rfl) rfl)) (ea_nil) rfl) rfl) rfl) rfl) rfl) rfl) rfl) rfl) rfl) rfl) rfl) rfl) rfl)) rfl (by first | exact .inl rfl | exact .inr rfl))
    (svs_cons (sv_set (i := 1) sc__law_bad_word.nd rfl (by first | exact .inl rfl | exact .inr rfl) (ev_add (ev_var (i := 1) rfl (by first | exact .inl rfl | exact .inr (.inl rfl) | exact .inr (.inr rfl)) (by decide) (by decide)) (ev_lst (ea_cons (ev_tup (ea_cons (ev_int) (ea_cons (ev_mul (ev_str) (ev_int)) (ea_nil) rfl) rfl)) (ea_cons (ev_tup (ea_cons (ev_str) (ea_cons (ev_str) (ea_nil) rfl) rfl)) (ea_cons (ev_tup (ea_cons (ev_int) (ea_cons (ev_tup (ea_cons (ev_str) (ea_nil) rfl)) (ea_nil) rfl) rfl)) (ea_cons (ev_tup (ea_cons (ev_int) (ea_cons (ev_str) (ea_cons (ev_int) (ea_nil) rfl) rfl) rfl)) (ea_cons (ev_tup (ea_cons (ev_neg (ev_int)) (ea_cons (ev_str) (ea_nil) rfl) rfl)) (ea_cons (ev_tup (ea_cons (ev_non) (ea_cons (ev_str) (ea_nil) rfl) rfl)) (ea_cons (ev_dic0) (ea_nil) rfl) rfl) rfl) rfl) rfl) rfl) rfl))) rfl (by first | exact .inl rfl | exact .inr rfl))
    (svs_one (sv_ret (ev_callF (gd := false) (k := 2) (ps := ["_law_state", "_law_several"]) ((w__law_pick T).mono (by decide)) hr (fun h => nomatch h) psOf rfl T.m__law_pick T.F__law_pick.kp T.b__law_pick (ea_cons (ev_var (i := 0) rfl (by first | exact .inl rfl | exact .inr (.inl rfl) | exact .inr (.inr rfl)) (by decide) (by decide)) (ea_cons (ev_var (i := 1) rfl (by first | exact .inl rfl | exact .inr (.inl rfl) | exact .inr (.inr rfl)) (by decide) (by decide)) (ea_nil) rfl) rfl) (by decide) rfl rfl))))
theorem w__law_is_whole (T : Top K mg) : FnG P w K mg base false 1 T.f__law_is_whole T.d__law_is_whole ["_law_item"] (m__law_is_whole) := fng_of T.F__law_is_whole sc__law_is_whole fun cdv A outer s H E hc hr hgd => svs_one (sv_ret (ev_andB (b_isi2 rfl T.z_isinstance (ea_cons (ev_var (i := 0) rfl (by first | exact .inl rfl | exact .inr (.inl rfl) | exact .inr (.inr rfl)) (by decide) (by decide)) (ea_cons (ev_bltn (v := .ty "int") rfl T.z_int boot_int rfl (by decide) (by decide)) (ea_nil) rfl) rfl) rfl rfl) (ev_one (ev_not (b_isi2 rfl T.z_isinstance (ea_cons (ev_var (i := 0) rfl (by first | exact .inl rfl | exact .inr (.inl rfl) | exact .inr (.inr rfl)) (by decide) (by decide)) (ea_cons (ev_bltn (v := .ty "bool") rfl T.z_bool boot_bool rfl (by decide) (by decide)) (ea_nil) rfl) rfl) rfl rfl)))))
theorem w__law_is_word (T : Top K mg) : FnG P w K mg base false 2 T.f__law_is_word T.d__law_is_word ["_law_item"] (m__law_is_word) := fng_of T.F__law_is_word sc__law_is_word fun cdv A outer s H E hc hr hgd => svs_cons (sv_if (et_w (ew_or (et_not (et_tru (b_isi2 rfl T.z_isinstance (ea_cons (ev_var (i := 0) rfl (by first | exact .inl rfl | exact .inr (.inl rfl) | exact .inr (.inr rfl)) (by decide) (by decide)) (ea_cons (ev_bltn (v := .ty "tuple") rfl T.z_tuple boot_tuple rfl (by decide) (by decide)) (ea_nil) rfl) rfl) rfl rfl) (fun _ => rfl))) (ew_or (et_neC (Room.u64 hr) (b_len rfl T.z_len (ea_cons (ev_var (i := 0) rfl (by first | exact .inl rfl | exact .inr (.inl rfl) | exact .inr (.inr rfl)) (by decide) (by decide)) (ea_nil) rfl) rfl) (ev_int)) (ew_or (et_not (et_tru (ev_callF (gd := false) (k := 1) (ps := ["_law_item"]) ((w__law_is_whole T).mono (by decide)) hr (fun h => nomatch h) psOf rfl T.m__law_is_whole T.F__law_is_whole.kp T.b__law_is_whole (ea_cons (ev_ix (Room.u1 hr) (ev_var (i := 0) rfl (by first | exact .inl rfl | exact .inr (.inl rfl) | exact .inr (.inr rfl)) (by decide) (by decide)) (ev_int) (fun _ _ => rfl) (fun _ _ => rfl)) (ea_nil) rfl) (by decide) rfl rfl) (fun _ => rfl))) (ew_or1 (et_notIn (Room.u65 hr) (ev_ix (Room.u1 hr) (ev_var (i := 0) rfl (by first | exact .inl rfl | exact .inr (.inl rfl) | exact .inr (.inr rfl)) (by decide) (by decide)) (ev_int) (fun _ _ => rfl) (fun _ _ => rfl)) (ev_lst (ea_cons (ev_int) (ea_cons (ev_neg (ev_int)) (ea_nil) rfl) rfl)) rfl)))))) (svs_one (sv_ret (ev_bl))) (svs_nil))
    (svs_cons (sv_if (et_w (ew_or (et_not (et_tru (b_isi2 rfl T.z_isinstance (ea_cons (ev_ix (Room.u1 hr) (ev_var (i := 0) rfl (by first | exact .inl rfl | exact .inr (.inl rfl) | exact .inr (.inr rfl)) (by decide) (by decide)) (ev_int) (fun _ _ => rfl) (fun _ _ => rfl)) (ea_cons (ev_bltn (v := .ty "str") rfl T.z_str boot_str rfl (by decide) (by decide)) (ea_nil) rfl) rfl) rfl rfl) (fun _ => rfl))) (ew_or1 (et_not (et_chain op_le bo_B0 op_le bo_B0 (ev_int) (b_len rfl T.z_len (ea_cons (ev_ix (Room.u1 hr) (ev_var (i := 0) rfl (by first | exact .inl rfl | exact .inr (.inl rfl) | exact .inr (.inr rfl)) (by decide) (by decide)) (ev_int) (fun _ _ => rfl) (fun _ _ => rfl)) (ea_nil) rfl) rfl) (ev_int) (by with_unfolding_all rfl)))))) (svs_one (sv_ret (ev_bl))) (svs_nil))
    (svs_one (sv_ret (ev_eqC (Room.u64 hr) (ev_ofF (ef_lc rfl sc__law_is_word.nd (ei_seq (ev_ix (Room.u1 hr) (ev_var (i := 0) rfl (by first | exact .inl rfl | exact .inr (.inl rfl) | exact .inr (.inr rfl)) (by decide) (by decide)) (ev_int) (fun _ _ => rfl) (fun _ _ => rfl))) (own := [("_law_each", 1)]) (blkOk_by (N := ["_law_item", "_law_each"]) (sc := defScope s__law_is_word) (by decide +kernel)) (fun _ _ _ _ _ => gv_name (i := 1) sc__law_is_word.nd rfl (by first | exact .inl rfl | exact .inr rfl) (by first | exact .inl rfl | exact .inr rfl)) (fun _ _ _ _ _ => ets_one (et_notIn (Room.u65 hr) (ev_var (i := 1) rfl (by first | exact .inl rfl | exact .inr (.inl rfl) | exact .inr (.inr rfl)) (by decide) (by decide)) (ev_str) rfl)) (fun _ _ _ _ _ => ev_int) (by decide) (fun _ => rfl))) (ev_lst (ea_nil))))))
theorem w__law_judged (T : Top K mg) : FnG P w K mg base false 8 T.f__law_judged T.d__law_judged ["_law_state", "_law_good"] (m__law_judged T.ax) := fng_of T.F__law_judged sc__law_judged fun cdv A outer s H E hc hr hgd => svs_cons (sv_asg (ev_var (i := 1) rfl (by first | exact .inl rfl | exact .inr (.inl rfl) | exact .inr (.inr rfl)) (by decide) (by decide)) (gv_tup rfl (gvs_cons (gv_name (i := 2) sc__law_judged.nd rfl (by first | exact .inl rfl | exact .inr rfl) (by first | exact .inl rfl | exact .inr rfl)) (gvs_cons (gv_name (i := 3) sc__law_judged.nd rfl (by first | exact .inl rfl | exact .inr rfl) (by first | exact .inl rfl | exact .inr rfl)) (gvs_nil) rfl) rfl) rfl rfl) rfl rfl rfl)
    (svs_cons (sv_set (i := 4) sc__law_judged.nd rfl (by first | exact .inl rfl | exact .inr rfl) (ev_callF (gd := false) (k := 7) (ps := ["_law_state", "_law_size_here"]) ((w__law_draw T).mono (by decide)) hr (fun h => nomatch h) psOf rfl T.m__law_draw T.F__law_draw.kp T.b__law_draw (ea_cons (ev_var (i := 0) rfl (by first | exact .inl rfl | exact .inr (.inl rfl) | exact .inr (.inr rfl)) (by decide) (by decide)) (ea_cons (b_len rfl T.z_len (ea_cons (ev_var (i := 3) rfl (by first | exact .inl rfl | exact .inr (.inl rfl) | exact .inr (.inr rfl)) (by decide) (by decide)) (ea_nil) rfl) rfl) (ea_nil) rfl) rfl) (by decide) rfl rfl) rfl (by first | exact .inl rfl | exact .inr rfl))
    (svs_cons (sv_set (i := 5) sc__law_judged.nd rfl (by first | exact .inl rfl | exact .inr rfl) (ev_add (ev_add (ev_sl (ev_var (i := 3) rfl (by first | exact .inl rfl | exact .inr (.inl rfl) | exact .inr (.inr rfl)) (by decide) (by decide)) (eo_none) (eo_some (ev_var (i := 4) rfl (by first | exact .inl rfl | exact .inr (.inl rfl) | exact .inr (.inr rfl)) (by decide) (by decide)))) (ev_callF (gd := false) (k := 7) (ps := ["_law_state", "_law_several"]) ((w__law_pick T).mono (by decide)) hr (fun h => nomatch h) psOf rfl T.m__law_pick T.F__law_pick.kp T.b__law_pick (ea_cons (ev_var (i := 0) rfl (by first | exact .inl rfl | exact .inr (.inl rfl) | exact .inr (.inr rfl)) (by decide) (by decide)) (ea_cons (ev_lst (ea_cons (ev_str) (ea_cons (ev_str) (ea_cons (ev_str) (ea_cons (ev_str) (ea_cons (ev_str) (ea_cons (ev_str) (ea_cons (ev_str) (ea_cons (ev_str) (ea_nil) rfl) rfl) rfl) rfl) rfl) rfl) rfl) rfl)) (ea_nil) rfl) rfl) (by decide) rfl rfl)) (ev_sl (ev_var (i := 3) rfl (by first | exact .inl rfl | exact .inr (.inl rfl) | exact .inr (.inr rfl)) (by decide) (by decide)) (eo_some (ev_add (ev_var (i := 4) rfl (by first | exact .inl rfl | exact .inr (.inl rfl) | exact .inr (.inr rfl)) (by decide) (by decide)) (ev_int))) (eo_none))) rfl (by first | exact .inl rfl | exact .inr rfl))
    (svs_cons (sv_set (i := 6) sc__law_judged.nd rfl (by first | exact .inl rfl | exact .inr rfl) (ev_celF (ef_lst (ea_cons (ev_var (i := 1) rfl (by first | exact .inl rfl | exact .inr (.inl rfl) | exact .inr (.inr rfl)) (by decide) (by decide)) (ea_cons (ev_tup (ea_cons (ev_var (i := 2) rfl (by first | exact .inl rfl | exact .inr (.inl rfl) | exact .inr (.inr rfl)) (by decide) (by decide)) (ea_cons (ev_var (i := 5) rfl (by first | exact .inl rfl | exact .inr (.inl rfl) | exact .inr (.inr rfl)) (by decide) (by decide)) (ea_nil) rfl) rfl)) (ea_cons (ev_lst (ea_cons (ev_var (i := 2) rfl (by first | exact .inl rfl | exact .inr (.inl rfl) | exact .inr (.inr rfl)) (by decide) (by decide)) (ea_cons (ev_var (i := 3) rfl (by first | exact .inl rfl | exact .inr (.inl rfl) | exact .inr (.inr rfl)) (by decide) (by decide)) (ea_nil) rfl) rfl)) (ea_cons (ev_tup (ea_cons (ev_var (i := 3) rfl (by first | exact .inl rfl | exact .inr (.inl rfl) | exact .inr (.inr rfl)) (by decide) (by decide)) (ea_cons (ev_var (i := 2) rfl (by first | exact .inl rfl | exact .inr (.inl rfl) | exact .inr (.inr rfl)) (by decide) (by decide)) (ea_nil) rfl) rfl)) (ea_cons (ev_tup (ea_cons (ev_var (i := 2) rfl (by first | exact .inl rfl | exact .inr (.inl rfl) | exact .inr (.inr rfl)) (by decide) (by decide)) (ea_cons (b_list2 rfl rfl T.z_list (ea_cons (ev_var (i := 3) rfl (by first | exact .inl rfl | exact .inr (.inl rfl) | exact .inr (.inr rfl)) (by decide) (by decide)) (ea_nil) rfl) rfl) (ea_nil) rfl) rfl)) (ea_cons (ev_tup (ea_cons (ev_var (i := 2) rfl (by first | exact .inl rfl | exact .inr (.inl rfl) | exact .inr (.inr rfl)) (by decide) (by decide)) (ea_nil) rfl)) (ea_nil) rfl) rfl) rfl) rfl) rfl) rfl))) rfl (by first | exact .inl rfl | exact .inr rfl))
    (svs_cons (sv_set (i := 6) sc__law_judged.nd rfl (by first | exact .inl rfl | exact .inr rfl) (ev_celF (ef_cat (ev_frz (ev_var (i := 6) rfl (by first | exact .inl rfl | exact .inr (.inl rfl) | exact .inr (.inr rfl)) (by decide) (by decide))) (ev_lst (ea_cons (ev_tup (ea_cons (ev_neg (ev_var (i := 2) rfl (by first | exact .inl rfl | exact .inr (.inl rfl) | exact .inr (.inr rfl)) (by decide) (by decide))) (ea_cons (ev_var (i := 3) rfl (by first | exact .inl rfl | exact .inr (.inl rfl) | exact .inr (.inr rfl)) (by decide) (by decide)) (ea_nil) rfl) rfl)) (ea_cons (ev_tup (ea_cons (ev_mul (ev_var (i := 2) rfl (by first | exact .inl rfl | exact .inr (.inl rfl) | exact .inr (.inr rfl)) (by decide) (by decide)) (ev_int)) (ea_cons (ev_var (i := 3) rfl (by first | exact .inl rfl | exact .inr (.inl rfl) | exact .inr (.inr rfl)) (by decide) (by decide)) (ea_nil) rfl) rfl)) (ea_cons (ev_tup (ea_cons (ev_eqC (Room.u64 hr) (ev_var (i := 2) rfl (by first | exact .inl rfl | exact .inr (.inl rfl) | exact .inr (.inr rfl)) (by decide) (by decide)) (ev_int)) (ea_cons (ev_var (i := 3) rfl (by first | exact .inl rfl | exact .inr (.inl rfl) | exact .inr (.inr rfl)) (by decide) (by decide)) (ea_nil) rfl) rfl)) (ea_cons (ev_add (ev_var (i := 1) rfl (by first | exact .inl rfl | exact .inr (.inl rfl) | exact .inr (.inr rfl)) (by decide) (by decide)) (ev_tup (ea_cons (ev_int) (ea_nil) rfl))) (ea_nil) rfl) rfl) rfl) rfl)))) rfl (by first | exact .inl rfl | exact .inr rfl))
    (svs_cons (sv_set (i := 6) sc__law_judged.nd rfl (by first | exact .inl rfl | exact .inr rfl) (ev_celF (ef_cat (ev_frz (ev_var (i := 6) rfl (by first | exact .inl rfl | exact .inr (.inl rfl) | exact .inr (.inr rfl)) (by decide) (by decide))) (ev_lst (ea_cons (ev_tup (ea_cons (ev_var (i := 2) rfl (by first | exact .inl rfl | exact .inr (.inl rfl) | exact .inr (.inr rfl)) (by decide) (by decide)) (ea_cons (ev_mul (ev_var (i := 3) rfl (by first | exact .inl rfl | exact .inr (.inl rfl) | exact .inr (.inr rfl)) (by decide) (by decide)) (ev_int)) (ea_nil) rfl) rfl)) (ea_cons (ev_new true (k := 6) (ps := ["self", "many", "benches"]) T.ic_Hall T.mk_Hall ((w_Hall_init_ T).mono (by decide)) hr psOf rfl T.M_Hall T.b_Hall_init_ (ea_cons (ev_int) (ea_cons (ev_tup (ea_nil)) (ea_nil) rfl) rfl) (by decide) rfl rfl) (ea_cons (ev_callF (gd := false) (k := 7) (ps := ["_law_state"]) ((w__law_bad_word T).mono (by decide)) hr (fun h => nomatch h) psOf rfl T.m__law_bad_word T.F__law_bad_word.kp T.b__law_bad_word (ea_cons (ev_var (i := 0) rfl (by first | exact .inl rfl | exact .inr (.inl rfl) | exact .inr (.inr rfl)) (by decide) (by decide)) (ea_nil) rfl) (by decide) rfl rfl) (ea_cons (ev_tup (ea_cons (ev_var (i := 2) rfl (by first | exact .inl rfl | exact .inr (.inl rfl) | exact .inr (.inr rfl)) (by decide) (by decide)) (ea_cons (ev_mul (ev_str) (ev_int)) (ea_nil) rfl) rfl)) (ea_nil) rfl) rfl) rfl) rfl)))) rfl (by first | exact .inl rfl | exact .inr rfl))
    (svs_cons (sv_expr (ev_append (ev_var (i := 6) rfl (by first | exact .inl rfl | exact .inr (.inl rfl) | exact .inr (.inr rfl)) (by decide) (by decide)) (ea_cons (ev_tup (ea_cons (ev_var (i := 2) rfl (by first | exact .inl rfl | exact .inr (.inl rfl) | exact .inr (.inr rfl)) (by decide) (by decide)) (ea_cons (ev_mul (ev_str) (ev_int)) (ea_nil) rfl) rfl)) (ea_nil) rfl) rfl rfl rfl rfl) rfl)
    (svs_cons (sv_if (et_not (et_tru (ev_callF (gd := false) (k := 7) (ps := ["_law_found", "_law_due"]) ((w__law_says T).mono (by decide)) hr (fun h => nomatch h) psOf rfl T.m__law_says T.F__law_says.kp T.b__law_says (ea_cons (ev_callK (ks := ["thing"]) (π := [0]) (gd := false) (k := 7) (ps := ["thing"]) ((w_is_word T).mono (by decide)) hr (fun h => nomatch h) psOf rfl T.m_is_word T.F_is_word.kp (fun s us hl => match us, hl with | [u0], _ => bindK T.F_is_word (fun _ _ _ _ _ _ => rfl) s) (ek_cons (ev_ix (Room.u1 hr) (ev_var (i := 6) rfl (by first | exact .inl rfl | exact .inr (.inl rfl) | exact .inr (.inr rfl)) (by decide) (by decide)) (ev_int) (fun _ _ => rfl) (fun _ _ => rfl)) (ek_nil)) rfl rfl (by decide) rfl) (ea_cons (ev_callF (gd := false) (k := 7) (ps := ["_law_item"]) ((w__law_is_word T).mono (by decide)) hr (fun h => nomatch h) psOf rfl T.m__law_is_word T.F__law_is_word.kp T.b__law_is_word (ea_cons (ev_ix (Room.u1 hr) (ev_var (i := 6) rfl (by first | exact .inl rfl | exact .inr (.inl rfl) | exact .inr (.inr rfl)) (by decide) (by decide)) (ev_int) (fun _ _ => rfl) (fun _ _ => rfl)) (ea_nil) rfl) (by decide) rfl rfl) (ea_nil) rfl) rfl) (by decide) rfl rfl) (fun _ => rfl))) (svs_one (sv_ret (ev_bl))) (svs_nil))
    (svs_one (sv_ret (ev_eqC (Room.u64 hr) (ev_ofF (ef_lc rfl sc__law_judged.nd (ei_seq (ev_frz (ev_var (i := 6) rfl (by first | exact .inl rfl | exact .inr (.inl rfl) | exact .inr (.inr rfl)) (by decide) (by decide)))) (own := [("_law_each", 7)]) (blkOk_by (N := ["_law_state", "_law_good", "_law_sign", "_law_letters_here", "_law_spot", "_law_odd", "_law_several", "_law_each"]) (sc := defScope s__law_judged) (by decide +kernel)) (fun _ _ _ _ _ => gv_name (i := 7) sc__law_judged.nd rfl (by first | exact .inl rfl | exact .inr rfl) (by first | exact .inl rfl | exact .inr rfl)) (fun _ _ _ _ _ => ets_one (et_not (et_tru (ev_callF (gd := false) (k := 7) (ps := ["_law_found", "_law_due"]) ((w__law_says T).mono (by decide)) hr (fun h => nomatch h) pass_never rfl T.m__law_says T.F__law_says.kp T.b__law_says (ea_cons (ev_callF (gd := false) (k := 7) (ps := ["thing"]) ((w_is_word T).mono (by decide)) hr (fun h => nomatch h) pass_never rfl T.m_is_word T.F_is_word.kp T.b_is_word (ea_cons (ev_var (i := 7) rfl (by first | exact .inl rfl | exact .inr (.inl rfl) | exact .inr (.inr rfl)) (by decide) (by decide)) (ea_nil) rfl) (by decide) rfl rfl) (ea_cons (ev_callF (gd := false) (k := 7) (ps := ["_law_item"]) ((w__law_is_word T).mono (by decide)) hr (fun h => nomatch h) pass_never rfl T.m__law_is_word T.F__law_is_word.kp T.b__law_is_word (ea_cons (ev_var (i := 7) rfl (by first | exact .inl rfl | exact .inr (.inl rfl) | exact .inr (.inr rfl)) (by decide) (by decide)) (ea_nil) rfl) (by decide) rfl rfl) (ea_nil) rfl) rfl) (by decide) rfl rfl) (fun _ => rfl)))) (fun _ _ _ _ _ => ev_int) (by decide) (fun _ => rfl))) (ev_lst (ea_nil))))))))))))
theorem w__law_two (T : Top K mg) : FnG P w K mg base false 1 T.f__law_two T.d__law_two ["_law_one", "_law_other"] (m__law_two) := fng_of T.F__law_two sc__law_two fun cdv A outer s H E hc hr hgd => svs_cons (sv_par (i := 2) (j := 3) rfl sc__law_two.nd rfl rfl (by decide) rfl rfl (ea_cons (ev_mul (ev_ix (Room.u1 hr) (ev_var (i := 0) rfl (by first | exact .inl rfl | exact .inr (.inl rfl) | exact .inr (.inr rfl)) (by decide) (by decide)) (ev_int) (fun _ _ => rfl) (fun _ _ => rfl)) (ev_ix (Room.u1 hr) (ev_var (i := 1) rfl (by first | exact .inl rfl | exact .inr (.inl rfl) | exact .inr (.inr rfl)) (by decide) (by decide)) (ev_int) (fun _ _ => rfl) (fun _ _ => rfl))) (ea_cons (ev_str) (ea_nil) rfl) rfl) rfl rfl)
    (svs_cons (sv_for owOf rfl (ei_zip rfl T.z_zip (ea_cons (ev_ix (Room.u1 hr) (ev_var (i := 0) rfl (by first | exact .inl rfl | exact .inr (.inl rfl) | exact .inr (.inr rfl)) (by decide) (by decide)) (ev_int) (fun _ _ => rfl) (fun _ _ => rfl)) (ea_cons (ev_ix (Room.u1 hr) (ev_var (i := 1) rfl (by first | exact .inl rfl | exact .inr (.inl rfl) | exact .inr (.inr rfl)) (by decide) (by decide)) (ev_int) (fun _ _ => rfl) (fun _ _ => rfl)) (ea_nil) rfl) rfl) rfl rfl) (gv_tup rfl (gvs_cons (gv_name (i := 4) sc__law_two.nd rfl (by first | exact .inl rfl | exact .inr rfl) (by first | exact .inl rfl | exact .inr rfl)) (gvs_cons (gv_name (i := 5) sc__law_two.nd rfl (by first | exact .inl rfl | exact .inr rfl) (by first | exact .inl rfl | exact .inr rfl)) (gvs_nil) rfl) rfl) rfl rfl) (svs_cons (sv_par (i := 6) (j := 7) rfl sc__law_two.nd rfl rfl (by decide) rfl rfl (ea_cons (ev_index rfl (ev_str) (ea_cons (ev_var (i := 4) rfl (by first | exact .inl rfl | exact .inr (.inl rfl) | exact .inr (.inr rfl)) (by decide) (by decide)) (ea_nil) rfl) rfl rfl rfl rfl) (ea_cons (ev_index rfl (ev_str) (ea_cons (ev_var (i := 5) rfl (by first | exact .inl rfl | exact .inr (.inl rfl) | exact .inr (.inr rfl)) (by decide) (by decide)) (ea_nil) rfl) rfl rfl rfl rfl) (ea_nil) rfl) rfl) rfl rfl)
    (svs_cons (sv_if (et_w (ew_and (et_gt (ev_var (i := 6) rfl (by first | exact .inl rfl | exact .inr (.inl rfl) | exact .inr (.inr rfl)) (by decide) (by decide)) (ev_int)) (ew_and1 (et_eqC (Room.u64 hr) (ev_mod (b_int rfl T.z_int (ea_cons (ev_var (i := 7) rfl (by first | exact .inl rfl | exact .inr (.inl rfl) | exact .inr (.inr rfl)) (by decide) (by decide)) (ea_nil) rfl) rfl) (ev_int)) (ev_int))))) (svs_one (sv_set (i := 2) sc__law_two.nd rfl (by first | exact .inl rfl | exact .inr rfl) (ev_neg (ev_var (i := 2) rfl (by first | exact .inl rfl | exact .inr (.inl rfl) | exact .inr (.inr rfl)) (by decide) (by decide))) rfl (by first | exact .inl rfl | exact .inr rfl))) (svs_nil))
    (svs_one (sv_set (i := 3) sc__law_two.nd rfl (by first | exact .inl rfl | exact .inr rfl) (ev_add (ev_var (i := 3) rfl (by first | exact .inl rfl | exact .inr (.inl rfl) | exact .inr (.inr rfl)) (by decide) (by decide)) (ev_ix (Room.u1 hr) (ev_str) (ev_xor (ev_var (i := 6) rfl (by first | exact .inl rfl | exact .inr (.inl rfl) | exact .inr (.inr rfl)) (by decide) (by decide)) (ev_var (i := 7) rfl (by first | exact .inl rfl | exact .inr (.inl rfl) | exact .inr (.inr rfl)) (by decide) (by decide))) (fun _ _ => rfl) (fun _ _ => rfl))) rfl (by first | exact .inl rfl | exact .inr rfl))))) (fun _ => rfl))
    (svs_one (sv_ret (ev_tup (ea_cons (ev_var (i := 2) rfl (by first | exact .inl rfl | exact .inr (.inl rfl) | exact .inr (.inr rfl)) (by decide) (by decide)) (ea_cons (ev_var (i := 3) rfl (by first | exact .inl rfl | exact .inr (.inl rfl) | exact .inr (.inr rfl)) (by decide) (by decide)) (ea_nil) rfl) rfl)))))
theorem w__law_past (T : Top K mg) : FnG P w K mg base false 2 T.f__law_past T.d__law_past ["_law_one", "_law_other"] (m__law_past) := fng_of T.F__law_past sc__law_past fun cdv A outer s H E hc hr hgd => svs_one (sv_ret (ev_eqC (Room.u64 hr) (ev_callF (gd := false) (k := 1) (ps := ["_law_one", "_law_other"]) ((w__law_two T).mono (by decide)) hr (fun h => nomatch h) psOf rfl T.m__law_two T.F__law_two.kp T.b__law_two (ea_cons (ev_var (i := 0) rfl (by first | exact .inl rfl | exact .inr (.inl rfl) | exact .inr (.inr rfl)) (by decide) (by decide)) (ea_cons (ev_var (i := 1) rfl (by first | exact .inl rfl | exact .inr (.inl rfl) | exact .inr (.inr rfl)) (by decide) (by decide)) (ea_nil) rfl) rfl) (by decide) rfl rfl) (ev_callF (gd := false) (k := 1) (ps := ["_law_one", "_law_other"]) ((w__law_two T).mono (by decide)) hr (fun h => nomatch h) psOf rfl T.m__law_two T.F__law_two.kp T.b__law_two (ea_cons (ev_var (i := 1) rfl (by first | exact .inl rfl | exact .inr (.inl rfl) | exact .inr (.inr rfl)) (by decide) (by decide)) (ea_cons (ev_var (i := 0) rfl (by first | exact .inl rfl | exact .inr (.inl rfl) | exact .inr (.inr rfl)) (by decide) (by decide)) (ea_nil) rfl) rfl) (by decide) rfl rfl)))
theorem w_is_turning (T : Top K mg) : FnG P w K mg base false 1 T.f_is_turning T.d_is_turning ["word"] (m_is_turning) := fng_of T.F_is_turning sc_is_turning fun cdv A outer s H E hc hr hgd => svs_one (sv_ret (ev_eqC (Room.u64 hr) (ev_mod (ev_count (ev_ix (Room.u1 hr) (ev_var (i := 0) rfl (by first | exact .inl rfl | exact .inr (.inl rfl) | exact .inr (.inr rfl)) (by decide) (by decide)) (ev_int) (fun _ _ => rfl) (fun _ _ => rfl)) (ea_cons (ev_str) (ea_nil) rfl) rfl rfl rfl rfl) (ev_int)) (ev_int)))
theorem w_is_turner (T : Top K mg) : FnG P w K mg base false 5 T.f_is_turner T.d_is_turner ["word"] (m_is_turner) := fng_of T.F_is_turner sc_is_turner fun cdv A outer s H E hc hr hgd => svs_cons (sv_expr (ev_callF (gd := false) (k := 4) (ps := ["word"]) ((w_need_word T).mono (by decide)) hr (fun h => nomatch h) psOf rfl T.m_need_word T.F_need_word.kp T.b_need_word (ea_cons (ev_var (i := 0) rfl (by first | exact .inl rfl | exact .inr (.inl rfl) | exact .inr (.inr rfl)) (by decide) (by decide)) (ea_nil) rfl) (by decide) rfl rfl) rfl)
    (svs_one (sv_ret (ev_callF (gd := false) (k := 4) (ps := ["word"]) ((w_is_turning T).mono (by decide)) hr (fun h => nomatch h) psOf rfl T.m_is_turning T.F_is_turning.kp T.b_is_turning (ea_cons (ev_var (i := 0) rfl (by first | exact .inl rfl | exact .inr (.inl rfl) | exact .inr (.inr rfl)) (by decide) (by decide)) (ea_nil) rfl) (by decide) rfl rfl)))
theorem w_is_past (T : Top K mg) : FnG P w K mg base false 3 T.f_is_past T.d_is_past ["one", "other"] (m_is_past) := fng_of T.F_is_past sc_is_past fun cdv A outer s H E hc hr hgd => svs_one (sv_ret (ev_eqC (Room.u64 hr) (ev_callF (gd := false) (k := 2) (ps := ["one", "other"]) ((w_is_crossed T).mono (by decide)) hr (fun h => nomatch h) psOf rfl T.m_is_crossed T.F_is_crossed.kp T.b_is_crossed (ea_cons (ev_var (i := 0) rfl (by first | exact .inl rfl | exact .inr (.inl rfl) | exact .inr (.inr rfl)) (by decide) (by decide)) (ea_cons (ev_var (i := 1) rfl (by first | exact .inl rfl | exact .inr (.inl rfl) | exact .inr (.inr rfl)) (by decide) (by decide)) (ea_nil) rfl) rfl) (by decide) rfl rfl) (ev_callF (gd := false) (k := 2) (ps := ["one", "other"]) ((w_is_crossed T).mono (by decide)) hr (fun h => nomatch h) psOf rfl T.m_is_crossed T.F_is_crossed.kp T.b_is_crossed (ea_cons (ev_var (i := 1) rfl (by first | exact .inl rfl | exact .inr (.inl rfl) | exact .inr (.inr rfl)) (by decide) (by decide)) (ea_cons (ev_var (i := 0) rfl (by first | exact .inl rfl | exact .inr (.inl rfl) | exact .inr (.inr rfl)) (by decide) (by decide)) (ea_nil) rfl) rfl) (by decide) rfl rfl)))
theorem w_past_of (T : Top K mg) : FnG P w K mg base false 4 T.f_past_of T.d_past_of ["one", "other"] (m_past_of) := fng_of T.F_past_of sc_past_of fun cdv A outer s H E hc hr hgd => svs_one (sv_ret (ev_callF (gd := false) (k := 3) (ps := ["one", "other"]) ((w_is_past T).mono (by decide)) hr (fun h => nomatch h) psOf rfl T.m_is_past T.F_is_past.kp T.b_is_past (ea_cons (ev_callF (gd := false) (k := 3) (ps := ["word"]) ((w_code_of T).mono (by decide)) hr (fun h => nomatch h) psOf rfl T.m_code_of T.F_code_of.kp T.b_code_of (ea_cons (ev_var (i := 0) rfl (by first | exact .inl rfl | exact .inr (.inl rfl) | exact .inr (.inr rfl)) (by decide) (by decide)) (ea_nil) rfl) (by decide) rfl rfl) (ea_cons (ev_callF (gd := false) (k := 3) (ps := ["word"]) ((w_code_of T).mono (by decide)) hr (fun h => nomatch h) psOf rfl T.m_code_of T.F_code_of.kp T.b_code_of (ea_cons (ev_var (i := 1) rfl (by first | exact .inl rfl | exact .inr (.inl rfl) | exact .inr (.inr rfl)) (by decide) (by decide)) (ea_nil) rfl) (by decide) rfl rfl) (ea_nil) rfl) rfl) (by decide) rfl rfl))
theorem w_goes_past (T : Top K mg) : FnG P w K mg base false 6 T.f_goes_past T.d_goes_past ["one", "other"] (m_goes_past) := fng_of T.F_goes_past sc_goes_past fun cdv A outer s H E hc hr hgd => svs_cons (sv_expr (ev_callF (gd := false) (k := 5) (ps := ["one", "other"]) ((w_need_like T).mono (by decide)) hr (fun h => nomatch h) psOf rfl T.m_need_like T.F_need_like.kp T.b_need_like (ea_cons (ev_var (i := 0) rfl (by first | exact .inl rfl | exact .inr (.inl rfl) | exact .inr (.inr rfl)) (by decide) (by decide)) (ea_cons (ev_var (i := 1) rfl (by first | exact .inl rfl | exact .inr (.inl rfl) | exact .inr (.inr rfl)) (by decide) (by decide)) (ea_nil) rfl) rfl) (by decide) rfl rfl) rfl)
    (svs_one (sv_ret (ev_callF (gd := false) (k := 5) (ps := ["one", "other"]) ((w_past_of T).mono (by decide)) hr (fun h => nomatch h) psOf rfl T.m_past_of T.F_past_of.kp T.b_past_of (ea_cons (ev_var (i := 0) rfl (by first | exact .inl rfl | exact .inr (.inl rfl) | exact .inr (.inr rfl)) (by decide) (by decide)) (ea_cons (ev_var (i := 1) rfl (by first | exact .inl rfl | exact .inr (.inl rfl) | exact .inr (.inr rfl)) (by decide) (by decide)) (ea_nil) rfl) rfl) (by decide) rfl rfl)))
theorem w__law_is_right (T : Top K mg) : FnG P w K mg base true 9 T.f__law_is_right T.d__law_is_right ["_law_state"] (m__law_is_right T.ax) := fng_of T.F__law_is_right sc__law_is_right fun cdv A outer s H E hc hr hgd => svs_cons (sv_set (i := 1) sc__law_is_right.nd rfl (by first | exact .inl rfl | exact .inr rfl) (ev_add (ev_int) (ev_callF (gd := false) (k := 8) (ps := ["_law_state", "_law_size_here"]) ((w__law_draw T).mono (by decide)) hr (fun h => nomatch h) psOf rfl T.m__law_draw T.F__law_draw.kp T.b__law_draw (ea_cons (ev_var (i := 0) rfl (by first | exact .inl rfl | exact .inr (.inl rfl) | exact .inr (.inr rfl)) (by decide) (by decide)) (ea_cons (ev_int) (ea_nil) rfl) rfl) (by decide) rfl rfl)) rfl (by first | exact .inl rfl | exact .inr rfl))
    (svs_cons (sv_par (i := 2) (j := 3) rfl sc__law_is_right.nd rfl rfl (by decide) rfl rfl (ea_cons (ev_callF (gd := false) (k := 8) (ps := ["_law_state", "_law_size_here"]) ((w__law_word T).mono (by decide)) hr (fun h => nomatch h) psOf rfl T.m__law_word T.F__law_word.kp T.b__law_word (ea_cons (ev_var (i := 0) rfl (by first | exact .inl rfl | exact .inr (.inl rfl) | exact .inr (.inr rfl)) (by decide) (by decide)) (ea_cons (ev_var (i := 1) rfl (by first | exact .inl rfl | exact .inr (.inl rfl) | exact .inr (.inr rfl)) (by decide) (by decide)) (ea_nil) rfl) rfl) (by decide) rfl rfl) (ea_cons (ev_callF (gd := false) (k := 8) (ps := ["_law_state", "_law_size_here"]) ((w__law_word T).mono (by decide)) hr (fun h => nomatch h) psOf rfl T.m__law_word T.F__law_word.kp T.b__law_word (ea_cons (ev_var (i := 0) rfl (by first | exact .inl rfl | exact .inr (.inl rfl) | exact .inr (.inr rfl)) (by decide) (by decide)) (ea_cons (ev_var (i := 1) rfl (by first | exact .inl rfl | exact .inr (.inl rfl) | exact .inr (.inr rfl)) (by decide) (by decide)) (ea_nil) rfl) rfl) (by decide) rfl rfl) (ea_nil) rfl) rfl) rfl rfl)
    (svs_cons (sv_if (et_eqC (Room.u64 hr) (ev_callF (gd := false) (k := 8) (ps := ["_law_state", "_law_size_here"]) ((w__law_draw T).mono (by decide)) hr (fun h => nomatch h) psOf rfl T.m__law_draw T.F__law_draw.kp T.b__law_draw (ea_cons (ev_var (i := 0) rfl (by first | exact .inl rfl | exact .inr (.inl rfl) | exact .inr (.inr rfl)) (by decide) (by decide)) (ea_cons (ev_int) (ea_nil) rfl) rfl) (by decide) rfl rfl) (ev_int)) (svs_one (sv_set (i := 3) sc__law_is_right.nd rfl (by first | exact .inl rfl | exact .inr rfl) (ev_callF (gd := false) (k := 8) (ps := ["_law_each"]) ((w__law_minus T).mono (by decide)) hr (fun h => nomatch h) psOf rfl T.m__law_minus T.F__law_minus.kp T.b__law_minus (ea_cons (ev_var (i := 2) rfl (by first | exact .inl rfl | exact .inr (.inl rfl) | exact .inr (.inr rfl)) (by decide) (by decide)) (ea_nil) rfl) (by decide) rfl rfl) rfl (by first | exact .inl rfl | exact .inr rfl))) (svs_nil))
    (svs_cons (sv_set (i := 4) sc__law_is_right.nd rfl (by first | exact .inl rfl | exact .inr rfl) (ev_int) rfl (by first | exact .inl rfl | exact .inr rfl))
    (svs_cons (sv_for owOf rfl (ei_zip rfl T.z_zip (ea_cons (ev_ix (Room.u1 hr) (ev_var (i := 2) rfl (by first | exact .inl rfl | exact .inr (.inl rfl) | exact .inr (.inr rfl)) (by decide) (by decide)) (ev_int) (fun _ _ => rfl) (fun _ _ => rfl)) (ea_cons (ev_ix (Room.u1 hr) (ev_var (i := 3) rfl (by first | exact .inl rfl | exact .inr (.inl rfl) | exact .inr (.inr rfl)) (by decide) (by decide)) (ev_int) (fun _ _ => rfl) (fun _ _ => rfl)) (ea_nil) rfl) rfl) rfl rfl) (gv_tup rfl (gvs_cons (gv_name (i := 5) sc__law_is_right.nd rfl (by first | exact .inl rfl | exact .inr rfl) (by first | exact .inl rfl | exact .inr rfl)) (gvs_cons (gv_name (i := 6) sc__law_is_right.nd rfl (by first | exact .inl rfl | exact .inr rfl) (by first | exact .inl rfl | exact .inr rfl)) (gvs_nil) rfl) rfl) rfl rfl) (svs_one (sv_set (i := 4) sc__law_is_right.nd rfl (by first | exact .inl rfl | exact .inr rfl) (ev_add (ev_var (i := 4) rfl (by first | exact .inl rfl | exact .inr (.inl rfl) | exact .inr (.inr rfl)) (by decide) (by decide)) (b_int rfl T.z_int (ea_cons (ev_andB (ev_neC (Room.u64 hr) (ev_var (i := 5) rfl (by first | exact .inl rfl | exact .inr (.inl rfl) | exact .inr (.inr rfl)) (by decide) (by decide)) (ev_str)) (ev_andB (ev_neC (Room.u64 hr) (ev_var (i := 6) rfl (by first | exact .inl rfl | exact .inr (.inl rfl) | exact .inr (.inr rfl)) (by decide) (by decide)) (ev_str)) (ev_one (ev_neC (Room.u64 hr) (ev_var (i := 5) rfl (by first | exact .inl rfl | exact .inr (.inl rfl) | exact .inr (.inr rfl)) (by decide) (by decide)) (ev_var (i := 6) rfl (by first | exact .inl rfl | exact .inr (.inl rfl) | exact .inr (.inr rfl)) (by decide) (by decide)))))) (ea_nil) rfl) rfl)) rfl (by first | exact .inl rfl | exact .inr rfl))) (fun _ => rfl))
    (svs_cons (sv_set (i := 7) sc__law_is_right.nd rfl (by first | exact .inl rfl | exact .inr rfl) (ev_eqC (Room.u64 hr) (ev_mod (b_int rfl T.z_int (ea_cons (ev_var (i := 4) rfl (by first | exact .inl rfl | exact .inr (.inl rfl) | exact .inr (.inr rfl)) (by decide) (by decide)) (ea_nil) rfl) rfl) (ev_int)) (ev_int)) rfl (by first | exact .inl rfl | exact .inr rfl))
    (svs_cons (sv_if (et_w (ew_or (et_not (et_tru (ev_callF (gd := false) (k := 8) (ps := ["_law_found", "_law_due"]) ((w__law_says T).mono (by decide)) hr (fun h => nomatch h) psOf rfl T.m__law_says T.F__law_says.kp T.b__law_says (ea_cons (ev_callF (gd := false) (k := 8) (ps := ["one", "other"]) ((w_goes_past T).mono (by decide)) hr (fun h => nomatch h) psOf rfl T.m_goes_past T.F_goes_past.kp T.b_goes_past (ea_cons (ev_var (i := 2) rfl (by first | exact .inl rfl | exact .inr (.inl rfl) | exact .inr (.inr rfl)) (by decide) (by decide)) (ea_cons (ev_var (i := 3) rfl (by first | exact .inl rfl | exact .inr (.inl rfl) | exact .inr (.inr rfl)) (by decide) (by decide)) (ea_nil) rfl) rfl) (by decide) rfl rfl) (ea_cons (ev_var (i := 7) rfl (by first | exact .inl rfl | exact .inr (.inl rfl) | exact .inr (.inr rfl)) (by decide) (by decide)) (ea_nil) rfl) rfl) (by decide) rfl rfl) (fun _ => rfl))) (ew_or1 (et_not (et_tru (ev_callF (gd := false) (k := 8) (ps := ["_law_found", "_law_due"]) ((w__law_says T).mono (by decide)) hr (fun h => nomatch h) psOf rfl T.m__law_says T.F__law_says.kp T.b__law_says (ea_cons (ev_callK (ks := ["one", "other"]) (π := [0, 1]) (gd := false) (k := 8) (ps := ["one", "other"]) ((w_goes_past T).mono (by decide)) hr (fun h => nomatch h) psOf rfl T.m_goes_past T.F_goes_past.kp (fun s us hl => match us, hl with | [u0, u1], _ => bindK T.F_goes_past (fun _ _ _ _ _ _ => rfl) s) (ek_cons (ev_var (i := 3) rfl (by first | exact .inl rfl | exact .inr (.inl rfl) | exact .inr (.inr rfl)) (by decide) (by decide)) (ek_cons (ev_var (i := 2) rfl (by first | exact .inl rfl | exact .inr (.inl rfl) | exact .inr (.inr rfl)) (by decide) (by decide)) (ek_nil))) rfl rfl (by decide) rfl) (ea_cons (ev_var (i := 7) rfl (by first | exact .inl rfl | exact .inr (.inl rfl) | exact .inr (.inr rfl)) (by decide) (by decide)) (ea_nil) rfl) rfl) (by decide) rfl rfl) (fun _ => rfl)))))) (svs_one (sv_ret (ev_bl))) (svs_nil))
    (svs_cons (sv_par (i := 8) (j := 9) rfl sc__law_is_right.nd rfl rfl (by decide) rfl rfl (ea_cons (ev_callF (gd := false) (k := 8) (ps := ["one", "other"]) ((w_put_together T).mono (by decide)) hr (fun h => nomatch h) psOf rfl T.m_put_together T.F_put_together.kp T.b_put_together (ea_cons (ev_var (i := 2) rfl (by first | exact .inl rfl | exact .inr (.inl rfl) | exact .inr (.inr rfl)) (by decide) (by decide)) (ea_cons (ev_var (i := 3) rfl (by first | exact .inl rfl | exact .inr (.inl rfl) | exact .inr (.inr rfl)) (by decide) (by decide)) (ea_nil) rfl) rfl) (by decide) rfl rfl) (ea_cons (ev_callF (gd := false) (k := 8) (ps := ["one", "other"]) ((w_put_together T).mono (by decide)) hr (fun h => nomatch h) psOf rfl T.m_put_together T.F_put_together.kp T.b_put_together (ea_cons (ev_var (i := 3) rfl (by first | exact .inl rfl | exact .inr (.inl rfl) | exact .inr (.inr rfl)) (by decide) (by decide)) (ea_cons (ev_var (i := 2) rfl (by first | exact .inl rfl | exact .inr (.inl rfl) | exact .inr (.inr rfl)) (by decide) (by decide)) (ea_nil) rfl) rfl) (by decide) rfl rfl) (ea_nil) rfl) rfl) rfl rfl)
    (svs_cons (sv_if (et_w (ew_or (et_neC (Room.u64 hr) (b_repr (hgd rfl) (Room.u66 hr) rfl T.z_repr (ea_cons (ev_var (i := 8) rfl (by first | exact .inl rfl | exact .inr (.inl rfl) | exact .inr (.inr rfl)) (by decide) (by decide)) (ea_nil) rfl) rfl) (b_repr (hgd rfl) (Room.u66 hr) rfl T.z_repr (ea_cons (ev_if (et_tru (ev_var (i := 7) rfl (by first | exact .inl rfl | exact .inr (.inl rfl) | exact .inr (.inr rfl)) (by decide) (by decide)) (fun _ => rfl)) (ev_var (i := 9) rfl (by first | exact .inl rfl | exact .inr (.inl rfl) | exact .inr (.inr rfl)) (by decide) (by decide)) (ev_callF (gd := false) (k := 8) (ps := ["_law_each"]) ((w__law_minus T).mono (by decide)) hr (fun h => nomatch h) psOf rfl T.m__law_minus T.F__law_minus.kp T.b__law_minus (ea_cons (ev_var (i := 9) rfl (by first | exact .inl rfl | exact .inr (.inl rfl) | exact .inr (.inr rfl)) (by decide) (by decide)) (ea_nil) rfl) (by decide) rfl rfl)) (ea_nil) rfl) rfl)) (ew_or1 (et_neC (Room.u64 hr) (ev_var (i := 7) rfl (by first | exact .inl rfl | exact .inr (.inl rfl) | exact .inr (.inr rfl)) (by decide) (by decide)) (ev_callF (gd := false) (k := 8) (ps := ["_law_one", "_law_other"]) ((w__law_past T).mono (by decide)) hr (fun h => nomatch h) psOf rfl T.m__law_past T.F__law_past.kp T.b__law_past (ea_cons (ev_var (i := 2) rfl (by first | exact .inl rfl | exact .inr (.inl rfl) | exact .inr (.inr rfl)) (by decide) (by decide)) (ea_cons (ev_var (i := 3) rfl (by first | exact .inl rfl | exact .inr (.inl rfl) | exact .inr (.inr rfl)) (by decide) (by decide)) (ea_nil) rfl) rfl) (by decide) rfl rfl))))) (svs_one (sv_ret (ev_bl))) (svs_nil))
    (svs_cons (sv_set (i := 10) sc__law_is_right.nd rfl (by first | exact .inl rfl | exact .inr rfl) (ev_eqC (Room.u64 hr) (ev_mod (b_int rfl T.z_int (ea_cons (ev_count (ev_ix (Room.u1 hr) (ev_var (i := 2) rfl (by first | exact .inl rfl | exact .inr (.inl rfl) | exact .inr (.inr rfl)) (by decide) (by decide)) (ev_int) (fun _ _ => rfl) (fun _ _ => rfl)) (ea_cons (ev_str) (ea_nil) rfl) rfl rfl rfl rfl) (ea_nil) rfl) rfl) (ev_int)) (ev_int)) rfl (by first | exact .inl rfl | exact .inr rfl))
    (svs_cons (sv_set (i := 11) sc__law_is_right.nd rfl (by first | exact .inl rfl | exact .inr rfl) (b_repr (hgd rfl) (Room.u66 hr) rfl T.z_repr (ea_cons (ev_callF (gd := false) (k := 8) (ps := ["_law_size_here", "_law_sign"]) ((w__law_nothing T).mono (by decide)) hr (fun h => nomatch h) psOf rfl T.m__law_nothing T.F__law_nothing.kp T.b__law_nothing (ea_cons (ev_var (i := 1) rfl (by first | exact .inl rfl | exact .inr (.inl rfl) | exact .inr (.inr rfl)) (by decide) (by decide)) (ea_cons (ev_if (et_tru (ev_var (i := 10) rfl (by first | exact .inl rfl | exact .inr (.inl rfl) | exact .inr (.inr rfl)) (by decide) (by decide)) (fun _ => rfl)) (ev_int) (ev_neg (ev_int))) (ea_nil) rfl) rfl) (by decide) rfl rfl) (ea_nil) rfl) rfl) rfl (by first | exact .inl rfl | exact .inr rfl))
    (svs_one (sv_ret (ev_andB (ev_callF (gd := false) (k := 8) (ps := ["_law_found", "_law_due"]) ((w__law_says T).mono (by decide)) hr (fun h => nomatch h) psOf rfl T.m__law_says T.F__law_says.kp T.b__law_says (ea_cons (ev_callK (ks := ["word"]) (π := [0]) (gd := false) (k := 8) (ps := ["word"]) ((w_is_turner T).mono (by decide)) hr (fun h => nomatch h) psOf rfl T.m_is_turner T.F_is_turner.kp (fun s us hl => match us, hl with | [u0], _ => bindK T.F_is_turner (fun _ _ _ _ _ _ => rfl) s) (ek_cons (ev_var (i := 2) rfl (by first | exact .inl rfl | exact .inr (.inl rfl) | exact .inr (.inr rfl)) (by decide) (by decide)) (ek_nil)) rfl rfl (by decide) rfl) (ea_cons (ev_var (i := 10) rfl (by first | exact .inl rfl | exact .inr (.inl rfl) | exact .inr (.inr rfl)) (by decide) (by decide)) (ea_nil) rfl) rfl) (by decide) rfl rfl) (ev_andB (ev_eqC (Room.u64 hr) (b_repr (hgd rfl) (Room.u66 hr) rfl T.z_repr (ea_cons (ev_callF (gd := false) (k := 8) (ps := ["one", "other"]) ((w_put_together T).mono (by decide)) hr (fun h => nomatch h) psOf rfl T.m_put_together T.F_put_together.kp T.b_put_together (ea_cons (ev_var (i := 2) rfl (by first | exact .inl rfl | exact .inr (.inl rfl) | exact .inr (.inr rfl)) (by decide) (by decide)) (ea_cons (ev_var (i := 2) rfl (by first | exact .inl rfl | exact .inr (.inl rfl) | exact .inr (.inr rfl)) (by decide) (by decide)) (ea_nil) rfl) rfl) (by decide) rfl rfl) (ea_nil) rfl) rfl) (ev_var (i := 11) rfl (by first | exact .inl rfl | exact .inr (.inl rfl) | exact .inr (.inr rfl)) (by decide) (by decide))) (ev_one (ev_callF (gd := false) (k := 8) (ps := ["_law_state", "_law_good"]) ((w__law_judged T).mono (by decide)) hr (fun h => nomatch h) psOf rfl T.m__law_judged T.F__law_judged.kp T.b__law_judged (ea_cons (ev_var (i := 0) rfl (by first | exact .inl rfl | exact .inr (.inl rfl) | exact .inr (.inr rfl)) (by decide) (by decide)) (ea_cons (ev_var (i := 2) rfl (by first | exact .inl rfl | exact .inr (.inl rfl) | exact .inr (.inr rfl)) (by decide) (by decide)) (ea_nil) rfl) rfl) (by decide) rfl rfl))))))))))))))))
theorem w__law_refuses (T : Top K mg) (hTB : Tb T base) : FnG P w K mg base false 9 T.f__law_refuses T.d__law_refuses ["_law_state"] (m__law_refuses T.ax) := fng_of T.F__law_refuses sc__law_refuses fun cdv A outer s H E hc hr hgd => svs_cons (sv_asg (ev_tup (ea_cons (ev_callF (gd := false) (k := 8) (ps := ["_law_state", "_law_size_here"]) ((w__law_word T).mono (by decide)) hr (fun h => nomatch h) psOf rfl T.m__law_word T.F__law_word.kp T.b__law_word (ea_cons (ev_var (i := 0) rfl (by first | exact .inl rfl | exact .inr (.inl rfl) | exact .inr (.inr rfl)) (by decide) (by decide)) (ea_cons (ev_add (ev_int) (ev_callF (gd := false) (k := 8) (ps := ["_law_state", "_law_size_here"]) ((w__law_draw T).mono (by decide)) hr (fun h => nomatch h) psOf rfl T.m__law_draw T.F__law_draw.kp T.b__law_draw (ea_cons (ev_var (i := 0) rfl (by first | exact .inl rfl | exact .inr (.inl rfl) | exact .inr (.inr rfl)) (by decide) (by decide)) (ea_cons (ev_int) (ea_nil) rfl) rfl) (by decide) rfl rfl)) (ea_nil) rfl) rfl) (by decide) rfl rfl) (ea_cons (ev_callF (gd := false) (k := 8) (ps := ["_law_state"]) ((w__law_bad_word T).mono (by decide)) hr (fun h => nomatch h) psOf rfl T.m__law_bad_word T.F__law_bad_word.kp T.b__law_bad_word (ea_cons (ev_var (i := 0) rfl (by first | exact .inl rfl | exact .inr (.inl rfl) | exact .inr (.inr rfl)) (by decide) (by decide)) (ea_nil) rfl) (by decide) rfl rfl) (ea_nil) rfl) rfl)) (gv_tup rfl (gvs_cons (gv_name (i := 1) sc__law_refuses.nd rfl (by first | exact .inl rfl | exact .inr rfl) (by first | exact .inl rfl | exact .inr rfl)) (gvs_cons (gv_name (i := 2) sc__law_refuses.nd rfl (by first | exact .inl rfl | exact .inr rfl) (by first | exact .inl rfl | exact .inr rfl)) (gvs_nil) rfl) rfl) rfl rfl) rfl rfl rfl)
    (svs_cons (sv_set (i := 3) sc__law_refuses.nd rfl (by first | exact .inl rfl | exact .inr rfl) (ev_callF (gd := false) (k := 8) (ps := ["_law_state", "_law_size_here"]) ((w__law_word T).mono (by decide)) hr (fun h => nomatch h) psOf rfl T.m__law_word T.F__law_word.kp T.b__law_word (ea_cons (ev_var (i := 0) rfl (by first | exact .inl rfl | exact .inr (.inl rfl) | exact .inr (.inr rfl)) (by decide) (by decide)) (ea_cons (ev_add (ev_int) (ev_mod (b_int rfl T.z_int (ea_cons (b_len rfl T.z_len (ea_cons (ev_ix (Room.u1 hr) (ev_var (i := 1) rfl (by first | exact .inl rfl | exact .inr (.inl rfl) | exact .inr (.inr rfl)) (by decide) (by decide)) (ev_int) (fun _ _ => rfl) (fun _ _ => rfl)) (ea_nil) rfl) rfl) (ea_nil) rfl) rfl) (ev_int))) (ea_nil) rfl) rfl) (by decide) rfl rfl) rfl (by first | exact .inl rfl | exact .inr rfl))
    (svs_cons (sv_set (i := 4) sc__law_refuses.nd rfl (by first | exact .inl rfl | exact .inr rfl) (ev_caught T (k := 6) rfl rfl rfl hTB.tab__law_refuses (hc.symm.trans T.e__law_refuses) (by rw [hTB.eq]; exact (List.mem_cons_self)) (fun p hp hP => by rw [hTB.eq] at hp; exact (List.mem_singleton.mp hp) ▸ rfl) hr (LamX.lamS_by (sc := defScope s__law_refuses) (by decide +kernel)) rfl (fun _ _ _ _ _ => rfl) (fun A2 outer2 s2 H2 E2 f2 c2 hr2 => ev_callF (gd := false) (k := 6) (ps := ["one", "other"]) ((w_goes_past T).mono (by decide)) hr2 (fun h => nomatch h) psLam rfl T.m_goes_past T.F_goes_past.kp T.b_goes_past (ea_cons (ev_var (i := 2) rfl (by first | exact .inl rfl | exact .inr (.inl rfl) | exact .inr (.inr rfl)) (by decide) (by decide)) (ea_cons (ev_var (i := 3) rfl (by first | exact .inl rfl | exact .inr (.inl rfl) | exact .inr (.inr rfl)) (by decide) (by decide)) (ea_nil) rfl) rfl) (by decide) rfl rfl)) rfl (by first | exact .inl rfl | exact .inr rfl))
    (svs_cons (sv_if (et_not (et_tru (b_isX T.caught_exc rfl T.z_isinstance (ea_cons (ev_var (i := 4) rfl (by first | exact .inl rfl | exact .inr (.inl rfl) | exact .inr (.inr rfl)) (by decide) (by decide)) (ea_cons (ev_glob (v := .ref T.C_BadWord) rfl T.M_BadWord rfl (fun _ _ => .op _) (by decide)) (ea_nil) rfl) rfl) rfl rfl) (fun _ => rfl))) (svs_one (sv_ret (ev_bl))) (svs_nil))
    (svs_cons (sv_set (i := 4) sc__law_refuses.nd rfl (by first | exact .inl rfl | exact .inr rfl) (ev_caught T (k := 6) rfl rfl rfl hTB.tab__law_refuses (hc.symm.trans T.e__law_refuses) (by rw [hTB.eq]; exact (List.mem_cons_self)) (fun p hp hP => by rw [hTB.eq] at hp; exact (List.mem_singleton.mp hp) ▸ rfl) hr (LamX.lamS_by (sc := defScope s__law_refuses) (by decide +kernel)) rfl (fun _ _ _ _ _ => rfl) (fun A2 outer2 s2 H2 E2 f2 c2 hr2 => ev_callF (gd := false) (k := 6) (ps := ["one", "other"]) ((w_goes_past T).mono (by decide)) hr2 (fun h => nomatch h) psLam rfl T.m_goes_past T.F_goes_past.kp T.b_goes_past (ea_cons (ev_var (i := 1) rfl (by first | exact .inl rfl | exact .inr (.inl rfl) | exact .inr (.inr rfl)) (by decide) (by decide)) (ea_cons (ev_var (i := 2) rfl (by first | exact .inl rfl | exact .inr (.inl rfl) | exact .inr (.inr rfl)) (by decide) (by decide)) (ea_nil) rfl) rfl) (by decide) rfl rfl)) rfl (by first | exact .inl rfl | exact .inr rfl))
    (svs_cons (sv_if (et_not (et_tru (b_isX T.caught_exc rfl T.z_isinstance (ea_cons (ev_var (i := 4) rfl (by first | exact .inl rfl | exact .inr (.inl rfl) | exact .inr (.inr rfl)) (by decide) (by decide)) (ea_cons (ev_glob (v := .ref T.C_BadWord) rfl T.M_BadWord rfl (fun _ _ => .op _) (by decide)) (ea_nil) rfl) rfl) rfl rfl) (fun _ => rfl))) (svs_one (sv_ret (ev_bl))) (svs_nil))
    (svs_cons (sv_set (i := 4) sc__law_refuses.nd rfl (by first | exact .inl rfl | exact .inr rfl) (ev_caught T (k := 6) rfl rfl rfl hTB.tab__law_refuses (hc.symm.trans T.e__law_refuses) (by rw [hTB.eq]; exact (List.mem_cons_self)) (fun p hp hP => by rw [hTB.eq] at hp; exact (List.mem_singleton.mp hp) ▸ rfl) hr (LamX.lamS_by (sc := defScope s__law_refuses) (by decide +kernel)) rfl (fun _ _ _ _ _ => rfl) (fun A2 outer2 s2 H2 E2 f2 c2 hr2 => ev_callF (gd := false) (k := 6) (ps := ["one", "other"]) ((w_goes_past T).mono (by decide)) hr2 (fun h => nomatch h) psLam rfl T.m_goes_past T.F_goes_past.kp T.b_goes_past (ea_cons (ev_var (i := 3) rfl (by first | exact .inl rfl | exact .inr (.inl rfl) | exact .inr (.inr rfl)) (by decide) (by decide)) (ea_cons (ev_var (i := 1) rfl (by first | exact .inl rfl | exact .inr (.inl rfl) | exact .inr (.inr rfl)) (by decide) (by decide)) (ea_nil) rfl) rfl) (by decide) rfl rfl)) rfl (by first | exact .inl rfl | exact .inr rfl))
    (svs_cons (sv_if (et_not (et_tru (b_isX T.caught_exc rfl T.z_isinstance (ea_cons (ev_var (i := 4) rfl (by first | exact .inl rfl | exact .inr (.inl rfl) | exact .inr (.inr rfl)) (by decide) (by decide)) (ea_cons (ev_glob (v := .ref T.C_OtherLength) rfl T.M_OtherLength rfl (fun _ _ => .op _) (by decide)) (ea_nil) rfl) rfl) rfl rfl) (fun _ => rfl))) (svs_one (sv_ret (ev_bl))) (svs_nil))
    (svs_cons (sv_set (i := 4) sc__law_refuses.nd rfl (by first | exact .inl rfl | exact .inr rfl) (ev_caught T (k := 6) rfl rfl rfl hTB.tab__law_refuses (hc.symm.trans T.e__law_refuses) (by rw [hTB.eq]; exact (List.mem_cons_self)) (fun p hp hP => by rw [hTB.eq] at hp; exact (List.mem_singleton.mp hp) ▸ rfl) hr (LamX.lamS_by (sc := defScope s__law_refuses) (by decide +kernel)) rfl (fun _ _ _ _ _ => rfl) (fun A2 outer2 s2 H2 E2 f2 c2 hr2 => ev_callF (gd := false) (k := 6) (ps := ["word"]) ((w_is_turner T).mono (by decide)) hr2 (fun h => nomatch h) psLam rfl T.m_is_turner T.F_is_turner.kp T.b_is_turner (ea_cons (ev_var (i := 2) rfl (by first | exact .inl rfl | exact .inr (.inl rfl) | exact .inr (.inr rfl)) (by decide) (by decide)) (ea_nil) rfl) (by decide) rfl rfl)) rfl (by first | exact .inl rfl | exact .inr rfl))
    (svs_one (sv_ret (b_isX T.caught_exc rfl T.z_isinstance (ea_cons (ev_var (i := 4) rfl (by first | exact .inl rfl | exact .inr (.inl rfl) | exact .inr (.inr rfl)) (by decide) (by decide)) (ea_cons (ev_glob (v := .ref T.C_BadWord) rfl T.M_BadWord rfl (fun _ _ => .op _) (by decide)) (ea_nil) rfl) rfl) rfl rfl)))))))))))
theorem w_law (T : Top K mg) (hTB : Tb T base) : FnG P w K mg base true 10 T.f_law T.d_law ["_law_script"] (m_law T.ax) := fng_of T.F_law sc_law fun cdv A outer s H E hc hr hgd => svs_cons (sv_set (i := 1) sc_law.nd rfl (by first | exact .inl rfl | exact .inr rfl) (ev_callF (gd := false) (k := 9) (ps := ["_law_script"]) ((w__law_begun T).mono (by decide)) hr (fun h => nomatch h) psOf rfl T.m__law_begun T.F__law_begun.kp T.b__law_begun (ea_cons (ev_var (i := 0) rfl (by first | exact .inl rfl | exact .inr (.inl rfl) | exact .inr (.inr rfl)) (by decide) (by decide)) (ea_nil) rfl) (by decide) rfl rfl) rfl (by first | exact .inl rfl | exact .inr rfl))
    (svs_cons (sv_for owOf rfl (ei_range1 rfl T.z_range (ea_cons (ev_add (ev_int) (b_min2 rfl rfl T.z_min (ea_cons (b_len rfl T.z_len (ea_cons (ev_var (i := 0) rfl (by first | exact .inl rfl | exact .inr (.inl rfl) | exact .inr (.inr rfl)) (by decide) (by decide)) (ea_nil) rfl) rfl) (ea_cons (ev_int) (ea_nil) rfl) rfl) rfl rfl)) (ea_nil) rfl) rfl) (gv_name (i := 2) sc_law.nd rfl (by first | exact .inl rfl | exact .inr rfl) (by first | exact .inl rfl | exact .inr rfl)) (svs_one (sv_if (et_w (ew_or (et_not (et_tru (ev_callF (gd := true) (k := 9) (ps := ["_law_state"]) ((w__law_is_right T).mono (by decide)) hr (fun _ => hgd rfl) psOf rfl T.m__law_is_right T.F__law_is_right.kp T.b__law_is_right (ea_cons (ev_var (i := 1) rfl (by first | exact .inl rfl | exact .inr (.inl rfl) | exact .inr (.inr rfl)) (by decide) (by decide)) (ea_nil) rfl) (by decide) rfl rfl) (fun _ => rfl))) (ew_or1 (et_not (et_tru (ev_callF (gd := false) (k := 9) (ps := ["_law_state"]) ((w__law_refuses T hTB).mono (by decide)) hr (fun h => nomatch h) psOf rfl T.m__law_refuses T.F__law_refuses.kp T.b__law_refuses (ea_cons (ev_var (i := 1) rfl (by first | exact .inl rfl | exact .inr (.inl rfl) | exact .inr (.inr rfl)) (by decide) (by decide)) (ea_nil) rfl) (by decide) rfl rfl) (fun _ => rfl)))))) (svs_one (sv_ret (ev_bl))) (svs_nil))) (fun _ => rfl))
    (svs_one (sv_ret (ev_bl))))
end
end DX

set_option Elab.async false
set_option linter.all false
set_option maxRecDepth 100000
set_option maxHeartbeats 1000000
/-! Mk01: the law. -/
namespace DX
open PySem PySem.Spec PyProof.Rows L2
abbrev hallF : List (Str × Dt) := [("many", .int 1), ("benches", .tup [])]
theorem hall1 (V : Ax) {cs : List Cell} : mNew true (V.A 52) (m_Hall_init_ V) [.dat (.int 1), .dat (.tup [])] cs = .ok (.dat (.obj (V.A 52) hallF)) (cs ++ [.dead]) := by
  have q1 : ∀ cs, m_is_between [.dat (.int 1), .dat (.int 1), .dat (.int 15)] cs = .ok (.dat (.bl true)) cs := fun cs => rfl
  have q2 : ∀ cs, oIsi [.dat (.tup []), .dat (.op (.ty "tuple"))] cs = some (.bl true) := fun cs => rfl
  have q3 : dAll (.lst []) = some (.bl true) := rfl
  have q4 : ∀ cs env, loopC (tName 3) tYesE ce_Hall_init__0 env [] cs = .ok [] cs := fun _ _ => rfl
  have p2 : putFW "benches" (.dat (.tup [])) (putFW "many" (.dat (.int 1)) []) = ([("many", .dat (.int 1)), ("benches", .dat (.tup []))] : List (Str × Wv)) := rfl
  have p1 : (putFW "many" (.dat (.int 1)) []).length < 1000 := by decide
  have p3 : datF ([("many", .dat (.int 1)), ("benches", .dat (.tup []))] : List (Str × Wv)) = some hallF := rfl
  have e : m_Hall_init_ V [.cel cs.length, .dat (.int 1), .dat (.tup [])] (cs ++ [.ins (V.A 52) []]) = .ok (.dat .non) (cs ++ [.ins (V.A 52) [("many", .dat (.int 1)), ("benches", .dat (.tup []))]]) := by
    refine fn_ev ?_
    simp (disch := (first | assumption | omega | (simp only [List.length_cons, List.length_nil, List.length_map, List.length_append, List.length_replicate] <;> omega))) only [rb_ok, rb_exc, rb_bad, rb_ite, m_ret, m_badE, m_opt, m_optn, m_ite, rO_some, rO_none, rW_some, rW_none, rO_map, rW_map, s_var0, s_varS, s_c, s_bin, k_bin, s_lift, s_un, s_liftU, s_eqc, k_eqc, k_eqc2, eq_ii, ne_ii, eq_ss, ne_ss, eq_bb, ne_bb, s_cmpE, s_asB, s_tru, k_tru, rT_some, tru_d, tru_c, dtru_bl, dtru_non, dtru_int, dtru_lst, dtru_tup, s_and, s_or, s_not, k_and, k_or, k_not, s_yes, m_and, m_or, s_eand, k_eand, k_eand2, s_eor, k_eor, k_eor2, s_enot, k_enot, k_enot2, s_if, k_if, m_iteD, m_iteI, m_iteB, m_iteAnd, m_iteOr, m_iteS, s_chain, k_ch, k_ch2, k_ch3, k_ch4, s_anil, s_acons, k_arg, k_arg2, s_tup, s_lst, k_tup, k_lst, rL_some, dats_nil, dats_cons, opt_map_some, opt_map_none, opt_or_some, opt_or_none, opt_bind_some, s_ix, k_ix, k_ix2, wix_dd, wix_cd, ix_t, ix_l, ix_s, cix_l, cix_d, ix_d, at_0, at_1, at_2, s_sl, k_sl, k_sl2, k_sl3, s_onone, s_osome, k_asI, sl_d, sl_c, sl_l, sl_t, cut_hi, cut_lo, cut_lh, s_fn, k_fn0, k_fn1, k_fn2, k_fn3, k_fn4, k_fn5, k_fn6, s_fnp, k_fnp1, k_fnp2, k_fnp2r, k_fnp3, s_call, k_call, s_o1, s_o2, len_d, len_c, len_l, len_t, len_scr, len_s, clen_l, int_i, int_b, min_i, max_i, sq_dl, sq_cl, csq_l, lof_t, lof_l, tof_t, tof_l, s_meth, k_meth, k_meth_str, ok_str, mt_str1, mt_join, d_I0, d_mod, d_div, d_pow, d_shr, d_neg, d_mulL, d_mulR, d_mulS, d_addI, d_addS, d_addL, d_addT, s_seq, k_seq_nx, k_seq_rt, k_seq_bk, k_seq_ct, s_nil, s_ret, k_ret, s_retn, s_brk, s_cnt, s_expr, k_expr, s_sif, k_sif, s_set, k_set, s_asg, k_asg, rE_some, t_name, t_tup, t_cons, t_nil, s_par, k_par, s_par3, k_par3, s_raise, s_put, k_put, k_put2, k_put3, k_put4, put_is, s_for, k_for, s_while, s_iseq, as_l, as_t, as_s, as_scr, s_rg1, s_rg2, k_rg1, k_rg2, s_enum, k_enum_l, k_enum_s, s_zip, k_zip_l, k_zip_t, k_zip_s, s_off, k_of, rD_some, dats_mapd, s_flc, k_lc, wipe_nil, wipe_cons, s_celf, k_celf, s_flst, k_flst, k_fin_rt, k_fin_nx, start_nil, start_cons, repl_0, repl_S, s_caught, s_frz, k_frzd, s_fld, k_fld, s_rgl1, k_rgl1, s_rgl2, k_rgl, k_rgl2, s_flc2, k_lc2, s_new, k_new2, dk_cat, dk_cat2, dk_cat3, dk_nil, dk_cons, dk_val, dk_val2, dk_dicC, dk_dicC2, dk_dic, dk_dic2, dk_rK, dk_dat, dk_datn, eq_nn, ne_nn, lo_l, lo_t, lo_s, dk_frz, dk_rF, dk_cfrz, dk_methc, dk_rLst, dk_app, dk_rApp, dk_ext, dk_rExt, dk_snoc, dk_last, dk_setl, dk_putF, dk_putF2, dk_putF3, dk_putF4, dk_rPF, dk_new, dk_newT, dk_cfrzI, List.set_cons_zero, List.set_cons_succ, List.getElem?_cons_zero, List.getElem?_cons_succ, List.length_cons, List.length_nil, ↓reduceIte, Nat.reduceAdd, decide_eq_true_eq, Bool.not_true, Bool.not_false, Bool.true_and, Bool.false_and, Bool.and_true, Bool.and_false, Bool.or_true, Bool.or_false, Bool.true_or, Bool.false_or, reduceCtorEq, decide_true, decide_false, Bool.false_eq_true, Int.reduceLT, Int.reduceLE, Int.reduceNeg, Int.reduceAdd, Int.reduceSub, Int.reduceMul, Nat.reduceMul, Nat.reduceLeDiff, Nat.zero_add, Bool.not_not, beq_self_eq_true, bne_self_eq_false, not_true_eq_false, not_false_eq_true, Bool.not_eq_true, Option.some.injEq, List.map_cons, List.map_nil, List.isEmpty_cons, List.isEmpty_nil, and_self, and_true, true_and, Int.toNat_natCast, Int.natCast_nonneg, Int.reduceToNat, Int.reduceEq, Int.reduceNe, Nat.reduceLT, Int.reduceBEq, Int.reduceBNe, Bool.not_eq_eq_eq_not, eq_self, if_true, if_false, ite_self, b_Hall_init_, nat_c0, start_cons, start_nil, repl_S, repl_0, q1, q2, q3, wipe_nil, wipe_cons, q4, p2]
  simp (disch := (first | assumption | omega | (simp only [List.length_cons, List.length_nil, List.length_map, List.length_append, List.length_replicate] <;> omega))) only [rb_ok, rb_exc, rb_bad, rb_ite, m_ret, m_badE, m_opt, m_optn, m_ite, rO_some, rO_none, rW_some, rW_none, rO_map, rW_map, s_var0, s_varS, s_c, s_bin, k_bin, s_lift, s_un, s_liftU, s_eqc, k_eqc, k_eqc2, eq_ii, ne_ii, eq_ss, ne_ss, eq_bb, ne_bb, s_cmpE, s_asB, s_tru, k_tru, rT_some, tru_d, tru_c, dtru_bl, dtru_non, dtru_int, dtru_lst, dtru_tup, s_and, s_or, s_not, k_and, k_or, k_not, s_yes, m_and, m_or, s_eand, k_eand, k_eand2, s_eor, k_eor, k_eor2, s_enot, k_enot, k_enot2, s_if, k_if, m_iteD, m_iteI, m_iteB, m_iteAnd, m_iteOr, m_iteS, s_chain, k_ch, k_ch2, k_ch3, k_ch4, s_anil, s_acons, k_arg, k_arg2, s_tup, s_lst, k_tup, k_lst, rL_some, dats_nil, dats_cons, opt_map_some, opt_map_none, opt_or_some, opt_or_none, opt_bind_some, s_ix, k_ix, k_ix2, wix_dd, wix_cd, ix_t, ix_l, ix_s, cix_l, cix_d, ix_d, at_0, at_1, at_2, s_sl, k_sl, k_sl2, k_sl3, s_onone, s_osome, k_asI, sl_d, sl_c, sl_l, sl_t, cut_hi, cut_lo, cut_lh, s_fn, k_fn0, k_fn1, k_fn2, k_fn3, k_fn4, k_fn5, k_fn6, s_fnp, k_fnp1, k_fnp2, k_fnp2r, k_fnp3, s_call, k_call, s_o1, s_o2, len_d, len_c, len_l, len_t, len_scr, len_s, clen_l, int_i, int_b, min_i, max_i, sq_dl, sq_cl, csq_l, lof_t, lof_l, tof_t, tof_l, s_meth, k_meth, k_meth_str, ok_str, mt_str1, mt_join, d_I0, d_mod, d_div, d_pow, d_shr, d_neg, d_mulL, d_mulR, d_mulS, d_addI, d_addS, d_addL, d_addT, s_seq, k_seq_nx, k_seq_rt, k_seq_bk, k_seq_ct, s_nil, s_ret, k_ret, s_retn, s_brk, s_cnt, s_expr, k_expr, s_sif, k_sif, s_set, k_set, s_asg, k_asg, rE_some, t_name, t_tup, t_cons, t_nil, s_par, k_par, s_par3, k_par3, s_raise, s_put, k_put, k_put2, k_put3, k_put4, put_is, s_for, k_for, s_while, s_iseq, as_l, as_t, as_s, as_scr, s_rg1, s_rg2, k_rg1, k_rg2, s_enum, k_enum_l, k_enum_s, s_zip, k_zip_l, k_zip_t, k_zip_s, s_off, k_of, rD_some, dats_mapd, s_flc, k_lc, wipe_nil, wipe_cons, s_celf, k_celf, s_flst, k_flst, k_fin_rt, k_fin_nx, start_nil, start_cons, repl_0, repl_S, s_caught, s_frz, k_frzd, s_fld, k_fld, s_rgl1, k_rgl1, s_rgl2, k_rgl, k_rgl2, s_flc2, k_lc2, s_new, k_new2, dk_cat, dk_cat2, dk_cat3, dk_nil, dk_cons, dk_val, dk_val2, dk_dicC, dk_dicC2, dk_dic, dk_dic2, dk_rK, dk_dat, dk_datn, eq_nn, ne_nn, lo_l, lo_t, lo_s, dk_frz, dk_rF, dk_cfrz, dk_methc, dk_rLst, dk_app, dk_rApp, dk_ext, dk_rExt, dk_snoc, dk_last, dk_setl, dk_putF, dk_putF2, dk_putF3, dk_putF4, dk_rPF, dk_new, dk_newT, dk_cfrzI, List.set_cons_zero, List.set_cons_succ, List.getElem?_cons_zero, List.getElem?_cons_succ, List.length_cons, List.length_nil, ↓reduceIte, Nat.reduceAdd, decide_eq_true_eq, Bool.not_true, Bool.not_false, Bool.true_and, Bool.false_and, Bool.and_true, Bool.and_false, Bool.or_true, Bool.or_false, Bool.true_or, Bool.false_or, reduceCtorEq, decide_true, decide_false, Bool.false_eq_true, Int.reduceLT, Int.reduceLE, Int.reduceNeg, Int.reduceAdd, Int.reduceSub, Int.reduceMul, Nat.reduceMul, Nat.reduceLeDiff, Nat.zero_add, Bool.not_not, beq_self_eq_true, bne_self_eq_false, not_true_eq_false, not_false_eq_true, Bool.not_eq_true, Option.some.injEq, List.map_cons, List.map_nil, List.isEmpty_cons, List.isEmpty_nil, and_self, and_true, true_and, Int.toNat_natCast, Int.natCast_nonneg, Int.reduceToNat, Int.reduceEq, Int.reduceNe, Nat.reduceLT, Int.reduceBEq, Int.reduceBNe, Bool.not_eq_eq_eq_not, eq_self, if_true, if_false, ite_self, e, p3]
theorem map_snoc {l : List Dt} {x : Dt} : l.map Wv.dat ++ [.dat x] = (l ++ [x]).map Wv.dat := by simp
theorem unpack_wd {s : Int} {l : List Nat} {env : En} {i j : Nat} : tTupG 2 (tgCons (tName i) (tgCons (tName j) tgNil)) (wd s l) env = some ((env.set i (some (.dat (.int s)))).set j (some (.dat (.str (strOf l))))) := (rfl)
theorem add_wd {s : Int} {l : List Nat} : dAdd (wdD s l) (.tup [.int 1]) = some (.tup [.int s, .str (strOf l), .int 1]) := (rfl)
def oddL : List Dt := [.str "d", .str "A", .str " ", .str "", .str "0", .str "aa", .str "1", .str "C"]
theorem oddL_is : ∀ x ∈ oddL, ∃ z : Str, x = .str z ∧ z.length ≤ 2 := by
  intro x hx
  simp only [oddL, List.mem_cons, List.not_mem_nil, or_false] at hx
  rcases hx with rfl | rfl | rfl | rfl | rfl | rfl | rfl | rfl <;> exact ⟨_, rfl, by decide⟩
theorem all_same (xs : List Dt) (h : ∀ x ∈ xs, pl1 x = true) (env : En) (cs : List Cell) (he : env.length = 8) : loopC (tName 7) ci__law_judged_0 ce__law_judged_0 env (xs.map .dat) cs = .ok [] cs := by
  have q := lc_filter (t := tName 7) (p := ci__law_judged_0) (f := ce__law_judged_0) (env := env) (cs := cs) (fun x : Dt => .dat x) (fun _ => .int 1) (fun _ => false) xs fun x hx => by
    match env, he with
    | [a0, a1, a2, a3, a4, a5, a6, a7], _ =>
      refine ⟨_, rfl, ?_, fun z => nomatch z⟩
      have q1 := is_word_any (cs := cs) (h x hx)
      have q2 := law_is_word_any (cs := cs) (h x hx)
      have q3 := r_says (b := isW x) (c := isW x) (cs := cs)
      simp (disch := (first | assumption | omega | (simp only [List.length_cons, List.length_nil, List.length_map, List.length_append, List.length_replicate] <;> omega))) only [rb_ok, rb_exc, rb_bad, rb_ite, m_ret, m_badE, m_opt, m_optn, m_ite, rO_some, rO_none, rW_some, rW_none, rO_map, rW_map, s_var0, s_varS, s_c, s_bin, k_bin, s_lift, s_un, s_liftU, s_eqc, k_eqc, k_eqc2, eq_ii, ne_ii, eq_ss, ne_ss, eq_bb, ne_bb, s_cmpE, s_asB, s_tru, k_tru, rT_some, tru_d, tru_c, dtru_bl, dtru_non, dtru_int, dtru_lst, dtru_tup, s_and, s_or, s_not, k_and, k_or, k_not, s_yes, m_and, m_or, s_eand, k_eand, k_eand2, s_eor, k_eor, k_eor2, s_enot, k_enot, k_enot2, s_if, k_if, m_iteD, m_iteI, m_iteB, m_iteAnd, m_iteOr, m_iteS, s_chain, k_ch, k_ch2, k_ch3, k_ch4, s_anil, s_acons, k_arg, k_arg2, s_tup, s_lst, k_tup, k_lst, rL_some, dats_nil, dats_cons, opt_map_some, opt_map_none, opt_or_some, opt_or_none, opt_bind_some, s_ix, k_ix, k_ix2, wix_dd, wix_cd, ix_t, ix_l, ix_s, cix_l, cix_d, ix_d, at_0, at_1, at_2, s_sl, k_sl, k_sl2, k_sl3, s_onone, s_osome, k_asI, sl_d, sl_c, sl_l, sl_t, cut_hi, cut_lo, cut_lh, s_fn, k_fn0, k_fn1, k_fn2, k_fn3, k_fn4, k_fn5, k_fn6, s_fnp, k_fnp1, k_fnp2, k_fnp2r, k_fnp3, s_call, k_call, s_o1, s_o2, len_d, len_c, len_l, len_t, len_scr, len_s, clen_l, int_i, int_b, min_i, max_i, sq_dl, sq_cl, csq_l, lof_t, lof_l, tof_t, tof_l, s_meth, k_meth, k_meth_str, ok_str, mt_str1, mt_join, d_I0, d_mod, d_div, d_pow, d_shr, d_neg, d_mulL, d_mulR, d_mulS, d_addI, d_addS, d_addL, d_addT, s_seq, k_seq_nx, k_seq_rt, k_seq_bk, k_seq_ct, s_nil, s_ret, k_ret, s_retn, s_brk, s_cnt, s_expr, k_expr, s_sif, k_sif, s_set, k_set, s_asg, k_asg, rE_some, t_name, t_tup, t_cons, t_nil, s_par, k_par, s_par3, k_par3, s_raise, s_put, k_put, k_put2, k_put3, k_put4, put_is, s_for, k_for, s_while, s_iseq, as_l, as_t, as_s, as_scr, s_rg1, s_rg2, k_rg1, k_rg2, s_enum, k_enum_l, k_enum_s, s_zip, k_zip_l, k_zip_t, k_zip_s, s_off, k_of, rD_some, dats_mapd, s_flc, k_lc, wipe_nil, wipe_cons, s_celf, k_celf, s_flst, k_flst, k_fin_rt, k_fin_nx, start_nil, start_cons, repl_0, repl_S, s_caught, s_frz, k_frzd, s_fld, k_fld, s_rgl1, k_rgl1, s_rgl2, k_rgl, k_rgl2, s_flc2, k_lc2, s_new, k_new2, dk_cat, dk_cat2, dk_cat3, dk_nil, dk_cons, dk_val, dk_val2, dk_dicC, dk_dicC2, dk_dic, dk_dic2, dk_rK, dk_dat, dk_datn, eq_nn, ne_nn, lo_l, lo_t, lo_s, dk_frz, dk_rF, dk_cfrz, dk_methc, dk_rLst, dk_app, dk_rApp, dk_ext, dk_rExt, dk_snoc, dk_last, dk_setl, dk_putF, dk_putF2, dk_putF3, dk_putF4, dk_rPF, dk_new, dk_newT, dk_cfrzI, List.set_cons_zero, List.set_cons_succ, List.getElem?_cons_zero, List.getElem?_cons_succ, List.length_cons, List.length_nil, ↓reduceIte, Nat.reduceAdd, decide_eq_true_eq, Bool.not_true, Bool.not_false, Bool.true_and, Bool.false_and, Bool.and_true, Bool.and_false, Bool.or_true, Bool.or_false, Bool.true_or, Bool.false_or, reduceCtorEq, decide_true, decide_false, Bool.false_eq_true, Int.reduceLT, Int.reduceLE, Int.reduceNeg, Int.reduceAdd, Int.reduceSub, Int.reduceMul, Nat.reduceMul, Nat.reduceLeDiff, Nat.zero_add, Bool.not_not, beq_self_eq_true, bne_self_eq_false, not_true_eq_false, not_false_eq_true, Bool.not_eq_true, Option.some.injEq, List.map_cons, List.map_nil, List.isEmpty_cons, List.isEmpty_nil, and_self, and_true, true_and, Int.toNat_natCast, Int.natCast_nonneg, Int.reduceToNat, Int.reduceEq, Int.reduceNe, Nat.reduceLT, Int.reduceBEq, Int.reduceBNe, Bool.not_eq_eq_eq_not, eq_self, if_true, if_false, ite_self, ci__law_judged_0, q1, q2, q3]
  rw [q, List.filter_eq_nil_iff.mpr (fun _ _ => Bool.false_ne_true)]
  rfl
theorem r_judged (V : Ax) {cs xt : List Cell} {t : Nat} {a : Wd} {n : Nat} (hs : St cs xt t) (ht : t + 100 < 1000000) (ha : WOk' n a) (h1 : 1 ≤ n) (hn : n ≤ 12) : ∃ cs' xt', m__law_judged V [.cel 1, wd a.s a.l] cs = .ok (.dat (.bl true)) cs' ∧ St cs' xt' (t + 3) := by
  have hl : (strOf a.l).length = n := (strOf_len _).trans ha.len
  obtain ⟨d, cs1, q1, d0, d1, s1⟩ := r_draw (n := (n : Int)) hs (by omega) (by omega) (by omega)
  obtain ⟨x, cs2, q2, hx, s2⟩ := r_pick (l := oddL) s1 (by omega) (by decide) (by decide)
  obtain ⟨z2, rfl, lz2⟩ := oddL_is x hx
  unfold oddL at q2
  obtain ⟨z1, e1, lz1⟩ := slice_some (z := strOf a.l) (lo := none) (hi := some d) (by omega)
  obtain ⟨z3, e3, lz3⟩ := slice_some (z := strOf a.l) (lo := some (d + 1)) (hi := none) (by omega)
  have al1 := append_len z1 z2
  have al2 := append_len (z1 ++ z2) z3
  obtain ⟨b1, b2, b3, b4⟩ := mul_sg ha.sg ha.sg
  have m1 : (strOf a.l).length * (2 : Int).toNat ≤ 16777216 := by rw [hl]; show n * 2 ≤ _; omega
  have m2 : ("1" : Str).length * (12 : Int).toNat ≤ 16777216 := by decide
  have m3 : ("c" : Str).length * (13 : Int).toNat ≤ 16777216 := by decide
  have ml : (Txt.mul (strOf a.l) 2).length ≤ 24 := by
    have := len_mul_k (n := 2) n hl
    simp at this
    omega
  have t1 := add_wd (s := a.s) (l := a.l)
  have s3 := (s2.app [.dead]).app [.dead]
  have s4 := s3.app [.dead]
  obtain ⟨y, cs3, q3, hy, s5⟩ := r_bad_word s4 (by omega)
  have h1' := hall1 V (cs := cs2 ++ [.dead] ++ [.dead])
  obtain ⟨XS, hXS⟩ : ∃ XS : List Dt, XS = [wdD a.s a.l, .tup [.int a.s, .str (z1 ++ z2 ++ z3)], .lst [.int a.s, .str (strOf a.l)], .tup [.str (strOf a.l), .int a.s], .tup [.int a.s, .lst (signD (strOf a.l))], .tup [.int a.s]] ++ [.tup [.int (-a.s), .str (strOf a.l)], .tup [.int (a.s * 2), .str (strOf a.l)], .tup [.bl (decide (a.s = 1)), .str (strOf a.l)], .tup [.int a.s, .str (strOf a.l), .int 1]] ++ [.tup [.int a.s, .str (Txt.mul (strOf a.l) 2)], .obj (V.A 52) hallF, y, .tup [.int a.s, .str (Txt.mul "1" 12)]] ++ [.tup [.int a.s, .str (Txt.mul "c" 13)]] := ⟨_, rfl⟩
  have str1 : ∀ z : Str, z.length ≤ 100 → pl0 (.str z) = true := fun z hz => decide_eq_true (by omega)
  have plall : ∀ x ∈ XS, pl1 x = true := by
    have e : XS.all pl1 = true := by
      rw [hXS]
      simp only [List.all_append, List.all_cons, List.all_nil, Bool.and_true, Bool.and_eq_true]
      refine ⟨⟨⟨⟨ha.p hn, ?_, rfl, ?_, ?_, rfl⟩, ?_, ?_, ?_, ?_⟩, ?_, rfl, badW_pl y hy, ?_⟩, ?_⟩
      · show (true && (pl0 (.str _) && true)) = true
        rw [str1 _ (by omega)]; rfl
      · show (pl0 (.str _) && (true && true)) = true
        rw [str1 _ (by omega)]; rfl
      · rfl
      · show (true && (pl0 (.str _) && true)) = true
        rw [str1 _ (by omega)]; rfl
      · show (true && (pl0 (.str _) && true)) = true
        rw [str1 _ (by omega)]; rfl
      · show (true && (pl0 (.str _) && true)) = true
        rw [str1 _ (by omega)]; rfl
      · show (true && (pl0 (.str _) && (true && true))) = true
        rw [str1 _ (by omega)]; rfl
      · show (true && (pl0 (.str _) && true)) = true
        rw [str1 _ (by omega)]; rfl
      · have := str1 (Txt.mul "1" 12) (by decide +kernel)
        show [Dt.int a.s, Dt.str (Txt.mul "1" 12)].all pl0 = true
        rw [List.all_cons, List.all_cons, this]; rfl
      · have := str1 (Txt.mul "c" 13) (by decide +kernel)
        show [Dt.int a.s, Dt.str (Txt.mul "c" 13)].all pl0 = true
        rw [List.all_cons, List.all_cons, this]; rfl
    exact fun x hx => List.all_eq_true.mp e x hx
  have k1 := is_word_any (cs := cs3 ++ [.lst (XS.map .dat)]) (plall (.tup [.int a.s, .str (z1 ++ z2 ++ z3)]) (by rw [hXS]; simp))
  have k2 := law_is_word_any (cs := cs3 ++ [.lst (XS.map .dat)]) (plall (.tup [.int a.s, .str (z1 ++ z2 ++ z3)]) (by rw [hXS]; simp))
  have k3 := r_says (b := isW (.tup [.int a.s, .str (z1 ++ z2 ++ z3)])) (c := isW (.tup [.int a.s, .str (z1 ++ z2 ++ z3)])) (cs := cs3 ++ [.lst (XS.map .dat)])
  have k4 := all_same XS plall [some (.cel 1), some (wd a.s a.l), some (.dat (.int a.s)), some (.dat (.str (strOf a.l))), some (.dat (.int d)), some (.dat (.str (z1 ++ z2 ++ z3))), some (.cel cs3.length), none] (cs3 ++ [.dead]) rfl
  have hat : atI (XS.map Wv.dat) 1 = some (.dat (.tup [.int a.s, .str (z1 ++ z2 ++ z3)])) := by rw [hXS]; rfl
  have hlen : XS.length = 15 := by rw [hXS]; rfl
  refine ⟨cs3 ++ [.dead], _, fn_ev ?_, (s5.app [.dead]).mono (by omega)⟩
  simp (disch := (first | assumption | omega | (simp only [List.length_cons, List.length_nil, List.length_map, List.length_append, List.length_replicate] <;> omega))) only [rb_ok, rb_exc, rb_bad, rb_ite, m_ret, m_badE, m_opt, m_optn, m_ite, rO_some, rO_none, rW_some, rW_none, rO_map, rW_map, s_var0, s_varS, s_c, s_bin, k_bin, s_lift, s_un, s_liftU, s_eqc, k_eqc, k_eqc2, eq_ii, ne_ii, eq_ss, ne_ss, eq_bb, ne_bb, s_cmpE, s_asB, s_tru, k_tru, rT_some, tru_d, tru_c, dtru_bl, dtru_non, dtru_int, dtru_lst, dtru_tup, s_and, s_or, s_not, k_and, k_or, k_not, s_yes, m_and, m_or, s_eand, k_eand, k_eand2, s_eor, k_eor, k_eor2, s_enot, k_enot, k_enot2, s_if, k_if, m_iteD, m_iteI, m_iteB, m_iteAnd, m_iteOr, m_iteS, s_chain, k_ch, k_ch2, k_ch3, k_ch4, s_anil, s_acons, k_arg, k_arg2, s_tup, s_lst, k_tup, k_lst, rL_some, dats_nil, dats_cons, opt_map_some, opt_map_none, opt_or_some, opt_or_none, opt_bind_some, s_ix, k_ix, k_ix2, wix_dd, wix_cd, ix_t, ix_l, ix_s, cix_l, cix_d, ix_d, at_0, at_1, at_2, s_sl, k_sl, k_sl2, k_sl3, s_onone, s_osome, k_asI, sl_d, sl_c, sl_l, sl_t, cut_hi, cut_lo, cut_lh, s_fn, k_fn0, k_fn1, k_fn2, k_fn3, k_fn4, k_fn5, k_fn6, s_fnp, k_fnp1, k_fnp2, k_fnp2r, k_fnp3, s_call, k_call, s_o1, s_o2, len_d, len_c, len_l, len_t, len_scr, len_s, clen_l, int_i, int_b, min_i, max_i, sq_dl, sq_cl, csq_l, lof_t, lof_l, tof_t, tof_l, s_meth, k_meth, k_meth_str, ok_str, mt_str1, mt_join, d_I0, d_mod, d_div, d_pow, d_shr, d_neg, d_mulL, d_mulR, d_mulS, d_addI, d_addS, d_addL, d_addT, s_seq, k_seq_nx, k_seq_rt, k_seq_bk, k_seq_ct, s_nil, s_ret, k_ret, s_retn, s_brk, s_cnt, s_expr, k_expr, s_sif, k_sif, s_set, k_set, s_asg, k_asg, rE_some, t_name, t_tup, t_cons, t_nil, s_par, k_par, s_par3, k_par3, s_raise, s_put, k_put, k_put2, k_put3, k_put4, put_is, s_for, k_for, s_while, s_iseq, as_l, as_t, as_s, as_scr, s_rg1, s_rg2, k_rg1, k_rg2, s_enum, k_enum_l, k_enum_s, s_zip, k_zip_l, k_zip_t, k_zip_s, s_off, k_of, rD_some, dats_mapd, s_flc, k_lc, wipe_nil, wipe_cons, s_celf, k_celf, s_flst, k_flst, k_fin_rt, k_fin_nx, start_nil, start_cons, repl_0, repl_S, s_caught, s_frz, k_frzd, s_fld, k_fld, s_rgl1, k_rgl1, s_rgl2, k_rgl, k_rgl2, s_flc2, k_lc2, s_new, k_new2, dk_cat, dk_cat2, dk_cat3, dk_nil, dk_cons, dk_val, dk_val2, dk_dicC, dk_dicC2, dk_dic, dk_dic2, dk_rK, dk_dat, dk_datn, eq_nn, ne_nn, lo_l, lo_t, lo_s, dk_frz, dk_rF, dk_cfrz, dk_methc, dk_rLst, dk_app, dk_rApp, dk_ext, dk_rExt, dk_snoc, dk_last, dk_setl, dk_putF, dk_putF2, dk_putF3, dk_putF4, dk_rPF, dk_newT, dk_cfrzI, List.set_cons_zero, List.set_cons_succ, List.getElem?_cons_zero, List.getElem?_cons_succ, List.length_cons, List.length_nil, ↓reduceIte, Nat.reduceAdd, decide_eq_true_eq, Bool.not_true, Bool.not_false, Bool.true_and, Bool.false_and, Bool.and_true, Bool.and_false, Bool.or_true, Bool.or_false, Bool.true_or, Bool.false_or, reduceCtorEq, decide_true, decide_false, Bool.false_eq_true, Int.reduceLT, Int.reduceLE, Int.reduceNeg, Int.reduceAdd, Int.reduceSub, Int.reduceMul, Nat.reduceMul, Nat.reduceLeDiff, Nat.zero_add, Bool.not_not, beq_self_eq_true, bne_self_eq_false, not_true_eq_false, not_false_eq_true, Bool.not_eq_true, Option.some.injEq, List.map_cons, List.map_nil, List.isEmpty_cons, List.isEmpty_nil, and_self, and_true, true_and, Int.toNat_natCast, Int.natCast_nonneg, Int.reduceToNat, Int.reduceEq, Int.reduceNe, Nat.reduceLT, Int.reduceBEq, Int.reduceBNe, Bool.not_eq_eq_eq_not, eq_self, if_true, if_false, ite_self, b__law_judged, map_snoc, start_cons, start_nil, repl_S, repl_0, unpack_wd, hl, q1, e1, q2, al1, e3, t1, h1', q3]
  rw [← hXS]
  simp (disch := (first | assumption | omega | (simp only [List.length_cons, List.length_nil, List.length_map, List.length_append, List.length_replicate] <;> omega))) only [rb_ok, rb_exc, rb_bad, rb_ite, m_ret, m_badE, m_opt, m_optn, m_ite, rO_some, rO_none, rW_some, rW_none, rO_map, rW_map, s_var0, s_varS, s_c, s_bin, k_bin, s_lift, s_un, s_liftU, s_eqc, k_eqc, k_eqc2, eq_ii, ne_ii, eq_ss, ne_ss, eq_bb, ne_bb, s_cmpE, s_asB, s_tru, k_tru, rT_some, tru_d, tru_c, dtru_bl, dtru_non, dtru_int, dtru_lst, dtru_tup, s_and, s_or, s_not, k_and, k_or, k_not, s_yes, m_and, m_or, s_eand, k_eand, k_eand2, s_eor, k_eor, k_eor2, s_enot, k_enot, k_enot2, s_if, k_if, m_iteD, m_iteI, m_iteB, m_iteAnd, m_iteOr, m_iteS, s_chain, k_ch, k_ch2, k_ch3, k_ch4, s_anil, s_acons, k_arg, k_arg2, s_tup, s_lst, k_tup, k_lst, rL_some, dats_nil, dats_cons, opt_map_some, opt_map_none, opt_or_some, opt_or_none, opt_bind_some, s_ix, k_ix, k_ix2, wix_dd, wix_cd, ix_t, ix_l, ix_s, cix_l, cix_d, ix_d, at_0, at_1, at_2, s_sl, k_sl, k_sl2, k_sl3, s_onone, s_osome, k_asI, sl_d, sl_c, sl_l, sl_t, cut_hi, cut_lo, cut_lh, s_fn, k_fn0, k_fn1, k_fn2, k_fn3, k_fn4, k_fn5, k_fn6, s_fnp, k_fnp1, k_fnp2, k_fnp2r, k_fnp3, s_call, k_call, s_o1, s_o2, len_d, len_c, len_l, len_t, len_scr, len_s, clen_l, int_i, int_b, min_i, max_i, sq_dl, sq_cl, csq_l, lof_t, lof_l, tof_t, tof_l, s_meth, k_meth, k_meth_str, ok_str, mt_str1, mt_join, d_I0, d_mod, d_div, d_pow, d_shr, d_neg, d_mulL, d_mulR, d_mulS, d_addI, d_addS, d_addL, d_addT, s_seq, k_seq_nx, k_seq_rt, k_seq_bk, k_seq_ct, s_nil, s_ret, k_ret, s_retn, s_brk, s_cnt, s_expr, k_expr, s_sif, k_sif, s_set, k_set, s_asg, k_asg, rE_some, t_name, t_tup, t_cons, t_nil, s_par, k_par, s_par3, k_par3, s_raise, s_put, k_put, k_put2, k_put3, k_put4, put_is, s_for, k_for, s_while, s_iseq, as_l, as_t, as_s, as_scr, s_rg1, s_rg2, k_rg1, k_rg2, s_enum, k_enum_l, k_enum_s, s_zip, k_zip_l, k_zip_t, k_zip_s, s_off, k_of, rD_some, dats_mapd, s_flc, k_lc, wipe_nil, wipe_cons, s_celf, k_celf, s_flst, k_flst, k_fin_rt, k_fin_nx, start_nil, start_cons, repl_0, repl_S, s_caught, s_frz, k_frzd, s_fld, k_fld, s_rgl1, k_rgl1, s_rgl2, k_rgl, k_rgl2, s_flc2, k_lc2, s_new, k_new2, dk_cat, dk_cat2, dk_cat3, dk_nil, dk_cons, dk_val, dk_val2, dk_dicC, dk_dicC2, dk_dic, dk_dic2, dk_rK, dk_dat, dk_datn, eq_nn, ne_nn, lo_l, lo_t, lo_s, dk_frz, dk_rF, dk_cfrz, dk_methc, dk_rLst, dk_app, dk_rApp, dk_ext, dk_rExt, dk_snoc, dk_last, dk_setl, dk_putF, dk_putF2, dk_putF3, dk_putF4, dk_rPF, dk_new, dk_newT, dk_cfrzI, List.set_cons_zero, List.set_cons_succ, List.getElem?_cons_zero, List.getElem?_cons_succ, List.length_cons, List.length_nil, ↓reduceIte, Nat.reduceAdd, decide_eq_true_eq, Bool.not_true, Bool.not_false, Bool.true_and, Bool.false_and, Bool.and_true, Bool.and_false, Bool.or_true, Bool.or_false, Bool.true_or, Bool.false_or, reduceCtorEq, decide_true, decide_false, Bool.false_eq_true, Int.reduceLT, Int.reduceLE, Int.reduceNeg, Int.reduceAdd, Int.reduceSub, Int.reduceMul, Nat.reduceMul, Nat.reduceLeDiff, Nat.zero_add, Bool.not_not, beq_self_eq_true, bne_self_eq_false, not_true_eq_false, not_false_eq_true, Bool.not_eq_true, Option.some.injEq, List.map_cons, List.map_nil, List.isEmpty_cons, List.isEmpty_nil, and_self, and_true, true_and, Int.toNat_natCast, Int.natCast_nonneg, Int.reduceToNat, Int.reduceEq, Int.reduceNe, Nat.reduceLT, Int.reduceBEq, Int.reduceBNe, Bool.not_eq_eq_eq_not, eq_self, if_true, if_false, ite_self, hat, k1, k2, k3, wipe_nil, wipe_cons, dats_mapd, k4]

theorem c_one {x : Nat} (h : x < 4) : (⟨#[chr4 x]⟩ : Str) = "1" ↔ x = 0 := by
  have hs : ∀ a : Fin 4, (decide ((⟨#[chr4 a.val]⟩ : Str) = "1")) = decide (a.val = 0) := by decide +kernel
  have := hs ⟨x, h⟩
  simpa using this
theorem c_two {x y : Nat} (h : x < 4) (h2 : y < 4) : (⟨#[chr4 x]⟩ : Str) = ⟨#[chr4 y]⟩ ↔ x = y := by
  have hs : ∀ a b : Fin 4, (decide ((⟨#[chr4 a.val]⟩ : Str) = ⟨#[chr4 b.val]⟩)) = decide (a.val = b.val) := by decide +kernel
  have := hs ⟨x, h⟩ ⟨y, h2⟩
  simpa using this
theorem unl_loop (A0 A1 A2 A3 : Option Wv) (cs : List Cell) : ∀ (l m : List Nat) (k : Nat) (e5 e6 : Option Wv), Fig l → Fig m → ∃ f5 f6, loopS (tTupG 2 (tgCons (tName 5) (tgCons (tName 6) tgNil))) lb__law_is_right_0 ((l.zip m).map fun q => .dat (.tup [.str ⟨#[chr4 q.1]⟩, .str ⟨#[chr4 q.2]⟩])) [A0, A1, A2, A3, some (.dat (.int k)), e5, e6, none, none, none, none, none] cs = .ok (.nx [A0, A1, A2, A3, some (.dat (.int ((k + unl l m : Nat) : Int))), f5, f6, none, none, none, none, none]) cs
  | [], m, k, e5, e6, _, _ => ⟨e5, e6, by simp [unl, loopS, M.ret]⟩
  | _ :: _, [], k, e5, e6, _, _ => ⟨e5, e6, by simp [unl, loopS, M.ret]⟩
  | x :: l, y :: m, k, e5, e6, fl, fm => by
    have hx := fl x List.mem_cons_self
    have hy := fm y List.mem_cons_self
    obtain ⟨f5, f6, ih⟩ := unl_loop A0 A1 A2 A3 cs l m (k + if x ≠ 0 ∧ y ≠ 0 ∧ x ≠ y then 1 else 0) (some (.dat (.str ⟨#[chr4 x]⟩))) (some (.dat (.str ⟨#[chr4 y]⟩))) (fig_tl fl) (fig_tl fm)
    refine ⟨f5, f6, ?_⟩
    have e : unl (x :: l) (y :: m) = (if x ≠ 0 ∧ y ≠ 0 ∧ x ≠ y then 1 else 0) + unl l m := by simp [unl]
    have b1 : lb__law_is_right_0 [A0, A1, A2, A3, some (.dat (.int k)), some (.dat (.str ⟨#[chr4 x]⟩)), some (.dat (.str ⟨#[chr4 y]⟩)), none, none, none, none, none] cs = .ok (.nx [A0, A1, A2, A3, some (.dat (.int ((k + if x ≠ 0 ∧ y ≠ 0 ∧ x ≠ y then 1 else 0 : Nat) : Int))), some (.dat (.str ⟨#[chr4 x]⟩)), some (.dat (.str ⟨#[chr4 y]⟩)), none, none, none, none, none]) cs := by
      have c1 := propext (c_one hx)
      have c2 := propext (c_one hy)
      have c3 := propext (c_two hx hy)
      simp (disch := (first | assumption | omega | (simp only [List.length_cons, List.length_nil, List.length_map, List.length_append, List.length_replicate] <;> omega))) only [rb_ok, rb_exc, rb_bad, rb_ite, m_ret, m_badE, m_opt, m_optn, m_ite, rO_some, rO_none, rW_some, rW_none, rO_map, rW_map, s_var0, s_varS, s_c, s_bin, k_bin, s_lift, s_un, s_liftU, s_eqc, k_eqc, k_eqc2, eq_ii, ne_ii, eq_ss, ne_ss, eq_bb, ne_bb, s_cmpE, s_asB, s_tru, k_tru, rT_some, tru_d, tru_c, dtru_bl, dtru_non, dtru_int, dtru_lst, dtru_tup, s_and, s_or, s_not, k_and, k_or, k_not, s_yes, m_and, m_or, s_eand, k_eand, k_eand2, s_eor, k_eor, k_eor2, s_enot, k_enot, k_enot2, s_if, k_if, m_iteD, m_iteI, m_iteB, m_iteAnd, m_iteOr, m_iteS, s_chain, k_ch, k_ch2, k_ch3, k_ch4, s_anil, s_acons, k_arg, k_arg2, s_tup, s_lst, k_tup, k_lst, rL_some, dats_nil, dats_cons, opt_map_some, opt_map_none, opt_or_some, opt_or_none, opt_bind_some, s_ix, k_ix, k_ix2, wix_dd, wix_cd, ix_t, ix_l, ix_s, cix_l, cix_d, ix_d, at_0, at_1, at_2, s_sl, k_sl, k_sl2, k_sl3, s_onone, s_osome, k_asI, sl_d, sl_c, sl_l, sl_t, cut_hi, cut_lo, cut_lh, s_fn, k_fn0, k_fn1, k_fn2, k_fn3, k_fn4, k_fn5, k_fn6, s_fnp, k_fnp1, k_fnp2, k_fnp2r, k_fnp3, s_call, k_call, s_o1, s_o2, len_d, len_c, len_l, len_t, len_scr, len_s, clen_l, int_i, int_b, min_i, max_i, sq_dl, sq_cl, csq_l, lof_t, lof_l, tof_t, tof_l, s_meth, k_meth, k_meth_str, ok_str, mt_str1, mt_join, d_I0, d_mod, d_div, d_pow, d_shr, d_neg, d_mulL, d_mulR, d_mulS, d_addI, d_addS, d_addL, d_addT, s_seq, k_seq_nx, k_seq_rt, k_seq_bk, k_seq_ct, s_nil, s_ret, k_ret, s_retn, s_brk, s_cnt, s_expr, k_expr, s_sif, k_sif, s_set, k_set, s_asg, k_asg, rE_some, t_name, t_tup, t_cons, t_nil, s_par, k_par, s_par3, k_par3, s_raise, s_put, k_put, k_put2, k_put3, k_put4, put_is, s_for, k_for, s_while, s_iseq, as_l, as_t, as_s, as_scr, s_rg1, s_rg2, k_rg1, k_rg2, s_enum, k_enum_l, k_enum_s, s_zip, k_zip_l, k_zip_t, k_zip_s, s_off, k_of, rD_some, dats_mapd, s_flc, k_lc, wipe_nil, wipe_cons, s_celf, k_celf, s_flst, k_flst, k_fin_rt, k_fin_nx, start_nil, start_cons, repl_0, repl_S, s_caught, s_frz, k_frzd, s_fld, k_fld, s_rgl1, k_rgl1, s_rgl2, k_rgl, k_rgl2, s_flc2, k_lc2, s_new, k_new2, dk_cat, dk_cat2, dk_cat3, dk_nil, dk_cons, dk_val, dk_val2, dk_dicC, dk_dicC2, dk_dic, dk_dic2, dk_rK, dk_dat, dk_datn, eq_nn, ne_nn, lo_l, lo_t, lo_s, dk_frz, dk_rF, dk_cfrz, dk_methc, dk_rLst, dk_app, dk_rApp, dk_ext, dk_rExt, dk_snoc, dk_last, dk_setl, dk_putF, dk_putF2, dk_putF3, dk_putF4, dk_rPF, dk_new, dk_newT, dk_cfrzI, List.set_cons_zero, List.set_cons_succ, List.getElem?_cons_zero, List.getElem?_cons_succ, List.length_cons, List.length_nil, ↓reduceIte, Nat.reduceAdd, decide_eq_true_eq, Bool.not_true, Bool.not_false, Bool.true_and, Bool.false_and, Bool.and_true, Bool.and_false, Bool.or_true, Bool.or_false, Bool.true_or, Bool.false_or, reduceCtorEq, decide_true, decide_false, Bool.false_eq_true, Int.reduceLT, Int.reduceLE, Int.reduceNeg, Int.reduceAdd, Int.reduceSub, Int.reduceMul, Nat.reduceMul, Nat.reduceLeDiff, Nat.zero_add, Bool.not_not, beq_self_eq_true, bne_self_eq_false, not_true_eq_false, not_false_eq_true, Bool.not_eq_true, Option.some.injEq, List.map_cons, List.map_nil, List.isEmpty_cons, List.isEmpty_nil, and_self, and_true, true_and, Int.toNat_natCast, Int.natCast_nonneg, Int.reduceToNat, Int.reduceEq, Int.reduceNe, Nat.reduceLT, Int.reduceBEq, Int.reduceBNe, Bool.not_eq_eq_eq_not, eq_self, if_true, if_false, ite_self, lb__law_is_right_0, c1, c2, c3]
      by_cases h1 : x = 0 <;> by_cases h2 : y = 0 <;> by_cases h3 : x = y <;> simp [h1, h2, h3]
    rw [List.zip_cons_cons, List.map_cons, loopS, mb]
    simp (disch := (first | assumption | omega | (simp only [List.length_cons, List.length_nil, List.length_map, List.length_append, List.length_replicate] <;> omega))) only [rb_ok, rb_exc, rb_bad, rb_ite, m_ret, m_badE, m_opt, m_optn, m_ite, rO_some, rO_none, rW_some, rW_none, rO_map, rW_map, s_var0, s_varS, s_c, s_bin, k_bin, s_lift, s_un, s_liftU, s_eqc, k_eqc, k_eqc2, eq_ii, ne_ii, eq_ss, ne_ss, eq_bb, ne_bb, s_cmpE, s_asB, s_tru, k_tru, rT_some, tru_d, tru_c, dtru_bl, dtru_non, dtru_int, dtru_lst, dtru_tup, s_and, s_or, s_not, k_and, k_or, k_not, s_yes, m_and, m_or, s_eand, k_eand, k_eand2, s_eor, k_eor, k_eor2, s_enot, k_enot, k_enot2, s_if, k_if, m_iteD, m_iteI, m_iteB, m_iteAnd, m_iteOr, m_iteS, s_chain, k_ch, k_ch2, k_ch3, k_ch4, s_anil, s_acons, k_arg, k_arg2, s_tup, s_lst, k_tup, k_lst, rL_some, dats_nil, dats_cons, opt_map_some, opt_map_none, opt_or_some, opt_or_none, opt_bind_some, s_ix, k_ix, k_ix2, wix_dd, wix_cd, ix_t, ix_l, ix_s, cix_l, cix_d, ix_d, at_0, at_1, at_2, s_sl, k_sl, k_sl2, k_sl3, s_onone, s_osome, k_asI, sl_d, sl_c, sl_l, sl_t, cut_hi, cut_lo, cut_lh, s_fn, k_fn0, k_fn1, k_fn2, k_fn3, k_fn4, k_fn5, k_fn6, s_fnp, k_fnp1, k_fnp2, k_fnp2r, k_fnp3, s_call, k_call, s_o1, s_o2, len_d, len_c, len_l, len_t, len_scr, len_s, clen_l, int_i, int_b, min_i, max_i, sq_dl, sq_cl, csq_l, lof_t, lof_l, tof_t, tof_l, s_meth, k_meth, k_meth_str, ok_str, mt_str1, mt_join, d_I0, d_mod, d_div, d_pow, d_shr, d_neg, d_mulL, d_mulR, d_mulS, d_addI, d_addS, d_addL, d_addT, s_seq, k_seq_nx, k_seq_rt, k_seq_bk, k_seq_ct, s_nil, s_ret, k_ret, s_retn, s_brk, s_cnt, s_expr, k_expr, s_sif, k_sif, s_set, k_set, s_asg, k_asg, rE_some, t_name, t_tup, t_cons, t_nil, s_par, k_par, s_par3, k_par3, s_raise, s_put, k_put, k_put2, k_put3, k_put4, put_is, s_for, k_for, s_while, s_iseq, as_l, as_t, as_s, as_scr, s_rg1, s_rg2, k_rg1, k_rg2, s_enum, k_enum_l, k_enum_s, s_zip, k_zip_l, k_zip_t, k_zip_s, s_off, k_of, rD_some, dats_mapd, s_flc, k_lc, wipe_nil, wipe_cons, s_celf, k_celf, s_flst, k_flst, k_fin_rt, k_fin_nx, start_nil, start_cons, repl_0, repl_S, s_caught, s_frz, k_frzd, s_fld, k_fld, s_rgl1, k_rgl1, s_rgl2, k_rgl, k_rgl2, s_flc2, k_lc2, s_new, k_new2, dk_cat, dk_cat2, dk_cat3, dk_nil, dk_cons, dk_val, dk_val2, dk_dicC, dk_dicC2, dk_dic, dk_dic2, dk_rK, dk_dat, dk_datn, eq_nn, ne_nn, lo_l, lo_t, lo_s, dk_frz, dk_rF, dk_cfrz, dk_methc, dk_rLst, dk_app, dk_rApp, dk_ext, dk_rExt, dk_snoc, dk_last, dk_setl, dk_putF, dk_putF2, dk_putF3, dk_putF4, dk_rPF, dk_new, dk_newT, dk_cfrzI, List.set_cons_zero, List.set_cons_succ, List.getElem?_cons_zero, List.getElem?_cons_succ, List.length_cons, List.length_nil, ↓reduceIte, Nat.reduceAdd, decide_eq_true_eq, Bool.not_true, Bool.not_false, Bool.true_and, Bool.false_and, Bool.and_true, Bool.and_false, Bool.or_true, Bool.or_false, Bool.true_or, Bool.false_or, reduceCtorEq, decide_true, decide_false, Bool.false_eq_true, Int.reduceLT, Int.reduceLE, Int.reduceNeg, Int.reduceAdd, Int.reduceSub, Int.reduceMul, Nat.reduceMul, Nat.reduceLeDiff, Nat.zero_add, Bool.not_not, beq_self_eq_true, bne_self_eq_false, not_true_eq_false, not_false_eq_true, Bool.not_eq_true, Option.some.injEq, List.map_cons, List.map_nil, List.isEmpty_cons, List.isEmpty_nil, and_self, and_true, true_and, Int.toNat_natCast, Int.natCast_nonneg, Int.reduceToNat, Int.reduceEq, Int.reduceNe, Nat.reduceLT, Int.reduceBEq, Int.reduceBNe, Bool.not_eq_eq_eq_not, eq_self, if_true, if_false, ite_self, mb, b1, ih]
    rw [e, Nat.add_assoc]
theorem gp_comm (l m : List Nat) : gp m l = gp l m := by
  unfold gp
  cases cross l m <;> cases cross m l <;> rfl
theorem sg_neg {s : Int} (h : Sg s) : Sg (-s) := by rcases h with rfl | rfl <;> simp [Sg]
theorem minus_ok {n : Nat} {a : Wd} (h : WOk' n a) : WOk' n ⟨-a.s, a.l⟩ := ⟨sg_neg h.sg, h.len, h.fig⟩
theorem pu_sw {a b : Wd} (ha : Sg a.s) (hb : Sg b.s) : pu a b = if gp a.l b.l = true then pu b a else ⟨-(pu b a).s, (pu b a).l⟩ := by
  unfold pu gp
  rw [zx_comm b.l a.l]
  unfold ps
  rcases ha with h | h <;> rcases hb with h2 | h2 <;> rw [h, h2] <;> cases cross a.l b.l <;> cases cross b.l a.l <;> rfl
theorem zx_self : ∀ l : List Nat, zx l l = List.replicate l.length 0
  | [] => rfl
  | x :: l => by
    show (x ^^^ x) :: zx l l = 0 :: List.replicate l.length 0
    rw [zx_self l, Nat.xor_self]
theorem pu_self {n : Nat} {a : Wd} (ha : WOk' n a) : pu a a = nothing n (if (!cross a.l a.l) = true then 1 else -1) := by
  unfold pu nothing
  rw [zx_self, ha.len]
  congr 1
  unfold ps
  rcases ha.sg with h | h <;> rw [h] <;> cases cross a.l a.l <;> rfl
theorem nothing_ok (n : Nat) {s : Int} (h : Sg s) : WOk' n (nothing n s) := ⟨h, by simp [nothing], by intro x hx; simp [nothing] at hx; omega⟩
theorem r_is_right (V : Ax) {cs xt : List Cell} {t : Nat} (hs : St cs xt t) (ht : t + 1000 < 1000000) : ∃ cs' xt', m__law_is_right V [.cel 1] cs = .ok (.dat (.bl true)) cs' ∧ St cs' xt' (t + 100) := by
  obtain ⟨d0, cs1, q1, l0, u0, s1⟩ := r_draw (n := 12) hs (by omega) (by omega) (by omega)
  obtain ⟨n, hn⟩ : ∃ n : Nat, 1 + d0 = n := ⟨(1 + d0).toNat, by omega⟩
  obtain ⟨a, cs2, q2, oa, s2⟩ := r_word (n := n) s1 (by omega) (by omega)
  obtain ⟨b0, cs3, q3, ob0, s3⟩ := r_word (n := n) s2 (by omega) (by omega)
  obtain ⟨d3, cs4, q4, l3, u3, s4⟩ := r_draw (n := 4) s3 (by omega) (by omega) (by omega)
  have n1 : 1 ≤ n := by omega
  have n12 : n ≤ 12 := by omega
  have hif : ∃ b : Wd, WOk' n b ∧ sIf (tCmpE (eEqC false (eFn 2 (m__law_draw) (aCons (eVar 0) (aCons (eC (.int 4)) (aNil)))) (eC (.int 0)))) (sSet 3 (eFn 1 (m__law_minus) (aCons (eVar 2) (aNil)))) (sNil) [some (.cel 1), some (.dat (.int n)), some (wd a.s a.l), some (wd b0.s b0.l), none, none, none, none, none, none, none, none] cs3 = .ok (.nx [some (.cel 1), some (.dat (.int n)), some (wd a.s a.l), some (wd b.s b.l), none, none, none, none, none, none, none, none]) cs4 := by
    have mn := r_minus (s := a.s) (l := a.l) (cs := cs4)
    by_cases hd : d3 = 0
    · refine ⟨⟨-a.s, a.l⟩, minus_ok oa, ?_⟩
      subst hd
      simp (disch := (first | assumption | omega | (simp only [List.length_cons, List.length_nil, List.length_map, List.length_append, List.length_replicate] <;> omega))) only [rb_ok, rb_exc, rb_bad, rb_ite, m_ret, m_badE, m_opt, m_optn, m_ite, rO_some, rO_none, rW_some, rW_none, rO_map, rW_map, s_var0, s_varS, s_c, s_bin, k_bin, s_lift, s_un, s_liftU, s_eqc, k_eqc, k_eqc2, eq_ii, ne_ii, eq_ss, ne_ss, eq_bb, ne_bb, s_cmpE, s_asB, s_tru, k_tru, rT_some, tru_d, tru_c, dtru_bl, dtru_non, dtru_int, dtru_lst, dtru_tup, s_and, s_or, s_not, k_and, k_or, k_not, s_yes, m_and, m_or, s_eand, k_eand, k_eand2, s_eor, k_eor, k_eor2, s_enot, k_enot, k_enot2, s_if, k_if, m_iteD, m_iteI, m_iteB, m_iteAnd, m_iteOr, m_iteS, s_chain, k_ch, k_ch2, k_ch3, k_ch4, s_anil, s_acons, k_arg, k_arg2, s_tup, s_lst, k_tup, k_lst, rL_some, dats_nil, dats_cons, opt_map_some, opt_map_none, opt_or_some, opt_or_none, opt_bind_some, s_ix, k_ix, k_ix2, wix_dd, wix_cd, ix_t, ix_l, ix_s, cix_l, cix_d, ix_d, at_0, at_1, at_2, s_sl, k_sl, k_sl2, k_sl3, s_onone, s_osome, k_asI, sl_d, sl_c, sl_l, sl_t, cut_hi, cut_lo, cut_lh, s_fn, k_fn0, k_fn1, k_fn2, k_fn3, k_fn4, k_fn5, k_fn6, s_fnp, k_fnp1, k_fnp2, k_fnp2r, k_fnp3, s_call, k_call, s_o1, s_o2, len_d, len_c, len_l, len_t, len_scr, len_s, clen_l, int_i, int_b, min_i, max_i, sq_dl, sq_cl, csq_l, lof_t, lof_l, tof_t, tof_l, s_meth, k_meth, k_meth_str, ok_str, mt_str1, mt_join, d_I0, d_mod, d_div, d_pow, d_shr, d_neg, d_mulL, d_mulR, d_mulS, d_addI, d_addS, d_addL, d_addT, s_seq, k_seq_nx, k_seq_rt, k_seq_bk, k_seq_ct, s_nil, s_ret, k_ret, s_retn, s_brk, s_cnt, s_expr, k_expr, s_sif, k_sif, s_set, k_set, s_asg, k_asg, rE_some, t_name, t_tup, t_cons, t_nil, s_par, k_par, s_par3, k_par3, s_raise, s_put, k_put, k_put2, k_put3, k_put4, put_is, s_for, k_for, s_while, s_iseq, as_l, as_t, as_s, as_scr, s_rg1, s_rg2, k_rg1, k_rg2, s_enum, k_enum_l, k_enum_s, s_zip, k_zip_l, k_zip_t, k_zip_s, s_off, k_of, rD_some, dats_mapd, s_flc, k_lc, wipe_nil, wipe_cons, s_celf, k_celf, s_flst, k_flst, k_fin_rt, k_fin_nx, start_nil, start_cons, repl_0, repl_S, s_caught, s_frz, k_frzd, s_fld, k_fld, s_rgl1, k_rgl1, s_rgl2, k_rgl, k_rgl2, s_flc2, k_lc2, s_new, k_new2, dk_cat, dk_cat2, dk_cat3, dk_nil, dk_cons, dk_val, dk_val2, dk_dicC, dk_dicC2, dk_dic, dk_dic2, dk_rK, dk_dat, dk_datn, eq_nn, ne_nn, lo_l, lo_t, lo_s, dk_frz, dk_rF, dk_cfrz, dk_methc, dk_rLst, dk_app, dk_rApp, dk_ext, dk_rExt, dk_snoc, dk_last, dk_setl, dk_putF, dk_putF2, dk_putF3, dk_putF4, dk_rPF, dk_new, dk_newT, dk_cfrzI, List.set_cons_zero, List.set_cons_succ, List.getElem?_cons_zero, List.getElem?_cons_succ, List.length_cons, List.length_nil, ↓reduceIte, Nat.reduceAdd, decide_eq_true_eq, Bool.not_true, Bool.not_false, Bool.true_and, Bool.false_and, Bool.and_true, Bool.and_false, Bool.or_true, Bool.or_false, Bool.true_or, Bool.false_or, reduceCtorEq, decide_true, decide_false, Bool.false_eq_true, Int.reduceLT, Int.reduceLE, Int.reduceNeg, Int.reduceAdd, Int.reduceSub, Int.reduceMul, Nat.reduceMul, Nat.reduceLeDiff, Nat.zero_add, Bool.not_not, beq_self_eq_true, bne_self_eq_false, not_true_eq_false, not_false_eq_true, Bool.not_eq_true, Option.some.injEq, List.map_cons, List.map_nil, List.isEmpty_cons, List.isEmpty_nil, and_self, and_true, true_and, Int.toNat_natCast, Int.natCast_nonneg, Int.reduceToNat, Int.reduceEq, Int.reduceNe, Nat.reduceLT, Int.reduceBEq, Int.reduceBNe, Bool.not_eq_eq_eq_not, eq_self, if_true, if_false, ite_self, q4, mn]
    · refine ⟨b0, ob0, ?_⟩
      simp (disch := (first | assumption | omega | (simp only [List.length_cons, List.length_nil, List.length_map, List.length_append, List.length_replicate] <;> omega))) only [rb_ok, rb_exc, rb_bad, rb_ite, m_ret, m_badE, m_opt, m_optn, m_ite, rO_some, rO_none, rW_some, rW_none, rO_map, rW_map, s_var0, s_varS, s_c, s_bin, k_bin, s_lift, s_un, s_liftU, s_eqc, k_eqc, k_eqc2, eq_ii, ne_ii, eq_ss, ne_ss, eq_bb, ne_bb, s_cmpE, s_asB, s_tru, k_tru, rT_some, tru_d, tru_c, dtru_bl, dtru_non, dtru_int, dtru_lst, dtru_tup, s_and, s_or, s_not, k_and, k_or, k_not, s_yes, m_and, m_or, s_eand, k_eand, k_eand2, s_eor, k_eor, k_eor2, s_enot, k_enot, k_enot2, s_if, k_if, m_iteD, m_iteI, m_iteB, m_iteAnd, m_iteOr, m_iteS, s_chain, k_ch, k_ch2, k_ch3, k_ch4, s_anil, s_acons, k_arg, k_arg2, s_tup, s_lst, k_tup, k_lst, rL_some, dats_nil, dats_cons, opt_map_some, opt_map_none, opt_or_some, opt_or_none, opt_bind_some, s_ix, k_ix, k_ix2, wix_dd, wix_cd, ix_t, ix_l, ix_s, cix_l, cix_d, ix_d, at_0, at_1, at_2, s_sl, k_sl, k_sl2, k_sl3, s_onone, s_osome, k_asI, sl_d, sl_c, sl_l, sl_t, cut_hi, cut_lo, cut_lh, s_fn, k_fn0, k_fn1, k_fn2, k_fn3, k_fn4, k_fn5, k_fn6, s_fnp, k_fnp1, k_fnp2, k_fnp2r, k_fnp3, s_call, k_call, s_o1, s_o2, len_d, len_c, len_l, len_t, len_scr, len_s, clen_l, int_i, int_b, min_i, max_i, sq_dl, sq_cl, csq_l, lof_t, lof_l, tof_t, tof_l, s_meth, k_meth, k_meth_str, ok_str, mt_str1, mt_join, d_I0, d_mod, d_div, d_pow, d_shr, d_neg, d_mulL, d_mulR, d_mulS, d_addI, d_addS, d_addL, d_addT, s_seq, k_seq_nx, k_seq_rt, k_seq_bk, k_seq_ct, s_nil, s_ret, k_ret, s_retn, s_brk, s_cnt, s_expr, k_expr, s_sif, k_sif, s_set, k_set, s_asg, k_asg, rE_some, t_name, t_tup, t_cons, t_nil, s_par, k_par, s_par3, k_par3, s_raise, s_put, k_put, k_put2, k_put3, k_put4, put_is, s_for, k_for, s_while, s_iseq, as_l, as_t, as_s, as_scr, s_rg1, s_rg2, k_rg1, k_rg2, s_enum, k_enum_l, k_enum_s, s_zip, k_zip_l, k_zip_t, k_zip_s, s_off, k_of, rD_some, dats_mapd, s_flc, k_lc, wipe_nil, wipe_cons, s_celf, k_celf, s_flst, k_flst, k_fin_rt, k_fin_nx, start_nil, start_cons, repl_0, repl_S, s_caught, s_frz, k_frzd, s_fld, k_fld, s_rgl1, k_rgl1, s_rgl2, k_rgl, k_rgl2, s_flc2, k_lc2, s_new, k_new2, dk_cat, dk_cat2, dk_cat3, dk_nil, dk_cons, dk_val, dk_val2, dk_dicC, dk_dicC2, dk_dic, dk_dic2, dk_rK, dk_dat, dk_datn, eq_nn, ne_nn, lo_l, lo_t, lo_s, dk_frz, dk_rF, dk_cfrz, dk_methc, dk_rLst, dk_app, dk_rApp, dk_ext, dk_rExt, dk_snoc, dk_last, dk_setl, dk_putF, dk_putF2, dk_putF3, dk_putF4, dk_rPF, dk_new, dk_newT, dk_cfrzI, List.set_cons_zero, List.set_cons_succ, List.getElem?_cons_zero, List.getElem?_cons_succ, List.length_cons, List.length_nil, ↓reduceIte, Nat.reduceAdd, decide_eq_true_eq, Bool.not_true, Bool.not_false, Bool.true_and, Bool.false_and, Bool.and_true, Bool.and_false, Bool.or_true, Bool.or_false, Bool.true_or, Bool.false_or, reduceCtorEq, decide_true, decide_false, Bool.false_eq_true, Int.reduceLT, Int.reduceLE, Int.reduceNeg, Int.reduceAdd, Int.reduceSub, Int.reduceMul, Nat.reduceMul, Nat.reduceLeDiff, Nat.zero_add, Bool.not_not, beq_self_eq_true, bne_self_eq_false, not_true_eq_false, not_false_eq_true, Bool.not_eq_true, Option.some.injEq, List.map_cons, List.map_nil, List.isEmpty_cons, List.isEmpty_nil, and_self, and_true, true_and, Int.toNat_natCast, Int.natCast_nonneg, Int.reduceToNat, Int.reduceEq, Int.reduceNe, Nat.reduceLT, Int.reduceBEq, Int.reduceBNe, Bool.not_eq_eq_eq_not, eq_self, if_true, if_false, ite_self, q4, hd]
  obtain ⟨b, ob, hif⟩ := hif
  obtain ⟨f5, f6, ul⟩ := unl_loop (some (.cel 1)) (some (.dat (.int n))) (some (wd a.s a.l)) (some (wd b.s b.l)) cs4 a.l b.l 0 none none oa.fig ob.fig
  rw [nat_c0] at ul
  have ug := unl_gp (oa.len.trans ob.len.symm) oa.fig ob.fig
  have ug2 : decide (((unl a.l b.l : Nat) : Int) % 2 = 0) = gp a.l b.l := by rw [← ug, decide_eq_decide]; omega
  have g1 := r_goes_past (cs := cs4) oa ob n1 n12
  have g2 := r_goes_past (cs := cs4) ob oa n1 n12
  rw [gp_comm] at g2
  have sy := r_says (b := gp a.l b.l) (c := gp a.l b.l) (cs := cs4)
  have p1 := r_put (cs := cs4) oa ob n1 n12
  have p2 := r_put (cs := cs4) ob oa n1 n12
  have sw := pu_sw oa.sg ob.sg
  have o2 := pu_ok ob oa
  have o1 := pu_ok oa ob
  have r1 := r_repr o1 n12
  have r2 := r_repr o2 n12
  have mn := r_minus (s := (pu b a).s) (l := (pu b a).l) (cs := cs4)
  have pa := r_law_past (cs := cs4) oa ob n12
  have ce := cnt_dec (l := a.l) oa.fig
  have hse : Sg (if (!cross a.l a.l) = true then 1 else -1) := by cases cross a.l a.l <;> simp [Sg]
  have no := nothing_ok n hse
  have r4 := r_repr no n12
  have nt := fun cs => r_nothing (n := n) (s := if (!cross a.l a.l) = true then 1 else -1) (cs := cs) n12
  have tu := r_is_turner (cs := cs4) oa n1 n12
  have sy2 := r_says (b := !cross a.l a.l) (c := !cross a.l a.l) (cs := cs4)
  have p3 := r_put (cs := cs4) oa oa n1 n12
  rw [pu_self oa] at p3
  obtain ⟨cs5, xt5, jq, s5⟩ := r_judged V s4 (by omega) oa n1 n12
  refine ⟨cs5, xt5, fn_ev ?_, s5.mono (by omega)⟩
  cases hg : gp a.l b.l with
  | true =>
    rw [hg, if_pos rfl] at sw
    rw [hg] at ug2 g1 g2 sy pa
    rw [sw] at p1 r1
    cases he : cross a.l a.l with
    | true =>
      rw [he] at ce r4 nt tu sy2 p3
      simp only [Bool.not_true, Bool.not_false, Bool.false_eq_true, if_false, if_true] at nt r4 p3 tu sy2 ce
      simp (disch := (first | assumption | omega | (simp only [List.length_cons, List.length_nil, List.length_map, List.length_append, List.length_replicate] <;> omega))) only [rb_ok, rb_exc, rb_bad, rb_ite, m_ret, m_badE, m_opt, m_optn, m_ite, rO_some, rO_none, rW_some, rW_none, rO_map, rW_map, s_var0, s_varS, s_c, s_bin, k_bin, s_lift, s_un, s_liftU, s_eqc, k_eqc, k_eqc2, eq_ii, ne_ii, eq_ss, ne_ss, eq_bb, ne_bb, s_cmpE, s_asB, s_tru, k_tru, rT_some, tru_d, tru_c, dtru_bl, dtru_non, dtru_int, dtru_lst, dtru_tup, s_and, s_or, s_not, k_and, k_or, k_not, s_yes, m_and, m_or, s_eand, k_eand, k_eand2, s_eor, k_eor, k_eor2, s_enot, k_enot, k_enot2, s_if, k_if, m_iteD, m_iteI, m_iteB, m_iteAnd, m_iteOr, m_iteS, s_chain, k_ch, k_ch2, k_ch3, k_ch4, s_anil, s_acons, k_arg, k_arg2, s_tup, s_lst, k_tup, k_lst, rL_some, dats_nil, dats_cons, opt_map_some, opt_map_none, opt_or_some, opt_or_none, opt_bind_some, s_ix, k_ix, k_ix2, wix_dd, wix_cd, ix_t, ix_l, ix_s, cix_l, cix_d, ix_d, at_0, at_1, at_2, s_sl, k_sl, k_sl2, k_sl3, s_onone, s_osome, k_asI, sl_d, sl_c, sl_l, sl_t, cut_hi, cut_lo, cut_lh, s_fn, k_fn0, k_fn1, k_fn2, k_fn3, k_fn4, k_fn5, k_fn6, s_fnp, k_fnp1, k_fnp2, k_fnp2r, k_fnp3, s_call, k_call, s_o1, s_o2, len_d, len_c, len_l, len_t, len_scr, len_s, clen_l, int_i, int_b, min_i, max_i, sq_dl, sq_cl, csq_l, lof_t, lof_l, tof_t, tof_l, s_meth, k_meth, k_meth_str, ok_str, mt_str1, mt_join, d_I0, d_mod, d_div, d_pow, d_shr, d_neg, d_mulL, d_mulR, d_mulS, d_addI, d_addS, d_addL, d_addT, s_seq, k_seq_nx, k_seq_rt, k_seq_bk, k_seq_ct, s_nil, s_ret, k_ret, s_retn, s_brk, s_cnt, s_expr, k_expr, k_sif, s_set, k_set, s_asg, k_asg, rE_some, t_name, t_tup, t_cons, t_nil, s_par, k_par, s_par3, k_par3, s_raise, s_put, k_put, k_put2, k_put3, k_put4, put_is, s_for, k_for, s_while, s_iseq, as_l, as_t, as_s, as_scr, s_rg1, s_rg2, k_rg1, k_rg2, s_enum, k_enum_l, k_enum_s, s_zip, k_zip_l, k_zip_t, k_zip_s, s_off, k_of, rD_some, dats_mapd, s_flc, k_lc, wipe_nil, wipe_cons, s_celf, k_celf, s_flst, k_flst, k_fin_rt, k_fin_nx, start_nil, start_cons, repl_0, repl_S, s_caught, s_frz, k_frzd, s_fld, k_fld, s_rgl1, k_rgl1, s_rgl2, k_rgl, k_rgl2, s_flc2, k_lc2, s_new, k_new2, dk_cat, dk_cat2, dk_cat3, dk_nil, dk_cons, dk_val, dk_val2, dk_dicC, dk_dicC2, dk_dic, dk_dic2, dk_rK, dk_dat, dk_datn, eq_nn, ne_nn, lo_l, lo_t, lo_s, dk_frz, dk_rF, dk_cfrz, dk_methc, dk_rLst, dk_app, dk_rApp, dk_ext, dk_rExt, dk_snoc, dk_last, dk_setl, dk_putF, dk_putF2, dk_putF3, dk_putF4, dk_rPF, dk_new, dk_newT, dk_cfrzI, List.set_cons_zero, List.set_cons_succ, List.getElem?_cons_zero, List.getElem?_cons_succ, List.length_cons, List.length_nil, ↓reduceIte, Nat.reduceAdd, decide_eq_true_eq, Bool.not_true, Bool.not_false, Bool.true_and, Bool.false_and, Bool.and_true, Bool.and_false, Bool.or_true, Bool.or_false, Bool.true_or, Bool.false_or, reduceCtorEq, decide_true, decide_false, Bool.false_eq_true, Int.reduceLT, Int.reduceLE, Int.reduceNeg, Int.reduceAdd, Int.reduceSub, Int.reduceMul, Nat.reduceMul, Nat.reduceLeDiff, Nat.zero_add, Bool.not_not, beq_self_eq_true, bne_self_eq_false, not_true_eq_false, not_false_eq_true, Bool.not_eq_true, Option.some.injEq, List.map_cons, List.map_nil, List.isEmpty_cons, List.isEmpty_nil, and_self, and_true, true_and, Int.toNat_natCast, Int.natCast_nonneg, Int.reduceToNat, Int.reduceEq, Int.reduceNe, Nat.reduceLT, Int.reduceBEq, Int.reduceBNe, Bool.not_eq_eq_eq_not, eq_self, if_true, if_false, ite_self, b__law_is_right, start_cons, start_nil, repl_S, repl_0, q1, hn, q2, q3, hif]
      simp (disch := (first | assumption | omega | (simp only [List.length_cons, List.length_nil, List.length_map, List.length_append, List.length_replicate] <;> omega))) only [rb_ok, rb_exc, rb_bad, rb_ite, m_ret, m_badE, m_opt, m_optn, m_ite, rO_some, rO_none, rW_some, rW_none, rO_map, rW_map, s_var0, s_varS, s_c, s_bin, k_bin, s_lift, s_un, s_liftU, s_eqc, k_eqc, k_eqc2, eq_ii, ne_ii, eq_ss, ne_ss, eq_bb, ne_bb, s_cmpE, s_asB, s_tru, k_tru, rT_some, tru_d, tru_c, dtru_bl, dtru_non, dtru_int, dtru_lst, dtru_tup, s_and, s_or, s_not, k_and, k_or, k_not, s_yes, m_and, m_or, s_eand, k_eand, k_eand2, s_eor, k_eor, k_eor2, s_enot, k_enot, k_enot2, s_if, k_if, m_iteD, m_iteI, m_iteB, m_iteAnd, m_iteOr, m_iteS, s_chain, k_ch, k_ch2, k_ch3, k_ch4, s_anil, s_acons, k_arg, k_arg2, s_tup, s_lst, k_tup, k_lst, rL_some, dats_nil, dats_cons, opt_map_some, opt_map_none, opt_or_some, opt_or_none, opt_bind_some, s_ix, k_ix, k_ix2, wix_dd, wix_cd, ix_t, ix_l, ix_s, cix_l, cix_d, ix_d, at_0, at_1, at_2, s_sl, k_sl, k_sl2, k_sl3, s_onone, s_osome, k_asI, sl_d, sl_c, sl_l, sl_t, cut_hi, cut_lo, cut_lh, s_fn, k_fn0, k_fn1, k_fn2, k_fn3, k_fn4, k_fn5, k_fn6, s_fnp, k_fnp1, k_fnp2, k_fnp2r, k_fnp3, s_call, k_call, s_o1, s_o2, len_d, len_c, len_l, len_t, len_scr, len_s, clen_l, int_i, int_b, min_i, max_i, sq_dl, sq_cl, csq_l, lof_t, lof_l, tof_t, tof_l, s_meth, k_meth, k_meth_str, ok_str, mt_str1, mt_join, d_I0, d_mod, d_div, d_pow, d_shr, d_neg, d_mulL, d_mulR, d_mulS, d_addI, d_addS, d_addL, d_addT, s_seq, k_seq_nx, k_seq_rt, k_seq_bk, k_seq_ct, s_nil, s_ret, k_ret, s_retn, s_brk, s_cnt, s_expr, k_expr, s_sif, k_sif, s_set, k_set, s_asg, k_asg, rE_some, t_name, t_tup, t_cons, t_nil, s_par, k_par, s_par3, k_par3, s_raise, s_put, k_put, k_put2, k_put3, k_put4, put_is, s_for, k_for, s_while, s_iseq, as_l, as_t, as_s, as_scr, s_rg1, s_rg2, k_rg1, k_rg2, s_enum, k_enum_l, k_enum_s, s_zip, k_zip_l, k_zip_t, k_zip_s, s_off, k_of, rD_some, dats_mapd, s_flc, k_lc, wipe_nil, wipe_cons, s_celf, k_celf, s_flst, k_flst, k_fin_rt, k_fin_nx, start_nil, start_cons, repl_0, repl_S, s_caught, s_frz, k_frzd, s_fld, k_fld, s_rgl1, k_rgl1, s_rgl2, k_rgl, k_rgl2, s_flc2, k_lc2, s_new, k_new2, dk_cat, dk_cat2, dk_cat3, dk_nil, dk_cons, dk_val, dk_val2, dk_dicC, dk_dicC2, dk_dic, dk_dic2, dk_rK, dk_dat, dk_datn, eq_nn, ne_nn, lo_l, lo_t, lo_s, dk_frz, dk_rF, dk_cfrz, dk_methc, dk_rLst, dk_app, dk_rApp, dk_ext, dk_rExt, dk_snoc, dk_last, dk_setl, dk_putF, dk_putF2, dk_putF3, dk_putF4, dk_rPF, dk_new, dk_newT, dk_cfrzI, List.set_cons_zero, List.set_cons_succ, List.getElem?_cons_zero, List.getElem?_cons_succ, List.length_cons, List.length_nil, ↓reduceIte, Nat.reduceAdd, decide_eq_true_eq, Bool.not_true, Bool.not_false, Bool.true_and, Bool.false_and, Bool.and_true, Bool.and_false, Bool.or_true, Bool.or_false, Bool.true_or, Bool.false_or, reduceCtorEq, decide_true, decide_false, Bool.false_eq_true, Int.reduceLT, Int.reduceLE, Int.reduceNeg, Int.reduceAdd, Int.reduceSub, Int.reduceMul, Nat.reduceMul, Nat.reduceLeDiff, Nat.zero_add, Bool.not_not, beq_self_eq_true, bne_self_eq_false, not_true_eq_false, not_false_eq_true, Bool.not_eq_true, Option.some.injEq, List.map_cons, List.map_nil, List.isEmpty_cons, List.isEmpty_nil, and_self, and_true, true_and, Int.toNat_natCast, Int.natCast_nonneg, Int.reduceToNat, Int.reduceEq, Int.reduceNe, Nat.reduceLT, Int.reduceBEq, Int.reduceBNe, Bool.not_eq_eq_eq_not, eq_self, if_true, if_false, ite_self, dix_w1, signD_strOf, zip_map, ul, ug2, g1, g2, sy, p1, p2, r1, r2, pa, kCount, ce, nt, r4, tu, sy2, p3, jq]
    | false =>
      rw [he] at ce r4 nt tu sy2 p3
      simp only [Bool.not_true, Bool.not_false, Bool.false_eq_true, if_false, if_true] at nt r4 p3 tu sy2 ce
      simp (disch := (first | assumption | omega | (simp only [List.length_cons, List.length_nil, List.length_map, List.length_append, List.length_replicate] <;> omega))) only [rb_ok, rb_exc, rb_bad, rb_ite, m_ret, m_badE, m_opt, m_optn, m_ite, rO_some, rO_none, rW_some, rW_none, rO_map, rW_map, s_var0, s_varS, s_c, s_bin, k_bin, s_lift, s_un, s_liftU, s_eqc, k_eqc, k_eqc2, eq_ii, ne_ii, eq_ss, ne_ss, eq_bb, ne_bb, s_cmpE, s_asB, s_tru, k_tru, rT_some, tru_d, tru_c, dtru_bl, dtru_non, dtru_int, dtru_lst, dtru_tup, s_and, s_or, s_not, k_and, k_or, k_not, s_yes, m_and, m_or, s_eand, k_eand, k_eand2, s_eor, k_eor, k_eor2, s_enot, k_enot, k_enot2, s_if, k_if, m_iteD, m_iteI, m_iteB, m_iteAnd, m_iteOr, m_iteS, s_chain, k_ch, k_ch2, k_ch3, k_ch4, s_anil, s_acons, k_arg, k_arg2, s_tup, s_lst, k_tup, k_lst, rL_some, dats_nil, dats_cons, opt_map_some, opt_map_none, opt_or_some, opt_or_none, opt_bind_some, s_ix, k_ix, k_ix2, wix_dd, wix_cd, ix_t, ix_l, ix_s, cix_l, cix_d, ix_d, at_0, at_1, at_2, s_sl, k_sl, k_sl2, k_sl3, s_onone, s_osome, k_asI, sl_d, sl_c, sl_l, sl_t, cut_hi, cut_lo, cut_lh, s_fn, k_fn0, k_fn1, k_fn2, k_fn3, k_fn4, k_fn5, k_fn6, s_fnp, k_fnp1, k_fnp2, k_fnp2r, k_fnp3, s_call, k_call, s_o1, s_o2, len_d, len_c, len_l, len_t, len_scr, len_s, clen_l, int_i, int_b, min_i, max_i, sq_dl, sq_cl, csq_l, lof_t, lof_l, tof_t, tof_l, s_meth, k_meth, k_meth_str, ok_str, mt_str1, mt_join, d_I0, d_mod, d_div, d_pow, d_shr, d_neg, d_mulL, d_mulR, d_mulS, d_addI, d_addS, d_addL, d_addT, s_seq, k_seq_nx, k_seq_rt, k_seq_bk, k_seq_ct, s_nil, s_ret, k_ret, s_retn, s_brk, s_cnt, s_expr, k_expr, k_sif, s_set, k_set, s_asg, k_asg, rE_some, t_name, t_tup, t_cons, t_nil, s_par, k_par, s_par3, k_par3, s_raise, s_put, k_put, k_put2, k_put3, k_put4, put_is, s_for, k_for, s_while, s_iseq, as_l, as_t, as_s, as_scr, s_rg1, s_rg2, k_rg1, k_rg2, s_enum, k_enum_l, k_enum_s, s_zip, k_zip_l, k_zip_t, k_zip_s, s_off, k_of, rD_some, dats_mapd, s_flc, k_lc, wipe_nil, wipe_cons, s_celf, k_celf, s_flst, k_flst, k_fin_rt, k_fin_nx, start_nil, start_cons, repl_0, repl_S, s_caught, s_frz, k_frzd, s_fld, k_fld, s_rgl1, k_rgl1, s_rgl2, k_rgl, k_rgl2, s_flc2, k_lc2, s_new, k_new2, dk_cat, dk_cat2, dk_cat3, dk_nil, dk_cons, dk_val, dk_val2, dk_dicC, dk_dicC2, dk_dic, dk_dic2, dk_rK, dk_dat, dk_datn, eq_nn, ne_nn, lo_l, lo_t, lo_s, dk_frz, dk_rF, dk_cfrz, dk_methc, dk_rLst, dk_app, dk_rApp, dk_ext, dk_rExt, dk_snoc, dk_last, dk_setl, dk_putF, dk_putF2, dk_putF3, dk_putF4, dk_rPF, dk_new, dk_newT, dk_cfrzI, List.set_cons_zero, List.set_cons_succ, List.getElem?_cons_zero, List.getElem?_cons_succ, List.length_cons, List.length_nil, ↓reduceIte, Nat.reduceAdd, decide_eq_true_eq, Bool.not_true, Bool.not_false, Bool.true_and, Bool.false_and, Bool.and_true, Bool.and_false, Bool.or_true, Bool.or_false, Bool.true_or, Bool.false_or, reduceCtorEq, decide_true, decide_false, Bool.false_eq_true, Int.reduceLT, Int.reduceLE, Int.reduceNeg, Int.reduceAdd, Int.reduceSub, Int.reduceMul, Nat.reduceMul, Nat.reduceLeDiff, Nat.zero_add, Bool.not_not, beq_self_eq_true, bne_self_eq_false, not_true_eq_false, not_false_eq_true, Bool.not_eq_true, Option.some.injEq, List.map_cons, List.map_nil, List.isEmpty_cons, List.isEmpty_nil, and_self, and_true, true_and, Int.toNat_natCast, Int.natCast_nonneg, Int.reduceToNat, Int.reduceEq, Int.reduceNe, Nat.reduceLT, Int.reduceBEq, Int.reduceBNe, Bool.not_eq_eq_eq_not, eq_self, if_true, if_false, ite_self, b__law_is_right, start_cons, start_nil, repl_S, repl_0, q1, hn, q2, q3, hif]
      simp (disch := (first | assumption | omega | (simp only [List.length_cons, List.length_nil, List.length_map, List.length_append, List.length_replicate] <;> omega))) only [rb_ok, rb_exc, rb_bad, rb_ite, m_ret, m_badE, m_opt, m_optn, m_ite, rO_some, rO_none, rW_some, rW_none, rO_map, rW_map, s_var0, s_varS, s_c, s_bin, k_bin, s_lift, s_un, s_liftU, s_eqc, k_eqc, k_eqc2, eq_ii, ne_ii, eq_ss, ne_ss, eq_bb, ne_bb, s_cmpE, s_asB, s_tru, k_tru, rT_some, tru_d, tru_c, dtru_bl, dtru_non, dtru_int, dtru_lst, dtru_tup, s_and, s_or, s_not, k_and, k_or, k_not, s_yes, m_and, m_or, s_eand, k_eand, k_eand2, s_eor, k_eor, k_eor2, s_enot, k_enot, k_enot2, s_if, k_if, m_iteD, m_iteI, m_iteB, m_iteAnd, m_iteOr, m_iteS, s_chain, k_ch, k_ch2, k_ch3, k_ch4, s_anil, s_acons, k_arg, k_arg2, s_tup, s_lst, k_tup, k_lst, rL_some, dats_nil, dats_cons, opt_map_some, opt_map_none, opt_or_some, opt_or_none, opt_bind_some, s_ix, k_ix, k_ix2, wix_dd, wix_cd, ix_t, ix_l, ix_s, cix_l, cix_d, ix_d, at_0, at_1, at_2, s_sl, k_sl, k_sl2, k_sl3, s_onone, s_osome, k_asI, sl_d, sl_c, sl_l, sl_t, cut_hi, cut_lo, cut_lh, s_fn, k_fn0, k_fn1, k_fn2, k_fn3, k_fn4, k_fn5, k_fn6, s_fnp, k_fnp1, k_fnp2, k_fnp2r, k_fnp3, s_call, k_call, s_o1, s_o2, len_d, len_c, len_l, len_t, len_scr, len_s, clen_l, int_i, int_b, min_i, max_i, sq_dl, sq_cl, csq_l, lof_t, lof_l, tof_t, tof_l, s_meth, k_meth, k_meth_str, ok_str, mt_str1, mt_join, d_I0, d_mod, d_div, d_pow, d_shr, d_neg, d_mulL, d_mulR, d_mulS, d_addI, d_addS, d_addL, d_addT, s_seq, k_seq_nx, k_seq_rt, k_seq_bk, k_seq_ct, s_nil, s_ret, k_ret, s_retn, s_brk, s_cnt, s_expr, k_expr, s_sif, k_sif, s_set, k_set, s_asg, k_asg, rE_some, t_name, t_tup, t_cons, t_nil, s_par, k_par, s_par3, k_par3, s_raise, s_put, k_put, k_put2, k_put3, k_put4, put_is, s_for, k_for, s_while, s_iseq, as_l, as_t, as_s, as_scr, s_rg1, s_rg2, k_rg1, k_rg2, s_enum, k_enum_l, k_enum_s, s_zip, k_zip_l, k_zip_t, k_zip_s, s_off, k_of, rD_some, dats_mapd, s_flc, k_lc, wipe_nil, wipe_cons, s_celf, k_celf, s_flst, k_flst, k_fin_rt, k_fin_nx, start_nil, start_cons, repl_0, repl_S, s_caught, s_frz, k_frzd, s_fld, k_fld, s_rgl1, k_rgl1, s_rgl2, k_rgl, k_rgl2, s_flc2, k_lc2, s_new, k_new2, dk_cat, dk_cat2, dk_cat3, dk_nil, dk_cons, dk_val, dk_val2, dk_dicC, dk_dicC2, dk_dic, dk_dic2, dk_rK, dk_dat, dk_datn, eq_nn, ne_nn, lo_l, lo_t, lo_s, dk_frz, dk_rF, dk_cfrz, dk_methc, dk_rLst, dk_app, dk_rApp, dk_ext, dk_rExt, dk_snoc, dk_last, dk_setl, dk_putF, dk_putF2, dk_putF3, dk_putF4, dk_rPF, dk_new, dk_newT, dk_cfrzI, List.set_cons_zero, List.set_cons_succ, List.getElem?_cons_zero, List.getElem?_cons_succ, List.length_cons, List.length_nil, ↓reduceIte, Nat.reduceAdd, decide_eq_true_eq, Bool.not_true, Bool.not_false, Bool.true_and, Bool.false_and, Bool.and_true, Bool.and_false, Bool.or_true, Bool.or_false, Bool.true_or, Bool.false_or, reduceCtorEq, decide_true, decide_false, Bool.false_eq_true, Int.reduceLT, Int.reduceLE, Int.reduceNeg, Int.reduceAdd, Int.reduceSub, Int.reduceMul, Nat.reduceMul, Nat.reduceLeDiff, Nat.zero_add, Bool.not_not, beq_self_eq_true, bne_self_eq_false, not_true_eq_false, not_false_eq_true, Bool.not_eq_true, Option.some.injEq, List.map_cons, List.map_nil, List.isEmpty_cons, List.isEmpty_nil, and_self, and_true, true_and, Int.toNat_natCast, Int.natCast_nonneg, Int.reduceToNat, Int.reduceEq, Int.reduceNe, Nat.reduceLT, Int.reduceBEq, Int.reduceBNe, Bool.not_eq_eq_eq_not, eq_self, if_true, if_false, ite_self, dix_w1, signD_strOf, zip_map, ul, ug2, g1, g2, sy, p1, p2, r1, r2, pa, kCount, ce, nt, r4, tu, sy2, p3, jq]
  | false =>
    rw [hg, if_neg Bool.false_ne_true] at sw
    rw [hg] at ug2 g1 g2 sy pa
    rw [sw] at p1 r1
    cases he : cross a.l a.l with
    | true =>
      rw [he] at ce r4 nt tu sy2 p3
      simp only [Bool.not_true, Bool.not_false, Bool.false_eq_true, if_false, if_true] at nt r4 p3 tu sy2 ce
      simp (disch := (first | assumption | omega | (simp only [List.length_cons, List.length_nil, List.length_map, List.length_append, List.length_replicate] <;> omega))) only [rb_ok, rb_exc, rb_bad, rb_ite, m_ret, m_badE, m_opt, m_optn, m_ite, rO_some, rO_none, rW_some, rW_none, rO_map, rW_map, s_var0, s_varS, s_c, s_bin, k_bin, s_lift, s_un, s_liftU, s_eqc, k_eqc, k_eqc2, eq_ii, ne_ii, eq_ss, ne_ss, eq_bb, ne_bb, s_cmpE, s_asB, s_tru, k_tru, rT_some, tru_d, tru_c, dtru_bl, dtru_non, dtru_int, dtru_lst, dtru_tup, s_and, s_or, s_not, k_and, k_or, k_not, s_yes, m_and, m_or, s_eand, k_eand, k_eand2, s_eor, k_eor, k_eor2, s_enot, k_enot, k_enot2, s_if, k_if, m_iteD, m_iteI, m_iteB, m_iteAnd, m_iteOr, m_iteS, s_chain, k_ch, k_ch2, k_ch3, k_ch4, s_anil, s_acons, k_arg, k_arg2, s_tup, s_lst, k_tup, k_lst, rL_some, dats_nil, dats_cons, opt_map_some, opt_map_none, opt_or_some, opt_or_none, opt_bind_some, s_ix, k_ix, k_ix2, wix_dd, wix_cd, ix_t, ix_l, ix_s, cix_l, cix_d, ix_d, at_0, at_1, at_2, s_sl, k_sl, k_sl2, k_sl3, s_onone, s_osome, k_asI, sl_d, sl_c, sl_l, sl_t, cut_hi, cut_lo, cut_lh, s_fn, k_fn0, k_fn1, k_fn2, k_fn3, k_fn4, k_fn5, k_fn6, s_fnp, k_fnp1, k_fnp2, k_fnp2r, k_fnp3, s_call, k_call, s_o1, s_o2, len_d, len_c, len_l, len_t, len_scr, len_s, clen_l, int_i, int_b, min_i, max_i, sq_dl, sq_cl, csq_l, lof_t, lof_l, tof_t, tof_l, s_meth, k_meth, k_meth_str, ok_str, mt_str1, mt_join, d_I0, d_mod, d_div, d_pow, d_shr, d_neg, d_mulL, d_mulR, d_mulS, d_addI, d_addS, d_addL, d_addT, s_seq, k_seq_nx, k_seq_rt, k_seq_bk, k_seq_ct, s_nil, s_ret, k_ret, s_retn, s_brk, s_cnt, s_expr, k_expr, k_sif, s_set, k_set, s_asg, k_asg, rE_some, t_name, t_tup, t_cons, t_nil, s_par, k_par, s_par3, k_par3, s_raise, s_put, k_put, k_put2, k_put3, k_put4, put_is, s_for, k_for, s_while, s_iseq, as_l, as_t, as_s, as_scr, s_rg1, s_rg2, k_rg1, k_rg2, s_enum, k_enum_l, k_enum_s, s_zip, k_zip_l, k_zip_t, k_zip_s, s_off, k_of, rD_some, dats_mapd, s_flc, k_lc, wipe_nil, wipe_cons, s_celf, k_celf, s_flst, k_flst, k_fin_rt, k_fin_nx, start_nil, start_cons, repl_0, repl_S, s_caught, s_frz, k_frzd, s_fld, k_fld, s_rgl1, k_rgl1, s_rgl2, k_rgl, k_rgl2, s_flc2, k_lc2, s_new, k_new2, dk_cat, dk_cat2, dk_cat3, dk_nil, dk_cons, dk_val, dk_val2, dk_dicC, dk_dicC2, dk_dic, dk_dic2, dk_rK, dk_dat, dk_datn, eq_nn, ne_nn, lo_l, lo_t, lo_s, dk_frz, dk_rF, dk_cfrz, dk_methc, dk_rLst, dk_app, dk_rApp, dk_ext, dk_rExt, dk_snoc, dk_last, dk_setl, dk_putF, dk_putF2, dk_putF3, dk_putF4, dk_rPF, dk_new, dk_newT, dk_cfrzI, List.set_cons_zero, List.set_cons_succ, List.getElem?_cons_zero, List.getElem?_cons_succ, List.length_cons, List.length_nil, ↓reduceIte, Nat.reduceAdd, decide_eq_true_eq, Bool.not_true, Bool.not_false, Bool.true_and, Bool.false_and, Bool.and_true, Bool.and_false, Bool.or_true, Bool.or_false, Bool.true_or, Bool.false_or, reduceCtorEq, decide_true, decide_false, Bool.false_eq_true, Int.reduceLT, Int.reduceLE, Int.reduceNeg, Int.reduceAdd, Int.reduceSub, Int.reduceMul, Nat.reduceMul, Nat.reduceLeDiff, Nat.zero_add, Bool.not_not, beq_self_eq_true, bne_self_eq_false, not_true_eq_false, not_false_eq_true, Bool.not_eq_true, Option.some.injEq, List.map_cons, List.map_nil, List.isEmpty_cons, List.isEmpty_nil, and_self, and_true, true_and, Int.toNat_natCast, Int.natCast_nonneg, Int.reduceToNat, Int.reduceEq, Int.reduceNe, Nat.reduceLT, Int.reduceBEq, Int.reduceBNe, Bool.not_eq_eq_eq_not, eq_self, if_true, if_false, ite_self, b__law_is_right, start_cons, start_nil, repl_S, repl_0, q1, hn, q2, q3, hif]
      simp (disch := (first | assumption | omega | (simp only [List.length_cons, List.length_nil, List.length_map, List.length_append, List.length_replicate] <;> omega))) only [rb_ok, rb_exc, rb_bad, rb_ite, m_ret, m_badE, m_opt, m_optn, m_ite, rO_some, rO_none, rW_some, rW_none, rO_map, rW_map, s_var0, s_varS, s_c, s_bin, k_bin, s_lift, s_un, s_liftU, s_eqc, k_eqc, k_eqc2, eq_ii, ne_ii, eq_ss, ne_ss, eq_bb, ne_bb, s_cmpE, s_asB, s_tru, k_tru, rT_some, tru_d, tru_c, dtru_bl, dtru_non, dtru_int, dtru_lst, dtru_tup, s_and, s_or, s_not, k_and, k_or, k_not, s_yes, m_and, m_or, s_eand, k_eand, k_eand2, s_eor, k_eor, k_eor2, s_enot, k_enot, k_enot2, s_if, k_if, m_iteD, m_iteI, m_iteB, m_iteAnd, m_iteOr, m_iteS, s_chain, k_ch, k_ch2, k_ch3, k_ch4, s_anil, s_acons, k_arg, k_arg2, s_tup, s_lst, k_tup, k_lst, rL_some, dats_nil, dats_cons, opt_map_some, opt_map_none, opt_or_some, opt_or_none, opt_bind_some, s_ix, k_ix, k_ix2, wix_dd, wix_cd, ix_t, ix_l, ix_s, cix_l, cix_d, ix_d, at_0, at_1, at_2, s_sl, k_sl, k_sl2, k_sl3, s_onone, s_osome, k_asI, sl_d, sl_c, sl_l, sl_t, cut_hi, cut_lo, cut_lh, s_fn, k_fn0, k_fn1, k_fn2, k_fn3, k_fn4, k_fn5, k_fn6, s_fnp, k_fnp1, k_fnp2, k_fnp2r, k_fnp3, s_call, k_call, s_o1, s_o2, len_d, len_c, len_l, len_t, len_scr, len_s, clen_l, int_i, int_b, min_i, max_i, sq_dl, sq_cl, csq_l, lof_t, lof_l, tof_t, tof_l, s_meth, k_meth, k_meth_str, ok_str, mt_str1, mt_join, d_I0, d_mod, d_div, d_pow, d_shr, d_neg, d_mulL, d_mulR, d_mulS, d_addI, d_addS, d_addL, d_addT, s_seq, k_seq_nx, k_seq_rt, k_seq_bk, k_seq_ct, s_nil, s_ret, k_ret, s_retn, s_brk, s_cnt, s_expr, k_expr, s_sif, k_sif, s_set, k_set, s_asg, k_asg, rE_some, t_name, t_tup, t_cons, t_nil, s_par, k_par, s_par3, k_par3, s_raise, s_put, k_put, k_put2, k_put3, k_put4, put_is, s_for, k_for, s_while, s_iseq, as_l, as_t, as_s, as_scr, s_rg1, s_rg2, k_rg1, k_rg2, s_enum, k_enum_l, k_enum_s, s_zip, k_zip_l, k_zip_t, k_zip_s, s_off, k_of, rD_some, dats_mapd, s_flc, k_lc, wipe_nil, wipe_cons, s_celf, k_celf, s_flst, k_flst, k_fin_rt, k_fin_nx, start_nil, start_cons, repl_0, repl_S, s_caught, s_frz, k_frzd, s_fld, k_fld, s_rgl1, k_rgl1, s_rgl2, k_rgl, k_rgl2, s_flc2, k_lc2, s_new, k_new2, dk_cat, dk_cat2, dk_cat3, dk_nil, dk_cons, dk_val, dk_val2, dk_dicC, dk_dicC2, dk_dic, dk_dic2, dk_rK, dk_dat, dk_datn, eq_nn, ne_nn, lo_l, lo_t, lo_s, dk_frz, dk_rF, dk_cfrz, dk_methc, dk_rLst, dk_app, dk_rApp, dk_ext, dk_rExt, dk_snoc, dk_last, dk_setl, dk_putF, dk_putF2, dk_putF3, dk_putF4, dk_rPF, dk_new, dk_newT, dk_cfrzI, List.set_cons_zero, List.set_cons_succ, List.getElem?_cons_zero, List.getElem?_cons_succ, List.length_cons, List.length_nil, ↓reduceIte, Nat.reduceAdd, decide_eq_true_eq, Bool.not_true, Bool.not_false, Bool.true_and, Bool.false_and, Bool.and_true, Bool.and_false, Bool.or_true, Bool.or_false, Bool.true_or, Bool.false_or, reduceCtorEq, decide_true, decide_false, Bool.false_eq_true, Int.reduceLT, Int.reduceLE, Int.reduceNeg, Int.reduceAdd, Int.reduceSub, Int.reduceMul, Nat.reduceMul, Nat.reduceLeDiff, Nat.zero_add, Bool.not_not, beq_self_eq_true, bne_self_eq_false, not_true_eq_false, not_false_eq_true, Bool.not_eq_true, Option.some.injEq, List.map_cons, List.map_nil, List.isEmpty_cons, List.isEmpty_nil, and_self, and_true, true_and, Int.toNat_natCast, Int.natCast_nonneg, Int.reduceToNat, Int.reduceEq, Int.reduceNe, Nat.reduceLT, Int.reduceBEq, Int.reduceBNe, Bool.not_eq_eq_eq_not, eq_self, if_true, if_false, ite_self, dix_w1, signD_strOf, zip_map, ul, ug2, g1, g2, sy, p1, p2, r1, r2, mn, pa, kCount, ce, nt, r4, tu, sy2, p3, jq]
    | false =>
      rw [he] at ce r4 nt tu sy2 p3
      simp only [Bool.not_true, Bool.not_false, Bool.false_eq_true, if_false, if_true] at nt r4 p3 tu sy2 ce
      simp (disch := (first | assumption | omega | (simp only [List.length_cons, List.length_nil, List.length_map, List.length_append, List.length_replicate] <;> omega))) only [rb_ok, rb_exc, rb_bad, rb_ite, m_ret, m_badE, m_opt, m_optn, m_ite, rO_some, rO_none, rW_some, rW_none, rO_map, rW_map, s_var0, s_varS, s_c, s_bin, k_bin, s_lift, s_un, s_liftU, s_eqc, k_eqc, k_eqc2, eq_ii, ne_ii, eq_ss, ne_ss, eq_bb, ne_bb, s_cmpE, s_asB, s_tru, k_tru, rT_some, tru_d, tru_c, dtru_bl, dtru_non, dtru_int, dtru_lst, dtru_tup, s_and, s_or, s_not, k_and, k_or, k_not, s_yes, m_and, m_or, s_eand, k_eand, k_eand2, s_eor, k_eor, k_eor2, s_enot, k_enot, k_enot2, s_if, k_if, m_iteD, m_iteI, m_iteB, m_iteAnd, m_iteOr, m_iteS, s_chain, k_ch, k_ch2, k_ch3, k_ch4, s_anil, s_acons, k_arg, k_arg2, s_tup, s_lst, k_tup, k_lst, rL_some, dats_nil, dats_cons, opt_map_some, opt_map_none, opt_or_some, opt_or_none, opt_bind_some, s_ix, k_ix, k_ix2, wix_dd, wix_cd, ix_t, ix_l, ix_s, cix_l, cix_d, ix_d, at_0, at_1, at_2, s_sl, k_sl, k_sl2, k_sl3, s_onone, s_osome, k_asI, sl_d, sl_c, sl_l, sl_t, cut_hi, cut_lo, cut_lh, s_fn, k_fn0, k_fn1, k_fn2, k_fn3, k_fn4, k_fn5, k_fn6, s_fnp, k_fnp1, k_fnp2, k_fnp2r, k_fnp3, s_call, k_call, s_o1, s_o2, len_d, len_c, len_l, len_t, len_scr, len_s, clen_l, int_i, int_b, min_i, max_i, sq_dl, sq_cl, csq_l, lof_t, lof_l, tof_t, tof_l, s_meth, k_meth, k_meth_str, ok_str, mt_str1, mt_join, d_I0, d_mod, d_div, d_pow, d_shr, d_neg, d_mulL, d_mulR, d_mulS, d_addI, d_addS, d_addL, d_addT, s_seq, k_seq_nx, k_seq_rt, k_seq_bk, k_seq_ct, s_nil, s_ret, k_ret, s_retn, s_brk, s_cnt, s_expr, k_expr, k_sif, s_set, k_set, s_asg, k_asg, rE_some, t_name, t_tup, t_cons, t_nil, s_par, k_par, s_par3, k_par3, s_raise, s_put, k_put, k_put2, k_put3, k_put4, put_is, s_for, k_for, s_while, s_iseq, as_l, as_t, as_s, as_scr, s_rg1, s_rg2, k_rg1, k_rg2, s_enum, k_enum_l, k_enum_s, s_zip, k_zip_l, k_zip_t, k_zip_s, s_off, k_of, rD_some, dats_mapd, s_flc, k_lc, wipe_nil, wipe_cons, s_celf, k_celf, s_flst, k_flst, k_fin_rt, k_fin_nx, start_nil, start_cons, repl_0, repl_S, s_caught, s_frz, k_frzd, s_fld, k_fld, s_rgl1, k_rgl1, s_rgl2, k_rgl, k_rgl2, s_flc2, k_lc2, s_new, k_new2, dk_cat, dk_cat2, dk_cat3, dk_nil, dk_cons, dk_val, dk_val2, dk_dicC, dk_dicC2, dk_dic, dk_dic2, dk_rK, dk_dat, dk_datn, eq_nn, ne_nn, lo_l, lo_t, lo_s, dk_frz, dk_rF, dk_cfrz, dk_methc, dk_rLst, dk_app, dk_rApp, dk_ext, dk_rExt, dk_snoc, dk_last, dk_setl, dk_putF, dk_putF2, dk_putF3, dk_putF4, dk_rPF, dk_new, dk_newT, dk_cfrzI, List.set_cons_zero, List.set_cons_succ, List.getElem?_cons_zero, List.getElem?_cons_succ, List.length_cons, List.length_nil, ↓reduceIte, Nat.reduceAdd, decide_eq_true_eq, Bool.not_true, Bool.not_false, Bool.true_and, Bool.false_and, Bool.and_true, Bool.and_false, Bool.or_true, Bool.or_false, Bool.true_or, Bool.false_or, reduceCtorEq, decide_true, decide_false, Bool.false_eq_true, Int.reduceLT, Int.reduceLE, Int.reduceNeg, Int.reduceAdd, Int.reduceSub, Int.reduceMul, Nat.reduceMul, Nat.reduceLeDiff, Nat.zero_add, Bool.not_not, beq_self_eq_true, bne_self_eq_false, not_true_eq_false, not_false_eq_true, Bool.not_eq_true, Option.some.injEq, List.map_cons, List.map_nil, List.isEmpty_cons, List.isEmpty_nil, and_self, and_true, true_and, Int.toNat_natCast, Int.natCast_nonneg, Int.reduceToNat, Int.reduceEq, Int.reduceNe, Nat.reduceLT, Int.reduceBEq, Int.reduceBNe, Bool.not_eq_eq_eq_not, eq_self, if_true, if_false, ite_self, b__law_is_right, start_cons, start_nil, repl_S, repl_0, q1, hn, q2, q3, hif]
      simp (disch := (first | assumption | omega | (simp only [List.length_cons, List.length_nil, List.length_map, List.length_append, List.length_replicate] <;> omega))) only [rb_ok, rb_exc, rb_bad, rb_ite, m_ret, m_badE, m_opt, m_optn, m_ite, rO_some, rO_none, rW_some, rW_none, rO_map, rW_map, s_var0, s_varS, s_c, s_bin, k_bin, s_lift, s_un, s_liftU, s_eqc, k_eqc, k_eqc2, eq_ii, ne_ii, eq_ss, ne_ss, eq_bb, ne_bb, s_cmpE, s_asB, s_tru, k_tru, rT_some, tru_d, tru_c, dtru_bl, dtru_non, dtru_int, dtru_lst, dtru_tup, s_and, s_or, s_not, k_and, k_or, k_not, s_yes, m_and, m_or, s_eand, k_eand, k_eand2, s_eor, k_eor, k_eor2, s_enot, k_enot, k_enot2, s_if, k_if, m_iteD, m_iteI, m_iteB, m_iteAnd, m_iteOr, m_iteS, s_chain, k_ch, k_ch2, k_ch3, k_ch4, s_anil, s_acons, k_arg, k_arg2, s_tup, s_lst, k_tup, k_lst, rL_some, dats_nil, dats_cons, opt_map_some, opt_map_none, opt_or_some, opt_or_none, opt_bind_some, s_ix, k_ix, k_ix2, wix_dd, wix_cd, ix_t, ix_l, ix_s, cix_l, cix_d, ix_d, at_0, at_1, at_2, s_sl, k_sl, k_sl2, k_sl3, s_onone, s_osome, k_asI, sl_d, sl_c, sl_l, sl_t, cut_hi, cut_lo, cut_lh, s_fn, k_fn0, k_fn1, k_fn2, k_fn3, k_fn4, k_fn5, k_fn6, s_fnp, k_fnp1, k_fnp2, k_fnp2r, k_fnp3, s_call, k_call, s_o1, s_o2, len_d, len_c, len_l, len_t, len_scr, len_s, clen_l, int_i, int_b, min_i, max_i, sq_dl, sq_cl, csq_l, lof_t, lof_l, tof_t, tof_l, s_meth, k_meth, k_meth_str, ok_str, mt_str1, mt_join, d_I0, d_mod, d_div, d_pow, d_shr, d_neg, d_mulL, d_mulR, d_mulS, d_addI, d_addS, d_addL, d_addT, s_seq, k_seq_nx, k_seq_rt, k_seq_bk, k_seq_ct, s_nil, s_ret, k_ret, s_retn, s_brk, s_cnt, s_expr, k_expr, s_sif, k_sif, s_set, k_set, s_asg, k_asg, rE_some, t_name, t_tup, t_cons, t_nil, s_par, k_par, s_par3, k_par3, s_raise, s_put, k_put, k_put2, k_put3, k_put4, put_is, s_for, k_for, s_while, s_iseq, as_l, as_t, as_s, as_scr, s_rg1, s_rg2, k_rg1, k_rg2, s_enum, k_enum_l, k_enum_s, s_zip, k_zip_l, k_zip_t, k_zip_s, s_off, k_of, rD_some, dats_mapd, s_flc, k_lc, wipe_nil, wipe_cons, s_celf, k_celf, s_flst, k_flst, k_fin_rt, k_fin_nx, start_nil, start_cons, repl_0, repl_S, s_caught, s_frz, k_frzd, s_fld, k_fld, s_rgl1, k_rgl1, s_rgl2, k_rgl, k_rgl2, s_flc2, k_lc2, s_new, k_new2, dk_cat, dk_cat2, dk_cat3, dk_nil, dk_cons, dk_val, dk_val2, dk_dicC, dk_dicC2, dk_dic, dk_dic2, dk_rK, dk_dat, dk_datn, eq_nn, ne_nn, lo_l, lo_t, lo_s, dk_frz, dk_rF, dk_cfrz, dk_methc, dk_rLst, dk_app, dk_rApp, dk_ext, dk_rExt, dk_snoc, dk_last, dk_setl, dk_putF, dk_putF2, dk_putF3, dk_putF4, dk_rPF, dk_new, dk_newT, dk_cfrzI, List.set_cons_zero, List.set_cons_succ, List.getElem?_cons_zero, List.getElem?_cons_succ, List.length_cons, List.length_nil, ↓reduceIte, Nat.reduceAdd, decide_eq_true_eq, Bool.not_true, Bool.not_false, Bool.true_and, Bool.false_and, Bool.and_true, Bool.and_false, Bool.or_true, Bool.or_false, Bool.true_or, Bool.false_or, reduceCtorEq, decide_true, decide_false, Bool.false_eq_true, Int.reduceLT, Int.reduceLE, Int.reduceNeg, Int.reduceAdd, Int.reduceSub, Int.reduceMul, Nat.reduceMul, Nat.reduceLeDiff, Nat.zero_add, Bool.not_not, beq_self_eq_true, bne_self_eq_false, not_true_eq_false, not_false_eq_true, Bool.not_eq_true, Option.some.injEq, List.map_cons, List.map_nil, List.isEmpty_cons, List.isEmpty_nil, and_self, and_true, true_and, Int.toNat_natCast, Int.natCast_nonneg, Int.reduceToNat, Int.reduceEq, Int.reduceNe, Nat.reduceLT, Int.reduceBEq, Int.reduceBNe, Bool.not_eq_eq_eq_not, eq_self, if_true, if_false, ite_self, dix_w1, signD_strOf, zip_map, ul, ug2, g1, g2, sy, p1, p2, r1, r2, mn, pa, kCount, ce, nt, r4, tu, sy2, p3, jq]
theorem isx_of {K : Frag} {Ds : List Addr} {D C : Addr} {b : Bool} {cs : List Cell} (h : D ∈ Ds) (e : PySem.W.kitOne K (.ref D) (.ref C) = some b) : oIsXD K Ds [.dat (.exn D), .dat (.op (.ref C))] cs = some (.bl b) := by
  unfold oIsXD
  dsimp only
  rw [if_pos (decide_eq_true h)]
  unfold oIsX
  dsimp only
  rw [e]
  rfl
theorem r_refuses (V : Ax) (F : AxF_k01 V) {cs xt : List Cell} {t : Nat} (hs : St cs xt t) (ht : t + 1000 < 1000000) : ∃ cs', m__law_refuses V [.cel 1] cs = .ok (.dat (.bl true)) cs' ∧ St cs' xt (t + 100) := by
  obtain ⟨d0, cs1, q1, l0, u0, s1⟩ := r_draw (n := 12) hs (by omega) (by omega) (by omega)
  obtain ⟨n, hn⟩ : ∃ n : Nat, 1 + d0 = n := ⟨(1 + d0).toNat, by omega⟩
  obtain ⟨a, cs2, q2, oa, s2⟩ := r_word (n := n) s1 (by omega) (by omega)
  obtain ⟨x, cs3, q3, hx, s3⟩ := r_bad_word s2 (by omega)
  obtain ⟨b, cs4, q4, ob, s4⟩ := r_word (n := 1 + n % 12) s3 (by omega) (by omega)
  have n1 : 1 ≤ n := by omega
  have n12 : n ≤ 12 := by omega
  have hlen : (strOf a.l).length = n := (strOf_len _).trans oa.len
  have hn2 : 1 + (n : Int) % 12 = ((1 + n % 12 : Nat) : Int) := by omega
  have hp := badW_pl x hx
  have hw := badW_no x hx
  have u1 := x_need_like1 (w := wd b.s b.l) (cs := cs4) hp hw
  have u2 := x_need_like2 (cs := cs4) oa n1 n12 hp hw
  have u3 := n_need_like (cs := cs4) ob oa (by omega) (by omega) n1 n12
  rw [if_neg (by omega)] at u3
  have u4 := x_need_word (cs := cs4) hp hw
  have v1 : m_goes_past [.dat x, wd b.s b.l] cs4 = .exc "BadWord" cs4 := by
    refine fn_ev ?_
    simp (disch := (first | assumption | omega | (simp only [List.length_cons, List.length_nil, List.length_map, List.length_append, List.length_replicate] <;> omega))) only [rb_ok, rb_exc, rb_bad, rb_ite, m_ret, m_badE, m_opt, m_optn, m_ite, rO_some, rO_none, rW_some, rW_none, rO_map, rW_map, s_var0, s_varS, s_c, s_bin, k_bin, s_lift, s_un, s_liftU, s_eqc, k_eqc, k_eqc2, eq_ii, ne_ii, eq_ss, ne_ss, eq_bb, ne_bb, s_cmpE, s_asB, s_tru, k_tru, rT_some, tru_d, tru_c, dtru_bl, dtru_non, dtru_int, dtru_lst, dtru_tup, s_and, s_or, s_not, k_and, k_or, k_not, s_yes, m_and, m_or, s_eand, k_eand, k_eand2, s_eor, k_eor, k_eor2, s_enot, k_enot, k_enot2, s_if, k_if, m_iteD, m_iteI, m_iteB, m_iteAnd, m_iteOr, m_iteS, s_chain, k_ch, k_ch2, k_ch3, k_ch4, s_anil, s_acons, k_arg, k_arg2, s_tup, s_lst, k_tup, k_lst, rL_some, dats_nil, dats_cons, opt_map_some, opt_map_none, opt_or_some, opt_or_none, opt_bind_some, s_ix, k_ix, k_ix2, wix_dd, wix_cd, ix_t, ix_l, ix_s, cix_l, cix_d, ix_d, at_0, at_1, at_2, s_sl, k_sl, k_sl2, k_sl3, s_onone, s_osome, k_asI, sl_d, sl_c, sl_l, sl_t, cut_hi, cut_lo, cut_lh, s_fn, k_fn0, k_fn1, k_fn2, k_fn3, k_fn4, k_fn5, k_fn6, s_fnp, k_fnp1, k_fnp2, k_fnp2r, k_fnp3, s_call, k_call, s_o1, s_o2, len_d, len_c, len_l, len_t, len_scr, len_s, clen_l, int_i, int_b, min_i, max_i, sq_dl, sq_cl, csq_l, lof_t, lof_l, tof_t, tof_l, s_meth, k_meth, k_meth_str, ok_str, mt_str1, mt_join, d_I0, d_mod, d_div, d_pow, d_shr, d_neg, d_mulL, d_mulR, d_mulS, d_addI, d_addS, d_addL, d_addT, s_seq, k_seq_nx, k_seq_rt, k_seq_bk, k_seq_ct, s_nil, s_ret, k_ret, s_retn, s_brk, s_cnt, s_expr, k_expr, s_sif, k_sif, s_set, k_set, s_asg, k_asg, rE_some, t_name, t_tup, t_cons, t_nil, s_par, k_par, s_par3, k_par3, s_raise, s_put, k_put, k_put2, k_put3, k_put4, put_is, s_for, k_for, s_while, s_iseq, as_l, as_t, as_s, as_scr, s_rg1, s_rg2, k_rg1, k_rg2, s_enum, k_enum_l, k_enum_s, s_zip, k_zip_l, k_zip_t, k_zip_s, s_off, k_of, rD_some, dats_mapd, s_flc, k_lc, wipe_nil, wipe_cons, s_celf, k_celf, s_flst, k_flst, k_fin_rt, k_fin_nx, start_nil, start_cons, repl_0, repl_S, s_caught, s_frz, k_frzd, s_fld, k_fld, s_rgl1, k_rgl1, s_rgl2, k_rgl, k_rgl2, s_flc2, k_lc2, s_new, k_new2, dk_cat, dk_cat2, dk_cat3, dk_nil, dk_cons, dk_val, dk_val2, dk_dicC, dk_dicC2, dk_dic, dk_dic2, dk_rK, dk_dat, dk_datn, eq_nn, ne_nn, lo_l, lo_t, lo_s, dk_frz, dk_rF, dk_cfrz, dk_methc, dk_rLst, dk_app, dk_rApp, dk_ext, dk_rExt, dk_snoc, dk_last, dk_setl, dk_putF, dk_putF2, dk_putF3, dk_putF4, dk_rPF, dk_new, dk_newT, dk_cfrzI, List.set_cons_zero, List.set_cons_succ, List.getElem?_cons_zero, List.getElem?_cons_succ, List.length_cons, List.length_nil, ↓reduceIte, Nat.reduceAdd, decide_eq_true_eq, Bool.not_true, Bool.not_false, Bool.true_and, Bool.false_and, Bool.and_true, Bool.and_false, Bool.or_true, Bool.or_false, Bool.true_or, Bool.false_or, reduceCtorEq, decide_true, decide_false, Bool.false_eq_true, Int.reduceLT, Int.reduceLE, Int.reduceNeg, Int.reduceAdd, Int.reduceSub, Int.reduceMul, Nat.reduceMul, Nat.reduceLeDiff, Nat.zero_add, Bool.not_not, beq_self_eq_true, bne_self_eq_false, not_true_eq_false, not_false_eq_true, Bool.not_eq_true, Option.some.injEq, List.map_cons, List.map_nil, List.isEmpty_cons, List.isEmpty_nil, and_self, and_true, true_and, Int.toNat_natCast, Int.natCast_nonneg, Int.reduceToNat, Int.reduceEq, Int.reduceNe, Nat.reduceLT, Int.reduceBEq, Int.reduceBNe, Bool.not_eq_eq_eq_not, eq_self, if_true, if_false, ite_self, b_goes_past, start_cons, start_nil, repl_S, repl_0, u1]
  have v2 : m_goes_past [wd a.s a.l, .dat x] cs4 = .exc "BadWord" cs4 := by
    refine fn_ev ?_
    simp (disch := (first | assumption | omega | (simp only [List.length_cons, List.length_nil, List.length_map, List.length_append, List.length_replicate] <;> omega))) only [rb_ok, rb_exc, rb_bad, rb_ite, m_ret, m_badE, m_opt, m_optn, m_ite, rO_some, rO_none, rW_some, rW_none, rO_map, rW_map, s_var0, s_varS, s_c, s_bin, k_bin, s_lift, s_un, s_liftU, s_eqc, k_eqc, k_eqc2, eq_ii, ne_ii, eq_ss, ne_ss, eq_bb, ne_bb, s_cmpE, s_asB, s_tru, k_tru, rT_some, tru_d, tru_c, dtru_bl, dtru_non, dtru_int, dtru_lst, dtru_tup, s_and, s_or, s_not, k_and, k_or, k_not, s_yes, m_and, m_or, s_eand, k_eand, k_eand2, s_eor, k_eor, k_eor2, s_enot, k_enot, k_enot2, s_if, k_if, m_iteD, m_iteI, m_iteB, m_iteAnd, m_iteOr, m_iteS, s_chain, k_ch, k_ch2, k_ch3, k_ch4, s_anil, s_acons, k_arg, k_arg2, s_tup, s_lst, k_tup, k_lst, rL_some, dats_nil, dats_cons, opt_map_some, opt_map_none, opt_or_some, opt_or_none, opt_bind_some, s_ix, k_ix, k_ix2, wix_dd, wix_cd, ix_t, ix_l, ix_s, cix_l, cix_d, ix_d, at_0, at_1, at_2, s_sl, k_sl, k_sl2, k_sl3, s_onone, s_osome, k_asI, sl_d, sl_c, sl_l, sl_t, cut_hi, cut_lo, cut_lh, s_fn, k_fn0, k_fn1, k_fn2, k_fn3, k_fn4, k_fn5, k_fn6, s_fnp, k_fnp1, k_fnp2, k_fnp2r, k_fnp3, s_call, k_call, s_o1, s_o2, len_d, len_c, len_l, len_t, len_scr, len_s, clen_l, int_i, int_b, min_i, max_i, sq_dl, sq_cl, csq_l, lof_t, lof_l, tof_t, tof_l, s_meth, k_meth, k_meth_str, ok_str, mt_str1, mt_join, d_I0, d_mod, d_div, d_pow, d_shr, d_neg, d_mulL, d_mulR, d_mulS, d_addI, d_addS, d_addL, d_addT, s_seq, k_seq_nx, k_seq_rt, k_seq_bk, k_seq_ct, s_nil, s_ret, k_ret, s_retn, s_brk, s_cnt, s_expr, k_expr, s_sif, k_sif, s_set, k_set, s_asg, k_asg, rE_some, t_name, t_tup, t_cons, t_nil, s_par, k_par, s_par3, k_par3, s_raise, s_put, k_put, k_put2, k_put3, k_put4, put_is, s_for, k_for, s_while, s_iseq, as_l, as_t, as_s, as_scr, s_rg1, s_rg2, k_rg1, k_rg2, s_enum, k_enum_l, k_enum_s, s_zip, k_zip_l, k_zip_t, k_zip_s, s_off, k_of, rD_some, dats_mapd, s_flc, k_lc, wipe_nil, wipe_cons, s_celf, k_celf, s_flst, k_flst, k_fin_rt, k_fin_nx, start_nil, start_cons, repl_0, repl_S, s_caught, s_frz, k_frzd, s_fld, k_fld, s_rgl1, k_rgl1, s_rgl2, k_rgl, k_rgl2, s_flc2, k_lc2, s_new, k_new2, dk_cat, dk_cat2, dk_cat3, dk_nil, dk_cons, dk_val, dk_val2, dk_dicC, dk_dicC2, dk_dic, dk_dic2, dk_rK, dk_dat, dk_datn, eq_nn, ne_nn, lo_l, lo_t, lo_s, dk_frz, dk_rF, dk_cfrz, dk_methc, dk_rLst, dk_app, dk_rApp, dk_ext, dk_rExt, dk_snoc, dk_last, dk_setl, dk_putF, dk_putF2, dk_putF3, dk_putF4, dk_rPF, dk_new, dk_newT, dk_cfrzI, List.set_cons_zero, List.set_cons_succ, List.getElem?_cons_zero, List.getElem?_cons_succ, List.length_cons, List.length_nil, ↓reduceIte, Nat.reduceAdd, decide_eq_true_eq, Bool.not_true, Bool.not_false, Bool.true_and, Bool.false_and, Bool.and_true, Bool.and_false, Bool.or_true, Bool.or_false, Bool.true_or, Bool.false_or, reduceCtorEq, decide_true, decide_false, Bool.false_eq_true, Int.reduceLT, Int.reduceLE, Int.reduceNeg, Int.reduceAdd, Int.reduceSub, Int.reduceMul, Nat.reduceMul, Nat.reduceLeDiff, Nat.zero_add, Bool.not_not, beq_self_eq_true, bne_self_eq_false, not_true_eq_false, not_false_eq_true, Bool.not_eq_true, Option.some.injEq, List.map_cons, List.map_nil, List.isEmpty_cons, List.isEmpty_nil, and_self, and_true, true_and, Int.toNat_natCast, Int.natCast_nonneg, Int.reduceToNat, Int.reduceEq, Int.reduceNe, Nat.reduceLT, Int.reduceBEq, Int.reduceBNe, Bool.not_eq_eq_eq_not, eq_self, if_true, if_false, ite_self, b_goes_past, start_cons, start_nil, repl_S, repl_0, u2]
  have v3 : m_goes_past [wd b.s b.l, wd a.s a.l] cs4 = .exc "OtherLength" cs4 := by
    refine fn_ev ?_
    simp (disch := (first | assumption | omega | (simp only [List.length_cons, List.length_nil, List.length_map, List.length_append, List.length_replicate] <;> omega))) only [rb_ok, rb_exc, rb_bad, rb_ite, m_ret, m_badE, m_opt, m_optn, m_ite, rO_some, rO_none, rW_some, rW_none, rO_map, rW_map, s_var0, s_varS, s_c, s_bin, k_bin, s_lift, s_un, s_liftU, s_eqc, k_eqc, k_eqc2, eq_ii, ne_ii, eq_ss, ne_ss, eq_bb, ne_bb, s_cmpE, s_asB, s_tru, k_tru, rT_some, tru_d, tru_c, dtru_bl, dtru_non, dtru_int, dtru_lst, dtru_tup, s_and, s_or, s_not, k_and, k_or, k_not, s_yes, m_and, m_or, s_eand, k_eand, k_eand2, s_eor, k_eor, k_eor2, s_enot, k_enot, k_enot2, s_if, k_if, m_iteD, m_iteI, m_iteB, m_iteAnd, m_iteOr, m_iteS, s_chain, k_ch, k_ch2, k_ch3, k_ch4, s_anil, s_acons, k_arg, k_arg2, s_tup, s_lst, k_tup, k_lst, rL_some, dats_nil, dats_cons, opt_map_some, opt_map_none, opt_or_some, opt_or_none, opt_bind_some, s_ix, k_ix, k_ix2, wix_dd, wix_cd, ix_t, ix_l, ix_s, cix_l, cix_d, ix_d, at_0, at_1, at_2, s_sl, k_sl, k_sl2, k_sl3, s_onone, s_osome, k_asI, sl_d, sl_c, sl_l, sl_t, cut_hi, cut_lo, cut_lh, s_fn, k_fn0, k_fn1, k_fn2, k_fn3, k_fn4, k_fn5, k_fn6, s_fnp, k_fnp1, k_fnp2, k_fnp2r, k_fnp3, s_call, k_call, s_o1, s_o2, len_d, len_c, len_l, len_t, len_scr, len_s, clen_l, int_i, int_b, min_i, max_i, sq_dl, sq_cl, csq_l, lof_t, lof_l, tof_t, tof_l, s_meth, k_meth, k_meth_str, ok_str, mt_str1, mt_join, d_I0, d_mod, d_div, d_pow, d_shr, d_neg, d_mulL, d_mulR, d_mulS, d_addI, d_addS, d_addL, d_addT, s_seq, k_seq_nx, k_seq_rt, k_seq_bk, k_seq_ct, s_nil, s_ret, k_ret, s_retn, s_brk, s_cnt, s_expr, k_expr, s_sif, k_sif, s_set, k_set, s_asg, k_asg, rE_some, t_name, t_tup, t_cons, t_nil, s_par, k_par, s_par3, k_par3, s_raise, s_put, k_put, k_put2, k_put3, k_put4, put_is, s_for, k_for, s_while, s_iseq, as_l, as_t, as_s, as_scr, s_rg1, s_rg2, k_rg1, k_rg2, s_enum, k_enum_l, k_enum_s, s_zip, k_zip_l, k_zip_t, k_zip_s, s_off, k_of, rD_some, dats_mapd, s_flc, k_lc, wipe_nil, wipe_cons, s_celf, k_celf, s_flst, k_flst, k_fin_rt, k_fin_nx, start_nil, start_cons, repl_0, repl_S, s_caught, s_frz, k_frzd, s_fld, k_fld, s_rgl1, k_rgl1, s_rgl2, k_rgl, k_rgl2, s_flc2, k_lc2, s_new, k_new2, dk_cat, dk_cat2, dk_cat3, dk_nil, dk_cons, dk_val, dk_val2, dk_dicC, dk_dicC2, dk_dic, dk_dic2, dk_rK, dk_dat, dk_datn, eq_nn, ne_nn, lo_l, lo_t, lo_s, dk_frz, dk_rF, dk_cfrz, dk_methc, dk_rLst, dk_app, dk_rApp, dk_ext, dk_rExt, dk_snoc, dk_last, dk_setl, dk_putF, dk_putF2, dk_putF3, dk_putF4, dk_rPF, dk_new, dk_newT, dk_cfrzI, List.set_cons_zero, List.set_cons_succ, List.getElem?_cons_zero, List.getElem?_cons_succ, List.length_cons, List.length_nil, ↓reduceIte, Nat.reduceAdd, decide_eq_true_eq, Bool.not_true, Bool.not_false, Bool.true_and, Bool.false_and, Bool.and_true, Bool.and_false, Bool.or_true, Bool.or_false, Bool.true_or, Bool.false_or, reduceCtorEq, decide_true, decide_false, Bool.false_eq_true, Int.reduceLT, Int.reduceLE, Int.reduceNeg, Int.reduceAdd, Int.reduceSub, Int.reduceMul, Nat.reduceMul, Nat.reduceLeDiff, Nat.zero_add, Bool.not_not, beq_self_eq_true, bne_self_eq_false, not_true_eq_false, not_false_eq_true, Bool.not_eq_true, Option.some.injEq, List.map_cons, List.map_nil, List.isEmpty_cons, List.isEmpty_nil, and_self, and_true, true_and, Int.toNat_natCast, Int.natCast_nonneg, Int.reduceToNat, Int.reduceEq, Int.reduceNe, Nat.reduceLT, Int.reduceBEq, Int.reduceBNe, Bool.not_eq_eq_eq_not, eq_self, if_true, if_false, ite_self, b_goes_past, start_cons, start_nil, repl_S, repl_0, u3]
  have v4 : m_is_turner [.dat x] cs4 = .exc "BadWord" cs4 := by
    refine fn_ev ?_
    simp (disch := (first | assumption | omega | (simp only [List.length_cons, List.length_nil, List.length_map, List.length_append, List.length_replicate] <;> omega))) only [rb_ok, rb_exc, rb_bad, rb_ite, m_ret, m_badE, m_opt, m_optn, m_ite, rO_some, rO_none, rW_some, rW_none, rO_map, rW_map, s_var0, s_varS, s_c, s_bin, k_bin, s_lift, s_un, s_liftU, s_eqc, k_eqc, k_eqc2, eq_ii, ne_ii, eq_ss, ne_ss, eq_bb, ne_bb, s_cmpE, s_asB, s_tru, k_tru, rT_some, tru_d, tru_c, dtru_bl, dtru_non, dtru_int, dtru_lst, dtru_tup, s_and, s_or, s_not, k_and, k_or, k_not, s_yes, m_and, m_or, s_eand, k_eand, k_eand2, s_eor, k_eor, k_eor2, s_enot, k_enot, k_enot2, s_if, k_if, m_iteD, m_iteI, m_iteB, m_iteAnd, m_iteOr, m_iteS, s_chain, k_ch, k_ch2, k_ch3, k_ch4, s_anil, s_acons, k_arg, k_arg2, s_tup, s_lst, k_tup, k_lst, rL_some, dats_nil, dats_cons, opt_map_some, opt_map_none, opt_or_some, opt_or_none, opt_bind_some, s_ix, k_ix, k_ix2, wix_dd, wix_cd, ix_t, ix_l, ix_s, cix_l, cix_d, ix_d, at_0, at_1, at_2, s_sl, k_sl, k_sl2, k_sl3, s_onone, s_osome, k_asI, sl_d, sl_c, sl_l, sl_t, cut_hi, cut_lo, cut_lh, s_fn, k_fn0, k_fn1, k_fn2, k_fn3, k_fn4, k_fn5, k_fn6, s_fnp, k_fnp1, k_fnp2, k_fnp2r, k_fnp3, s_call, k_call, s_o1, s_o2, len_d, len_c, len_l, len_t, len_scr, len_s, clen_l, int_i, int_b, min_i, max_i, sq_dl, sq_cl, csq_l, lof_t, lof_l, tof_t, tof_l, s_meth, k_meth, k_meth_str, ok_str, mt_str1, mt_join, d_I0, d_mod, d_div, d_pow, d_shr, d_neg, d_mulL, d_mulR, d_mulS, d_addI, d_addS, d_addL, d_addT, s_seq, k_seq_nx, k_seq_rt, k_seq_bk, k_seq_ct, s_nil, s_ret, k_ret, s_retn, s_brk, s_cnt, s_expr, k_expr, s_sif, k_sif, s_set, k_set, s_asg, k_asg, rE_some, t_name, t_tup, t_cons, t_nil, s_par, k_par, s_par3, k_par3, s_raise, s_put, k_put, k_put2, k_put3, k_put4, put_is, s_for, k_for, s_while, s_iseq, as_l, as_t, as_s, as_scr, s_rg1, s_rg2, k_rg1, k_rg2, s_enum, k_enum_l, k_enum_s, s_zip, k_zip_l, k_zip_t, k_zip_s, s_off, k_of, rD_some, dats_mapd, s_flc, k_lc, wipe_nil, wipe_cons, s_celf, k_celf, s_flst, k_flst, k_fin_rt, k_fin_nx, start_nil, start_cons, repl_0, repl_S, s_caught, s_frz, k_frzd, s_fld, k_fld, s_rgl1, k_rgl1, s_rgl2, k_rgl, k_rgl2, s_flc2, k_lc2, s_new, k_new2, dk_cat, dk_cat2, dk_cat3, dk_nil, dk_cons, dk_val, dk_val2, dk_dicC, dk_dicC2, dk_dic, dk_dic2, dk_rK, dk_dat, dk_datn, eq_nn, ne_nn, lo_l, lo_t, lo_s, dk_frz, dk_rF, dk_cfrz, dk_methc, dk_rLst, dk_app, dk_rApp, dk_ext, dk_rExt, dk_snoc, dk_last, dk_setl, dk_putF, dk_putF2, dk_putF3, dk_putF4, dk_rPF, dk_new, dk_newT, dk_cfrzI, List.set_cons_zero, List.set_cons_succ, List.getElem?_cons_zero, List.getElem?_cons_succ, List.length_cons, List.length_nil, ↓reduceIte, Nat.reduceAdd, decide_eq_true_eq, Bool.not_true, Bool.not_false, Bool.true_and, Bool.false_and, Bool.and_true, Bool.and_false, Bool.or_true, Bool.or_false, Bool.true_or, Bool.false_or, reduceCtorEq, decide_true, decide_false, Bool.false_eq_true, Int.reduceLT, Int.reduceLE, Int.reduceNeg, Int.reduceAdd, Int.reduceSub, Int.reduceMul, Nat.reduceMul, Nat.reduceLeDiff, Nat.zero_add, Bool.not_not, beq_self_eq_true, bne_self_eq_false, not_true_eq_false, not_false_eq_true, Bool.not_eq_true, Option.some.injEq, List.map_cons, List.map_nil, List.isEmpty_cons, List.isEmpty_nil, and_self, and_true, true_and, Int.toNat_natCast, Int.natCast_nonneg, Int.reduceToNat, Int.reduceEq, Int.reduceNe, Nat.reduceLT, Int.reduceBEq, Int.reduceBNe, Bool.not_eq_eq_eq_not, eq_self, if_true, if_false, ite_self, b_is_turner, start_cons, start_nil, repl_S, repl_0, u4]
  have i1 := isx_of (cs := cs4) F.mm_BadWord F.i_BadWord_BadWord
  have i2 := isx_of (cs := cs4) F.mm_OtherLength F.i_OtherLength_OtherLength
  have k1 := F.lk_BadWord
  have k2 := F.lk_OtherLength
  refine ⟨cs4, fn_ev ?_, s4.mono (by omega)⟩
  simp (disch := (first | assumption | omega | (simp only [List.length_cons, List.length_nil, List.length_map, List.length_append, List.length_replicate] <;> omega))) only [rb_ok, rb_exc, rb_bad, rb_ite, m_ret, m_badE, m_opt, m_optn, m_ite, rO_some, rO_none, rW_some, rW_none, rO_map, rW_map, s_var0, s_varS, s_c, s_bin, k_bin, s_lift, s_un, s_liftU, s_eqc, k_eqc, k_eqc2, eq_ii, ne_ii, eq_ss, ne_ss, eq_bb, ne_bb, s_cmpE, s_asB, s_tru, k_tru, rT_some, tru_d, tru_c, dtru_bl, dtru_non, dtru_int, dtru_lst, dtru_tup, s_and, s_or, s_not, k_and, k_or, k_not, s_yes, m_and, m_or, s_eand, k_eand, k_eand2, s_eor, k_eor, k_eor2, s_enot, k_enot, k_enot2, s_if, k_if, m_iteD, m_iteI, m_iteB, m_iteAnd, m_iteOr, m_iteS, s_chain, k_ch, k_ch2, k_ch3, k_ch4, s_anil, s_acons, k_arg, k_arg2, s_tup, s_lst, k_tup, k_lst, rL_some, dats_nil, dats_cons, opt_map_some, opt_map_none, opt_or_some, opt_or_none, opt_bind_some, s_ix, k_ix, k_ix2, wix_dd, wix_cd, ix_t, ix_l, ix_s, cix_l, cix_d, ix_d, at_0, at_1, at_2, s_sl, k_sl, k_sl2, k_sl3, s_onone, s_osome, k_asI, sl_d, sl_c, sl_l, sl_t, cut_hi, cut_lo, cut_lh, s_fn, k_fn0, k_fn1, k_fn2, k_fn3, k_fn4, k_fn5, k_fn6, s_fnp, k_fnp1, k_fnp2, k_fnp2r, k_fnp3, s_call, k_call, s_o1, s_o2, len_d, len_c, len_l, len_t, len_scr, len_s, clen_l, int_i, int_b, min_i, max_i, sq_dl, sq_cl, csq_l, lof_t, lof_l, tof_t, tof_l, s_meth, k_meth, k_meth_str, ok_str, mt_str1, mt_join, d_I0, d_mod, d_div, d_pow, d_shr, d_neg, d_mulL, d_mulR, d_mulS, d_addI, d_addS, d_addL, d_addT, s_seq, k_seq_nx, k_seq_rt, k_seq_bk, k_seq_ct, s_nil, s_ret, k_ret, s_retn, s_brk, s_cnt, s_expr, k_expr, s_sif, k_sif, s_set, k_set, s_asg, k_asg, rE_some, t_name, t_tup, t_cons, t_nil, s_par, k_par, s_par3, k_par3, s_raise, s_put, k_put, k_put2, k_put3, k_put4, put_is, s_for, k_for, s_while, s_iseq, as_l, as_t, as_s, as_scr, s_rg1, s_rg2, k_rg1, k_rg2, s_enum, k_enum_l, k_enum_s, s_zip, k_zip_l, k_zip_t, k_zip_s, s_off, k_of, rD_some, dats_mapd, s_flc, k_lc, wipe_nil, wipe_cons, s_celf, k_celf, s_flst, k_flst, k_fin_rt, k_fin_nx, start_nil, start_cons, repl_0, repl_S, s_caught, s_frz, k_frzd, s_fld, k_fld, s_rgl1, k_rgl1, s_rgl2, k_rgl, k_rgl2, s_flc2, k_lc2, s_new, k_new2, dk_cat, dk_cat2, dk_cat3, dk_nil, dk_cons, dk_val, dk_val2, dk_dicC, dk_dicC2, dk_dic, dk_dic2, dk_rK, dk_dat, dk_datn, eq_nn, ne_nn, lo_l, lo_t, lo_s, dk_frz, dk_rF, dk_cfrz, dk_methc, dk_rLst, dk_app, dk_rApp, dk_ext, dk_rExt, dk_snoc, dk_last, dk_setl, dk_putF, dk_putF2, dk_putF3, dk_putF4, dk_rPF, dk_new, dk_newT, dk_cfrzI, List.set_cons_zero, List.set_cons_succ, List.getElem?_cons_zero, List.getElem?_cons_succ, List.length_cons, List.length_nil, ↓reduceIte, Nat.reduceAdd, decide_eq_true_eq, Bool.not_true, Bool.not_false, Bool.true_and, Bool.false_and, Bool.and_true, Bool.and_false, Bool.or_true, Bool.or_false, Bool.true_or, Bool.false_or, reduceCtorEq, decide_true, decide_false, Bool.false_eq_true, Int.reduceLT, Int.reduceLE, Int.reduceNeg, Int.reduceAdd, Int.reduceSub, Int.reduceMul, Nat.reduceMul, Nat.reduceLeDiff, Nat.zero_add, Bool.not_not, beq_self_eq_true, bne_self_eq_false, not_true_eq_false, not_false_eq_true, Bool.not_eq_true, Option.some.injEq, List.map_cons, List.map_nil, List.isEmpty_cons, List.isEmpty_nil, and_self, and_true, true_and, Int.toNat_natCast, Int.natCast_nonneg, Int.reduceToNat, Int.reduceEq, Int.reduceNe, Nat.reduceLT, Int.reduceBEq, Int.reduceBNe, Bool.not_eq_eq_eq_not, eq_self, if_true, if_false, ite_self, b__law_refuses, start_cons, start_nil, repl_S, repl_0, q1, hn, q2, q3, dix_w1, hlen, hn2, q4, mCaught, v1, v2, v3, v4, k1, k2, i1, i2]
theorem r_turns (V : Ax) (F : AxF_k01 V) (sc : Option Wv) : ∀ (ws : List Wv) (cs xt : List Cell) (t : Nat) (e2 : Option Wv), St cs xt t → t + 1000 * ws.length + 1000 < 1000000 → ∃ cs' f2, loopS (tName 2) (lb_law_0 V) ws [sc, some (.cel 1), e2] cs = .ok (.nx [sc, some (.cel 1), f2]) cs'
  | [], cs, xt, t, e2, _, _ => ⟨cs, e2, rfl⟩
  | w :: ws, cs, xt, t, e2, hs, ht => by
    simp only [List.length_cons] at ht
    obtain ⟨cs1, xt1, q1, s1⟩ := r_is_right V hs (by omega)
    obtain ⟨cs2, q2, s2⟩ := r_refuses V F s1 (by omega)
    obtain ⟨cs3, f2, q3⟩ := r_turns V F sc ws cs2 xt1 (t + 100 + 100) (some w) s2 (by omega)
    refine ⟨cs3, f2, ?_⟩
    have b1 : lb_law_0 V [sc, some (.cel 1), some w] cs = .ok (.nx [sc, some (.cel 1), some w]) cs2 := by
      simp (disch := (first | assumption | omega | (simp only [List.length_cons, List.length_nil, List.length_map, List.length_append, List.length_replicate] <;> omega))) only [rb_ok, rb_exc, rb_bad, rb_ite, m_ret, m_badE, m_opt, m_optn, m_ite, rO_some, rO_none, rW_some, rW_none, rO_map, rW_map, s_var0, s_varS, s_c, s_bin, k_bin, s_lift, s_un, s_liftU, s_eqc, k_eqc, k_eqc2, eq_ii, ne_ii, eq_ss, ne_ss, eq_bb, ne_bb, s_cmpE, s_asB, s_tru, k_tru, rT_some, tru_d, tru_c, dtru_bl, dtru_non, dtru_int, dtru_lst, dtru_tup, s_and, s_or, s_not, k_and, k_or, k_not, s_yes, m_and, m_or, s_eand, k_eand, k_eand2, s_eor, k_eor, k_eor2, s_enot, k_enot, k_enot2, s_if, k_if, m_iteD, m_iteI, m_iteB, m_iteAnd, m_iteOr, m_iteS, s_chain, k_ch, k_ch2, k_ch3, k_ch4, s_anil, s_acons, k_arg, k_arg2, s_tup, s_lst, k_tup, k_lst, rL_some, dats_nil, dats_cons, opt_map_some, opt_map_none, opt_or_some, opt_or_none, opt_bind_some, s_ix, k_ix, k_ix2, wix_dd, wix_cd, ix_t, ix_l, ix_s, cix_l, cix_d, ix_d, at_0, at_1, at_2, s_sl, k_sl, k_sl2, k_sl3, s_onone, s_osome, k_asI, sl_d, sl_c, sl_l, sl_t, cut_hi, cut_lo, cut_lh, s_fn, k_fn0, k_fn1, k_fn2, k_fn3, k_fn4, k_fn5, k_fn6, s_fnp, k_fnp1, k_fnp2, k_fnp2r, k_fnp3, s_call, k_call, s_o1, s_o2, len_d, len_c, len_l, len_t, len_scr, len_s, clen_l, int_i, int_b, min_i, max_i, sq_dl, sq_cl, csq_l, lof_t, lof_l, tof_t, tof_l, s_meth, k_meth, k_meth_str, ok_str, mt_str1, mt_join, d_I0, d_mod, d_div, d_pow, d_shr, d_neg, d_mulL, d_mulR, d_mulS, d_addI, d_addS, d_addL, d_addT, s_seq, k_seq_nx, k_seq_rt, k_seq_bk, k_seq_ct, s_nil, s_ret, k_ret, s_retn, s_brk, s_cnt, s_expr, k_expr, s_sif, k_sif, s_set, k_set, s_asg, k_asg, rE_some, t_name, t_tup, t_cons, t_nil, s_par, k_par, s_par3, k_par3, s_raise, s_put, k_put, k_put2, k_put3, k_put4, put_is, s_for, k_for, s_while, s_iseq, as_l, as_t, as_s, as_scr, s_rg1, s_rg2, k_rg1, k_rg2, s_enum, k_enum_l, k_enum_s, s_zip, k_zip_l, k_zip_t, k_zip_s, s_off, k_of, rD_some, dats_mapd, s_flc, k_lc, wipe_nil, wipe_cons, s_celf, k_celf, s_flst, k_flst, k_fin_rt, k_fin_nx, start_nil, start_cons, repl_0, repl_S, s_caught, s_frz, k_frzd, s_fld, k_fld, s_rgl1, k_rgl1, s_rgl2, k_rgl, k_rgl2, s_flc2, k_lc2, s_new, k_new2, dk_cat, dk_cat2, dk_cat3, dk_nil, dk_cons, dk_val, dk_val2, dk_dicC, dk_dicC2, dk_dic, dk_dic2, dk_rK, dk_dat, dk_datn, eq_nn, ne_nn, lo_l, lo_t, lo_s, dk_frz, dk_rF, dk_cfrz, dk_methc, dk_rLst, dk_app, dk_rApp, dk_ext, dk_rExt, dk_snoc, dk_last, dk_setl, dk_putF, dk_putF2, dk_putF3, dk_putF4, dk_rPF, dk_new, dk_newT, dk_cfrzI, List.set_cons_zero, List.set_cons_succ, List.getElem?_cons_zero, List.getElem?_cons_succ, List.length_cons, List.length_nil, ↓reduceIte, Nat.reduceAdd, decide_eq_true_eq, Bool.not_true, Bool.not_false, Bool.true_and, Bool.false_and, Bool.and_true, Bool.and_false, Bool.or_true, Bool.or_false, Bool.true_or, Bool.false_or, reduceCtorEq, decide_true, decide_false, Bool.false_eq_true, Int.reduceLT, Int.reduceLE, Int.reduceNeg, Int.reduceAdd, Int.reduceSub, Int.reduceMul, Nat.reduceMul, Nat.reduceLeDiff, Nat.zero_add, Bool.not_not, beq_self_eq_true, bne_self_eq_false, not_true_eq_false, not_false_eq_true, Bool.not_eq_true, Option.some.injEq, List.map_cons, List.map_nil, List.isEmpty_cons, List.isEmpty_nil, and_self, and_true, true_and, Int.toNat_natCast, Int.natCast_nonneg, Int.reduceToNat, Int.reduceEq, Int.reduceNe, Nat.reduceLT, Int.reduceBEq, Int.reduceBNe, Bool.not_eq_eq_eq_not, eq_self, if_true, if_false, ite_self, lb_law_0, q1, q2]
    rw [loopS, mb]
    simp (disch := (first | assumption | omega | (simp only [List.length_cons, List.length_nil, List.length_map, List.length_append, List.length_replicate] <;> omega))) only [rb_ok, rb_exc, rb_bad, rb_ite, m_ret, m_badE, m_opt, m_optn, m_ite, rO_some, rO_none, rW_some, rW_none, rO_map, rW_map, s_var0, s_varS, s_c, s_bin, k_bin, s_lift, s_un, s_liftU, s_eqc, k_eqc, k_eqc2, eq_ii, ne_ii, eq_ss, ne_ss, eq_bb, ne_bb, s_cmpE, s_asB, s_tru, k_tru, rT_some, tru_d, tru_c, dtru_bl, dtru_non, dtru_int, dtru_lst, dtru_tup, s_and, s_or, s_not, k_and, k_or, k_not, s_yes, m_and, m_or, s_eand, k_eand, k_eand2, s_eor, k_eor, k_eor2, s_enot, k_enot, k_enot2, s_if, k_if, m_iteD, m_iteI, m_iteB, m_iteAnd, m_iteOr, m_iteS, s_chain, k_ch, k_ch2, k_ch3, k_ch4, s_anil, s_acons, k_arg, k_arg2, s_tup, s_lst, k_tup, k_lst, rL_some, dats_nil, dats_cons, opt_map_some, opt_map_none, opt_or_some, opt_or_none, opt_bind_some, s_ix, k_ix, k_ix2, wix_dd, wix_cd, ix_t, ix_l, ix_s, cix_l, cix_d, ix_d, at_0, at_1, at_2, s_sl, k_sl, k_sl2, k_sl3, s_onone, s_osome, k_asI, sl_d, sl_c, sl_l, sl_t, cut_hi, cut_lo, cut_lh, s_fn, k_fn0, k_fn1, k_fn2, k_fn3, k_fn4, k_fn5, k_fn6, s_fnp, k_fnp1, k_fnp2, k_fnp2r, k_fnp3, s_call, k_call, s_o1, s_o2, len_d, len_c, len_l, len_t, len_scr, len_s, clen_l, int_i, int_b, min_i, max_i, sq_dl, sq_cl, csq_l, lof_t, lof_l, tof_t, tof_l, s_meth, k_meth, k_meth_str, ok_str, mt_str1, mt_join, d_I0, d_mod, d_div, d_pow, d_shr, d_neg, d_mulL, d_mulR, d_mulS, d_addI, d_addS, d_addL, d_addT, s_seq, k_seq_nx, k_seq_rt, k_seq_bk, k_seq_ct, s_nil, s_ret, k_ret, s_retn, s_brk, s_cnt, s_expr, k_expr, s_sif, k_sif, s_set, k_set, s_asg, k_asg, rE_some, t_name, t_tup, t_cons, t_nil, s_par, k_par, s_par3, k_par3, s_raise, s_put, k_put, k_put2, k_put3, k_put4, put_is, s_for, k_for, s_while, s_iseq, as_l, as_t, as_s, as_scr, s_rg1, s_rg2, k_rg1, k_rg2, s_enum, k_enum_l, k_enum_s, s_zip, k_zip_l, k_zip_t, k_zip_s, s_off, k_of, rD_some, dats_mapd, s_flc, k_lc, wipe_nil, wipe_cons, s_celf, k_celf, s_flst, k_flst, k_fin_rt, k_fin_nx, start_nil, start_cons, repl_0, repl_S, s_caught, s_frz, k_frzd, s_fld, k_fld, s_rgl1, k_rgl1, s_rgl2, k_rgl, k_rgl2, s_flc2, k_lc2, s_new, k_new2, dk_cat, dk_cat2, dk_cat3, dk_nil, dk_cons, dk_val, dk_val2, dk_dicC, dk_dicC2, dk_dic, dk_dic2, dk_rK, dk_dat, dk_datn, eq_nn, ne_nn, lo_l, lo_t, lo_s, dk_frz, dk_rF, dk_cfrz, dk_methc, dk_rLst, dk_app, dk_rApp, dk_ext, dk_rExt, dk_snoc, dk_last, dk_setl, dk_putF, dk_putF2, dk_putF3, dk_putF4, dk_rPF, dk_new, dk_newT, dk_cfrzI, List.set_cons_zero, List.set_cons_succ, List.getElem?_cons_zero, List.getElem?_cons_succ, List.length_cons, List.length_nil, ↓reduceIte, Nat.reduceAdd, decide_eq_true_eq, Bool.not_true, Bool.not_false, Bool.true_and, Bool.false_and, Bool.and_true, Bool.and_false, Bool.or_true, Bool.or_false, Bool.true_or, Bool.false_or, reduceCtorEq, decide_true, decide_false, Bool.false_eq_true, Int.reduceLT, Int.reduceLE, Int.reduceNeg, Int.reduceAdd, Int.reduceSub, Int.reduceMul, Nat.reduceMul, Nat.reduceLeDiff, Nat.zero_add, Bool.not_not, beq_self_eq_true, bne_self_eq_false, not_true_eq_false, not_false_eq_true, Bool.not_eq_true, Option.some.injEq, List.map_cons, List.map_nil, List.isEmpty_cons, List.isEmpty_nil, and_self, and_true, true_and, Int.toNat_natCast, Int.natCast_nonneg, Int.reduceToNat, Int.reduceEq, Int.reduceNe, Nat.reduceLT, Int.reduceBEq, Int.reduceBNe, Bool.not_eq_eq_eq_not, eq_self, if_true, if_false, ite_self, mb, b1]
    exact q3
theorem law_true (V : Ax) (F : AxF_k01 V) (ns : List Int) (hl : ns.length ≤ 63) (hb : ∀ z ∈ ns, Builtin.Int.intBits z ≤ 1048576) : ∃ cs', m_law V [.dat (.scr ns)] [] = .ok (.dat (.bl true)) cs' := by
  obtain ⟨cs1, q1, s1⟩ := r_begun hl
  obtain ⟨cs2, f2, q2⟩ := r_turns V F (some (.dat (.scr ns))) (rangeW 0 (1 + min (ns.length : Int) 3).toNat) cs1 [] 0 none s1 (by simp [rangeW]; omega)
  refine ⟨cs2, fn_ev ?_⟩
  simp (disch := (first | assumption | omega | (simp only [List.length_cons, List.length_nil, List.length_map, List.length_append, List.length_replicate] <;> omega))) only [rb_ok, rb_exc, rb_bad, rb_ite, m_ret, m_badE, m_opt, m_optn, m_ite, rO_some, rO_none, rW_some, rW_none, rO_map, rW_map, s_var0, s_varS, s_c, s_bin, k_bin, s_lift, s_un, s_liftU, s_eqc, k_eqc, k_eqc2, eq_ii, ne_ii, eq_ss, ne_ss, eq_bb, ne_bb, s_cmpE, s_asB, s_tru, k_tru, rT_some, tru_d, tru_c, dtru_bl, dtru_non, dtru_int, dtru_lst, dtru_tup, s_and, s_or, s_not, k_and, k_or, k_not, s_yes, m_and, m_or, s_eand, k_eand, k_eand2, s_eor, k_eor, k_eor2, s_enot, k_enot, k_enot2, s_if, k_if, m_iteD, m_iteI, m_iteB, m_iteAnd, m_iteOr, m_iteS, s_chain, k_ch, k_ch2, k_ch3, k_ch4, s_anil, s_acons, k_arg, k_arg2, s_tup, s_lst, k_tup, k_lst, rL_some, dats_nil, dats_cons, opt_map_some, opt_map_none, opt_or_some, opt_or_none, opt_bind_some, s_ix, k_ix, k_ix2, wix_dd, wix_cd, ix_t, ix_l, ix_s, cix_l, cix_d, ix_d, at_0, at_1, at_2, s_sl, k_sl, k_sl2, k_sl3, s_onone, s_osome, k_asI, sl_d, sl_c, sl_l, sl_t, cut_hi, cut_lo, cut_lh, s_fn, k_fn0, k_fn1, k_fn2, k_fn3, k_fn4, k_fn5, k_fn6, s_fnp, k_fnp1, k_fnp2, k_fnp2r, k_fnp3, s_call, k_call, s_o1, s_o2, len_d, len_c, len_l, len_t, len_scr, len_s, clen_l, int_i, int_b, min_i, max_i, sq_dl, sq_cl, csq_l, lof_t, lof_l, tof_t, tof_l, s_meth, k_meth, k_meth_str, ok_str, mt_str1, mt_join, d_I0, d_mod, d_div, d_pow, d_shr, d_neg, d_mulL, d_mulR, d_mulS, d_addI, d_addS, d_addL, d_addT, s_seq, k_seq_nx, k_seq_rt, k_seq_bk, k_seq_ct, s_nil, s_ret, k_ret, s_retn, s_brk, s_cnt, s_expr, k_expr, s_sif, k_sif, s_set, k_set, s_asg, k_asg, rE_some, t_name, t_tup, t_cons, t_nil, s_par, k_par, s_par3, k_par3, s_raise, s_put, k_put, k_put2, k_put3, k_put4, put_is, s_for, k_for, s_while, s_iseq, as_l, as_t, as_s, as_scr, s_rg1, s_rg2, k_rg1, k_rg2, s_enum, k_enum_l, k_enum_s, s_zip, k_zip_l, k_zip_t, k_zip_s, s_off, k_of, rD_some, dats_mapd, s_flc, k_lc, wipe_nil, wipe_cons, s_celf, k_celf, s_flst, k_flst, k_fin_rt, k_fin_nx, start_nil, start_cons, repl_0, repl_S, s_caught, s_frz, k_frzd, s_fld, k_fld, s_rgl1, k_rgl1, s_rgl2, k_rgl, k_rgl2, s_flc2, k_lc2, s_new, k_new2, dk_cat, dk_cat2, dk_cat3, dk_nil, dk_cons, dk_val, dk_val2, dk_dicC, dk_dicC2, dk_dic, dk_dic2, dk_rK, dk_dat, dk_datn, eq_nn, ne_nn, lo_l, lo_t, lo_s, dk_frz, dk_rF, dk_cfrz, dk_methc, dk_rLst, dk_app, dk_rApp, dk_ext, dk_rExt, dk_snoc, dk_last, dk_setl, dk_putF, dk_putF2, dk_putF3, dk_putF4, dk_rPF, dk_new, dk_newT, dk_cfrzI, List.set_cons_zero, List.set_cons_succ, List.getElem?_cons_zero, List.getElem?_cons_succ, List.length_cons, List.length_nil, ↓reduceIte, Nat.reduceAdd, decide_eq_true_eq, Bool.not_true, Bool.not_false, Bool.true_and, Bool.false_and, Bool.and_true, Bool.and_false, Bool.or_true, Bool.or_false, Bool.true_or, Bool.false_or, reduceCtorEq, decide_true, decide_false, Bool.false_eq_true, Int.reduceLT, Int.reduceLE, Int.reduceNeg, Int.reduceAdd, Int.reduceSub, Int.reduceMul, Nat.reduceMul, Nat.reduceLeDiff, Nat.zero_add, Bool.not_not, beq_self_eq_true, bne_self_eq_false, not_true_eq_false, not_false_eq_true, Bool.not_eq_true, Option.some.injEq, List.map_cons, List.map_nil, List.isEmpty_cons, List.isEmpty_nil, and_self, and_true, true_and, Int.toNat_natCast, Int.natCast_nonneg, Int.reduceToNat, Int.reduceEq, Int.reduceNe, Nat.reduceLT, Int.reduceBEq, Int.reduceBNe, Bool.not_eq_eq_eq_not, eq_self, if_true, if_false, ite_self, b_law, start_cons, start_nil, repl_S, repl_0, q1, q2]
end DX

set_option Elab.async false
set_option linter.all false
set_option maxRecDepth 100000
set_option maxHeartbeats 4000000
namespace DX
open PySem PySem.Spec PyProof.Rows L2
theorem all_mk {q : Program} {l : PySem.W.OpenLaw} {w : World} {K : Frag} {h : Heap} {mg : MG} {fa : Addr} (X : K.In h) (G : h.Ns mainGlobals mg) (hfa : mg "law" = some (.ref fa))
    (hts : ∀ x c P d, (recsOf q).find? (fun e => e.name == x) = some d → PySem.W.tabIn K x = some (c, P) → PySem.W.CodeHd h c P ∧ h.get? P = some { cls := .none, data := .fields #[] })
    {CHall : Addr}
    {f0 : Addr} {od0 an0 : Option Addr} {sl0 : Array (Option Value)} {oc0 kV0 dc0 pm0 cd0 ct0 : Value}
    {f1 : Addr} {od1 an1 : Option Addr} {sl1 : Array (Option Value)} {oc1 kV1 dc1 pm1 cd1 ct1 : Value}
    {f2 : Addr} {od2 an2 : Option Addr} {sl2 : Array (Option Value)} {oc2 kV2 dc2 pm2 cd2 ct2 : Value}
    {f3 : Addr} {od3 an3 : Option Addr} {sl3 : Array (Option Value)} {oc3 kV3 dc3 pm3 cd3 ct3 : Value}
    {f4 : Addr} {od4 an4 : Option Addr} {sl4 : Array (Option Value)} {oc4 kV4 dc4 pm4 cd4 ct4 : Value}
    {f5 : Addr} {od5 an5 : Option Addr} {sl5 : Array (Option Value)} {oc5 kV5 dc5 pm5 cd5 ct5 : Value}
    {f6 : Addr} {od6 an6 : Option Addr} {sl6 : Array (Option Value)} {oc6 kV6 dc6 pm6 cd6 ct6 : Value}
    {f7 : Addr} {od7 an7 : Option Addr} {sl7 : Array (Option Value)} {oc7 kV7 dc7 pm7 cd7 ct7 : Value}
    {f8 : Addr} {od8 an8 : Option Addr} {sl8 : Array (Option Value)} {oc8 kV8 dc8 pm8 cd8 ct8 : Value}
    {f9 : Addr} {od9 an9 : Option Addr} {sl9 : Array (Option Value)} {oc9 kV9 dc9 pm9 cd9 ct9 : Value}
    {f10 : Addr} {od10 an10 : Option Addr} {sl10 : Array (Option Value)} {oc10 kV10 dc10 pm10 cd10 ct10 : Value}
    {f11 : Addr} {od11 an11 : Option Addr} {sl11 : Array (Option Value)} {oc11 kV11 dc11 pm11 cd11 ct11 : Value}
    {f12 : Addr} {od12 an12 : Option Addr} {sl12 : Array (Option Value)} {oc12 kV12 dc12 pm12 cd12 ct12 : Value}
    {f13 : Addr} {od13 an13 : Option Addr} {sl13 : Array (Option Value)} {oc13 kV13 dc13 pm13 cd13 ct13 : Value}
    {f14 : Addr} {od14 an14 : Option Addr} {sl14 : Array (Option Value)} {oc14 kV14 dc14 pm14 cd14 ct14 : Value}
    {f15 : Addr} {od15 an15 : Option Addr} {sl15 : Array (Option Value)} {oc15 kV15 dc15 pm15 cd15 ct15 : Value}
    {f16 : Addr} {od16 an16 : Option Addr} {sl16 : Array (Option Value)} {oc16 kV16 dc16 pm16 cd16 ct16 : Value}
    {f17 : Addr} {od17 an17 : Option Addr} {sl17 : Array (Option Value)} {oc17 kV17 dc17 pm17 cd17 ct17 : Value}
    {f18 : Addr} {od18 an18 : Option Addr} {sl18 : Array (Option Value)} {oc18 kV18 dc18 pm18 cd18 ct18 : Value}
    {f19 : Addr} {od19 an19 : Option Addr} {sl19 : Array (Option Value)} {oc19 kV19 dc19 pm19 cd19 ct19 : Value}
    {f20 : Addr} {od20 an20 : Option Addr} {sl20 : Array (Option Value)} {oc20 kV20 dc20 pm20 cd20 ct20 : Value}
    {f21 : Addr} {od21 an21 : Option Addr} {sl21 : Array (Option Value)} {oc21 kV21 dc21 pm21 cd21 ct21 : Value}
    {f22 : Addr} {od22 an22 : Option Addr} {sl22 : Array (Option Value)} {oc22 kV22 dc22 pm22 cd22 ct22 : Value}
    {f23 : Addr} {od23 an23 : Option Addr} {sl23 : Array (Option Value)} {oc23 kV23 dc23 pm23 cd23 ct23 : Value}
    {f24 : Addr} {od24 an24 : Option Addr} {sl24 : Array (Option Value)} {oc24 kV24 dc24 pm24 cd24 ct24 : Value}
    {f25 : Addr} {od25 an25 : Option Addr} {sl25 : Array (Option Value)} {oc25 kV25 dc25 pm25 cd25 ct25 : Value}
    {f26 : Addr} {od26 an26 : Option Addr} {sl26 : Array (Option Value)} {oc26 kV26 dc26 pm26 cd26 ct26 : Value}
    {f27 : Addr} {od27 an27 : Option Addr} {sl27 : Array (Option Value)} {oc27 kV27 dc27 pm27 cd27 ct27 : Value}
    {f28 : Addr} {od28 an28 : Option Addr} {sl28 : Array (Option Value)} {oc28 kV28 dc28 pm28 cd28 ct28 : Value}
    {f29 : Addr} {od29 an29 : Option Addr} {sl29 : Array (Option Value)} {oc29 kV29 dc29 pm29 cd29 ct29 : Value}
    {f30 : Addr} {od30 an30 : Option Addr} {sl30 : Array (Option Value)} {oc30 kV30 dc30 pm30 cd30 ct30 : Value}
    {f31 : Addr} {od31 an31 : Option Addr} {sl31 : Array (Option Value)} {oc31 kV31 dc31 pm31 cd31 ct31 : Value}
    {f32 : Addr} {od32 an32 : Option Addr} {sl32 : Array (Option Value)} {oc32 kV32 dc32 pm32 cd32 ct32 : Value}
    {f33 : Addr} {od33 an33 : Option Addr} {sl33 : Array (Option Value)} {oc33 kV33 dc33 pm33 cd33 ct33 : Value}
    {f34 : Addr} {od34 an34 : Option Addr} {sl34 : Array (Option Value)} {oc34 kV34 dc34 pm34 cd34 ct34 : Value}
    {f35 : Addr} {od35 an35 : Option Addr} {sl35 : Array (Option Value)} {oc35 kV35 dc35 pm35 cd35 ct35 : Value}
    {f36 : Addr} {od36 an36 : Option Addr} {sl36 : Array (Option Value)} {oc36 kV36 dc36 pm36 cd36 ct36 : Value}
    {f37 : Addr} {od37 an37 : Option Addr} {sl37 : Array (Option Value)} {oc37 kV37 dc37 pm37 cd37 ct37 : Value}
    {CTurnError : Addr}
    {CBadWord : Addr}
    {COtherLength : Addr}
    {CBadMany : Addr}
    {CBadBenches : Addr}
    {tLETTERS : Tok}
    {tMOST_LENGTH : Tok}
    {tA_FIGURES : Tok}
    {tMOST_TURNERS : Tok}
    {tMOST_BENCHES : Tok}
    {tMOST_CREW : Tok}
    {tc36 tP36 : Addr} {td36 : DefRec}
    (u1Hall : PySem.W.nsIn K mainGlobals "Hall" = some (some (.ref CHall)))
    (a0 : PySem.W.nsIn K mainGlobals "_law_begun" = some (some (.ref f0)))
    (l0 : K.lookup f0 = some ⟨oc0, od0, .func (PySem.W.fnOf "_law_begun" "_law_begun" (defArgs s__law_begun) (defBody s__law_begun) (defScope s__law_begun) .none kV0 dc0 pm0 an0 cd0 ct0), sl0⟩)
    (c0 : PySem.W.codeIn K cd0 "_law_begun" = true)
    (k0 : PySem.W.keepIn K (.ref f0) = true)
    (a1 : PySem.W.nsIn K mainGlobals "_law_draw" = some (some (.ref f1)))
    (l1 : K.lookup f1 = some ⟨oc1, od1, .func (PySem.W.fnOf "_law_draw" "_law_draw" (defArgs s__law_draw) (defBody s__law_draw) (defScope s__law_draw) .none kV1 dc1 pm1 an1 cd1 ct1), sl1⟩)
    (c1 : PySem.W.codeIn K cd1 "_law_draw" = true)
    (k1 : PySem.W.keepIn K (.ref f1) = true)
    (a2 : PySem.W.nsIn K mainGlobals "_law_pick" = some (some (.ref f2)))
    (l2 : K.lookup f2 = some ⟨oc2, od2, .func (PySem.W.fnOf "_law_pick" "_law_pick" (defArgs s__law_pick) (defBody s__law_pick) (defScope s__law_pick) .none kV2 dc2 pm2 an2 cd2 ct2), sl2⟩)
    (c2 : PySem.W.codeIn K cd2 "_law_pick" = true)
    (k2 : PySem.W.keepIn K (.ref f2) = true)
    (a3 : PySem.W.nsIn K mainGlobals "_law_word" = some (some (.ref f3)))
    (l3 : K.lookup f3 = some ⟨oc3, od3, .func (PySem.W.fnOf "_law_word" "_law_word" (defArgs s__law_word) (defBody s__law_word) (defScope s__law_word) .none kV3 dc3 pm3 an3 cd3 ct3), sl3⟩)
    (c3 : PySem.W.codeIn K cd3 "_law_word" = true)
    (k3 : PySem.W.keepIn K (.ref f3) = true)
    (a4 : PySem.W.nsIn K mainGlobals "_law_minus" = some (some (.ref f4)))
    (l4 : K.lookup f4 = some ⟨oc4, od4, .func (PySem.W.fnOf "_law_minus" "_law_minus" (defArgs s__law_minus) (defBody s__law_minus) (defScope s__law_minus) .none kV4 dc4 pm4 an4 cd4 ct4), sl4⟩)
    (c4 : PySem.W.codeIn K cd4 "_law_minus" = true)
    (k4 : PySem.W.keepIn K (.ref f4) = true)
    (a5 : PySem.W.nsIn K mainGlobals "is_number" = some (some (.ref f5)))
    (l5 : K.lookup f5 = some ⟨oc5, od5, .func (PySem.W.fnOf "is_number" "is_number" (defArgs s_is_number) (defBody s_is_number) (defScope s_is_number) .none kV5 dc5 pm5 an5 cd5 ct5), sl5⟩)
    (c5 : PySem.W.codeIn K cd5 "is_number" = true)
    (k5 : PySem.W.keepIn K (.ref f5) = true)
    (a6 : PySem.W.nsIn K mainGlobals "is_sign" = some (some (.ref f6)))
    (l6 : K.lookup f6 = some ⟨oc6, od6, .func (PySem.W.fnOf "is_sign" "is_sign" (defArgs s_is_sign) (defBody s_is_sign) (defScope s_is_sign) .none kV6 dc6 pm6 an6 cd6 ct6), sl6⟩)
    (c6 : PySem.W.codeIn K cd6 "is_sign" = true)
    (k6 : PySem.W.keepIn K (.ref f6) = true)
    (a7 : PySem.W.nsIn K mainGlobals "is_word" = some (some (.ref f7)))
    (l7 : K.lookup f7 = some ⟨oc7, od7, .func (PySem.W.fnOf "is_word" "is_word" (defArgs s_is_word) (defBody s_is_word) (defScope s_is_word) .none kV7 dc7 pm7 an7 cd7 ct7), sl7⟩)
    (c7 : PySem.W.codeIn K cd7 "is_word" = true)
    (k7 : PySem.W.keepIn K (.ref f7) = true)
    (a8 : PySem.W.nsIn K mainGlobals "need_word" = some (some (.ref f8)))
    (l8 : K.lookup f8 = some ⟨oc8, od8, .func (PySem.W.fnOf "need_word" "need_word" (defArgs s_need_word) (defBody s_need_word) (defScope s_need_word) .none kV8 dc8 pm8 an8 cd8 ct8), sl8⟩)
    (c8 : PySem.W.codeIn K cd8 "need_word" = true)
    (k8 : PySem.W.keepIn K (.ref f8) = true)
    (a9 : PySem.W.nsIn K mainGlobals "need_like" = some (some (.ref f9)))
    (l9 : K.lookup f9 = some ⟨oc9, od9, .func (PySem.W.fnOf "need_like" "need_like" (defArgs s_need_like) (defBody s_need_like) (defScope s_need_like) .none kV9 dc9 pm9 an9 cd9 ct9), sl9⟩)
    (c9 : PySem.W.codeIn K cd9 "need_like" = true)
    (k9 : PySem.W.keepIn K (.ref f9) = true)
    (a10 : PySem.W.nsIn K mainGlobals "code_of" = some (some (.ref f10)))
    (l10 : K.lookup f10 = some ⟨oc10, od10, .func (PySem.W.fnOf "code_of" "code_of" (defArgs s_code_of) (defBody s_code_of) (defScope s_code_of) .none kV10 dc10 pm10 an10 cd10 ct10), sl10⟩)
    (c10 : PySem.W.codeIn K cd10 "code_of" = true)
    (k10 : PySem.W.keepIn K (.ref f10) = true)
    (a11 : PySem.W.nsIn K mainGlobals "is_odd" = some (some (.ref f11)))
    (l11 : K.lookup f11 = some ⟨oc11, od11, .func (PySem.W.fnOf "is_odd" "is_odd" (defArgs s_is_odd) (defBody s_is_odd) (defScope s_is_odd) .none kV11 dc11 pm11 an11 cd11 ct11), sl11⟩)
    (c11 : PySem.W.codeIn K cd11 "is_odd" = true)
    (k11 : PySem.W.keepIn K (.ref f11) = true)
    (a12 : PySem.W.nsIn K mainGlobals "is_crossed" = some (some (.ref f12)))
    (l12 : K.lookup f12 = some ⟨oc12, od12, .func (PySem.W.fnOf "is_crossed" "is_crossed" (defArgs s_is_crossed) (defBody s_is_crossed) (defScope s_is_crossed) .none kV12 dc12 pm12 an12 cd12 ct12), sl12⟩)
    (c12 : PySem.W.codeIn K cd12 "is_crossed" = true)
    (k12 : PySem.W.keepIn K (.ref f12) = true)
    (a13 : PySem.W.nsIn K mainGlobals "letters_of" = some (some (.ref f13)))
    (l13 : K.lookup f13 = some ⟨oc13, od13, .func (PySem.W.fnOf "letters_of" "letters_of" (defArgs s_letters_of) (defBody s_letters_of) (defScope s_letters_of) .none kV13 dc13 pm13 an13 cd13 ct13), sl13⟩)
    (c13 : PySem.W.codeIn K cd13 "letters_of" = true)
    (k13 : PySem.W.keepIn K (.ref f13) = true)
    (a14 : PySem.W.nsIn K mainGlobals "put_of" = some (some (.ref f14)))
    (l14 : K.lookup f14 = some ⟨oc14, od14, .func (PySem.W.fnOf "put_of" "put_of" (defArgs s_put_of) (defBody s_put_of) (defScope s_put_of) .none kV14 dc14 pm14 an14 cd14 ct14), sl14⟩)
    (c14 : PySem.W.codeIn K cd14 "put_of" = true)
    (k14 : PySem.W.keepIn K (.ref f14) = true)
    (a15 : PySem.W.nsIn K mainGlobals "put_together" = some (some (.ref f15)))
    (l15 : K.lookup f15 = some ⟨oc15, od15, .func (PySem.W.fnOf "put_together" "put_together" (defArgs s_put_together) (defBody s_put_together) (defScope s_put_together) .none kV15 dc15 pm15 an15 cd15 ct15), sl15⟩)
    (c15 : PySem.W.codeIn K cd15 "put_together" = true)
    (k15 : PySem.W.keepIn K (.ref f15) = true)
    (a16 : PySem.W.nsIn K mainGlobals "_law_nothing" = some (some (.ref f16)))
    (l16 : K.lookup f16 = some ⟨oc16, od16, .func (PySem.W.fnOf "_law_nothing" "_law_nothing" (defArgs s__law_nothing) (defBody s__law_nothing) (defScope s__law_nothing) .none kV16 dc16 pm16 an16 cd16 ct16), sl16⟩)
    (c16 : PySem.W.codeIn K cd16 "_law_nothing" = true)
    (k16 : PySem.W.keepIn K (.ref f16) = true)
    (a17 : PySem.W.nsIn K mainGlobals "_law_says" = some (some (.ref f17)))
    (l17 : K.lookup f17 = some ⟨oc17, od17, .func (PySem.W.fnOf "_law_says" "_law_says" (defArgs s__law_says) (defBody s__law_says) (defScope s__law_says) .none kV17 dc17 pm17 an17 cd17 ct17), sl17⟩)
    (c17 : PySem.W.codeIn K cd17 "_law_says" = true)
    (k17 : PySem.W.keepIn K (.ref f17) = true)
    (a18 : PySem.W.nsIn K mainGlobals "is_between" = some (some (.ref f18)))
    (l18 : K.lookup f18 = some ⟨oc18, od18, .func (PySem.W.fnOf "is_between" "is_between" (defArgs s_is_between) (defBody s_is_between) (defScope s_is_between) .none kV18 dc18 pm18 an18 cd18 ct18), sl18⟩)
    (c18 : PySem.W.codeIn K cd18 "is_between" = true)
    (k18 : PySem.W.keepIn K (.ref f18) = true)
    (a19 : PySem.W.nsIn K mainGlobals "is_rising" = some (some (.ref f19)))
    (l19 : K.lookup f19 = some ⟨oc19, od19, .func (PySem.W.fnOf "is_rising" "is_rising" (defArgs s_is_rising) (defBody s_is_rising) (defScope s_is_rising) .none kV19 dc19 pm19 an19 cd19 ct19), sl19⟩)
    (c19 : PySem.W.codeIn K cd19 "is_rising" = true)
    (k19 : PySem.W.keepIn K (.ref f19) = true)
    (a20 : PySem.W.nsIn K mainGlobals "is_crew" = some (some (.ref f20)))
    (l20 : K.lookup f20 = some ⟨oc20, od20, .func (PySem.W.fnOf "is_crew" "is_crew" (defArgs s_is_crew) (defBody s_is_crew) (defScope s_is_crew) .none kV20 dc20 pm20 an20 cd20 ct20), sl20⟩)
    (c20 : PySem.W.codeIn K cd20 "is_crew" = true)
    (k20 : PySem.W.keepIn K (.ref f20) = true)
    (a21 : PySem.W.nsIn K mainGlobals "is_bench" = some (some (.ref f21)))
    (l21 : K.lookup f21 = some ⟨oc21, od21, .func (PySem.W.fnOf "is_bench" "is_bench" (defArgs s_is_bench) (defBody s_is_bench) (defScope s_is_bench) .none kV21 dc21 pm21 an21 cd21 ct21), sl21⟩)
    (c21 : PySem.W.codeIn K cd21 "is_bench" = true)
    (k21 : PySem.W.keepIn K (.ref f21) = true)
    (a22 : PySem.W.findIn K (.ref CHall) "__init__" = some (some (.ref f22)))
    (l22 : K.lookup f22 = some ⟨oc22, od22, .func (PySem.W.fnOf "__init__" "Hall.__init__" (defArgs s_Hall_init_) (defBody s_Hall_init_) (defScope s_Hall_init_) .none kV22 dc22 pm22 an22 cd22 ct22), sl22⟩)
    (c22 : PySem.W.codeIn K cd22 "Hall.__init__" = true)
    (k22 : PySem.W.keepIn K (.ref f22) = true)
    (i22 : PySem.W.isFn K (.ref f22) = true)
    (a23 : PySem.W.nsIn K mainGlobals "_law_bad_word" = some (some (.ref f23)))
    (l23 : K.lookup f23 = some ⟨oc23, od23, .func (PySem.W.fnOf "_law_bad_word" "_law_bad_word" (defArgs s__law_bad_word) (defBody s__law_bad_word) (defScope s__law_bad_word) .none kV23 dc23 pm23 an23 cd23 ct23), sl23⟩)
    (c23 : PySem.W.codeIn K cd23 "_law_bad_word" = true)
    (k23 : PySem.W.keepIn K (.ref f23) = true)
    (a24 : PySem.W.nsIn K mainGlobals "_law_is_whole" = some (some (.ref f24)))
    (l24 : K.lookup f24 = some ⟨oc24, od24, .func (PySem.W.fnOf "_law_is_whole" "_law_is_whole" (defArgs s__law_is_whole) (defBody s__law_is_whole) (defScope s__law_is_whole) .none kV24 dc24 pm24 an24 cd24 ct24), sl24⟩)
    (c24 : PySem.W.codeIn K cd24 "_law_is_whole" = true)
    (k24 : PySem.W.keepIn K (.ref f24) = true)
    (a25 : PySem.W.nsIn K mainGlobals "_law_is_word" = some (some (.ref f25)))
    (l25 : K.lookup f25 = some ⟨oc25, od25, .func (PySem.W.fnOf "_law_is_word" "_law_is_word" (defArgs s__law_is_word) (defBody s__law_is_word) (defScope s__law_is_word) .none kV25 dc25 pm25 an25 cd25 ct25), sl25⟩)
    (c25 : PySem.W.codeIn K cd25 "_law_is_word" = true)
    (k25 : PySem.W.keepIn K (.ref f25) = true)
    (a26 : PySem.W.nsIn K mainGlobals "_law_judged" = some (some (.ref f26)))
    (l26 : K.lookup f26 = some ⟨oc26, od26, .func (PySem.W.fnOf "_law_judged" "_law_judged" (defArgs s__law_judged) (defBody s__law_judged) (defScope s__law_judged) .none kV26 dc26 pm26 an26 cd26 ct26), sl26⟩)
    (c26 : PySem.W.codeIn K cd26 "_law_judged" = true)
    (k26 : PySem.W.keepIn K (.ref f26) = true)
    (a27 : PySem.W.nsIn K mainGlobals "_law_two" = some (some (.ref f27)))
    (l27 : K.lookup f27 = some ⟨oc27, od27, .func (PySem.W.fnOf "_law_two" "_law_two" (defArgs s__law_two) (defBody s__law_two) (defScope s__law_two) .none kV27 dc27 pm27 an27 cd27 ct27), sl27⟩)
    (c27 : PySem.W.codeIn K cd27 "_law_two" = true)
    (k27 : PySem.W.keepIn K (.ref f27) = true)
    (a28 : PySem.W.nsIn K mainGlobals "_law_past" = some (some (.ref f28)))
    (l28 : K.lookup f28 = some ⟨oc28, od28, .func (PySem.W.fnOf "_law_past" "_law_past" (defArgs s__law_past) (defBody s__law_past) (defScope s__law_past) .none kV28 dc28 pm28 an28 cd28 ct28), sl28⟩)
    (c28 : PySem.W.codeIn K cd28 "_law_past" = true)
    (k28 : PySem.W.keepIn K (.ref f28) = true)
    (a29 : PySem.W.nsIn K mainGlobals "is_turning" = some (some (.ref f29)))
    (l29 : K.lookup f29 = some ⟨oc29, od29, .func (PySem.W.fnOf "is_turning" "is_turning" (defArgs s_is_turning) (defBody s_is_turning) (defScope s_is_turning) .none kV29 dc29 pm29 an29 cd29 ct29), sl29⟩)
    (c29 : PySem.W.codeIn K cd29 "is_turning" = true)
    (k29 : PySem.W.keepIn K (.ref f29) = true)
    (a30 : PySem.W.nsIn K mainGlobals "is_turner" = some (some (.ref f30)))
    (l30 : K.lookup f30 = some ⟨oc30, od30, .func (PySem.W.fnOf "is_turner" "is_turner" (defArgs s_is_turner) (defBody s_is_turner) (defScope s_is_turner) .none kV30 dc30 pm30 an30 cd30 ct30), sl30⟩)
    (c30 : PySem.W.codeIn K cd30 "is_turner" = true)
    (k30 : PySem.W.keepIn K (.ref f30) = true)
    (a31 : PySem.W.nsIn K mainGlobals "is_past" = some (some (.ref f31)))
    (l31 : K.lookup f31 = some ⟨oc31, od31, .func (PySem.W.fnOf "is_past" "is_past" (defArgs s_is_past) (defBody s_is_past) (defScope s_is_past) .none kV31 dc31 pm31 an31 cd31 ct31), sl31⟩)
    (c31 : PySem.W.codeIn K cd31 "is_past" = true)
    (k31 : PySem.W.keepIn K (.ref f31) = true)
    (a32 : PySem.W.nsIn K mainGlobals "past_of" = some (some (.ref f32)))
    (l32 : K.lookup f32 = some ⟨oc32, od32, .func (PySem.W.fnOf "past_of" "past_of" (defArgs s_past_of) (defBody s_past_of) (defScope s_past_of) .none kV32 dc32 pm32 an32 cd32 ct32), sl32⟩)
    (c32 : PySem.W.codeIn K cd32 "past_of" = true)
    (k32 : PySem.W.keepIn K (.ref f32) = true)
    (a33 : PySem.W.nsIn K mainGlobals "goes_past" = some (some (.ref f33)))
    (l33 : K.lookup f33 = some ⟨oc33, od33, .func (PySem.W.fnOf "goes_past" "goes_past" (defArgs s_goes_past) (defBody s_goes_past) (defScope s_goes_past) .none kV33 dc33 pm33 an33 cd33 ct33), sl33⟩)
    (c33 : PySem.W.codeIn K cd33 "goes_past" = true)
    (k33 : PySem.W.keepIn K (.ref f33) = true)
    (a34 : PySem.W.nsIn K mainGlobals "_law_is_right" = some (some (.ref f34)))
    (l34 : K.lookup f34 = some ⟨oc34, od34, .func (PySem.W.fnOf "_law_is_right" "_law_is_right" (defArgs s__law_is_right) (defBody s__law_is_right) (defScope s__law_is_right) .none kV34 dc34 pm34 an34 cd34 ct34), sl34⟩)
    (c34 : PySem.W.codeIn K cd34 "_law_is_right" = true)
    (k34 : PySem.W.keepIn K (.ref f34) = true)
    (a35 : PySem.W.nsIn K mainGlobals "_law_caught" = some (some (.ref f35)))
    (l35 : K.lookup f35 = some ⟨oc35, od35, .func (PySem.W.fnOf "_law_caught" "_law_caught" (defArgs s__law_caught) (defBody s__law_caught) (defScope s__law_caught) .none kV35 dc35 pm35 an35 cd35 ct35), sl35⟩)
    (c35 : PySem.W.codeIn K cd35 "_law_caught" = true)
    (k35 : PySem.W.keepIn K (.ref f35) = true)
    (a36 : PySem.W.nsIn K mainGlobals "_law_refuses" = some (some (.ref f36)))
    (l36 : K.lookup f36 = some ⟨oc36, od36, .func (PySem.W.fnOf "_law_refuses" "_law_refuses" (defArgs s__law_refuses) (defBody s__law_refuses) (defScope s__law_refuses) .none kV36 dc36 pm36 an36 cd36 ct36), sl36⟩)
    (c36 : PySem.W.codeIn K cd36 "_law_refuses" = true)
    (k36 : PySem.W.keepIn K (.ref f36) = true)
    (a37 : PySem.W.nsIn K mainGlobals "law" = some (some (.ref f37)))
    (l37 : K.lookup f37 = some ⟨oc37, od37, .func (PySem.W.fnOf "law" "law" (defArgs s_law) (defBody s_law) (defScope s_law) .none kV37 dc37 pm37 an37 cd37 ct37), sl37⟩)
    (c37 : PySem.W.codeIn K cd37 "law" = true)
    (k37 : PySem.W.keepIn K (.ref f37) = true)
    (oN : PySem.W.specialIn K (.builtin "object.__class__") "__get__" = some (some (.builtin "getset_descriptor.__get__")))
    (oT : PySem.W.takesIn K (.builtin "object.__class__") = some true)
    (x1TurnError : PySem.W.nsIn K mainGlobals "TurnError" = some (some (.ref CTurnError)))
    (x2TurnError : PySem.W.excIn K CTurnError [.type "ValueError", .type "Exception", .type "BaseException", .type "object"] "ValueError.__new__" = true)
    (x3TurnError : PySem.W.keepIn K (.ref CTurnError) = true)
    (x4TurnError : PySem.W.subIn K (.ref CTurnError) (.type "BaseException") = some true)
    (x5TurnError : PySem.W.typeIn K (.ref CTurnError) = some (.type "type"))
    (x6TurnError : PySem.W.findIn K (.ref CTurnError) "__getattribute__" = some (some (.builtin "BaseException.__getattribute__")))
    (x7TurnError : PySem.W.findIn K (.ref CTurnError) "__getattr__" = some none)
    (x8TurnError : PySem.W.hasDictIn K CTurnError = true)
    (x9TurnError : PySem.W.findIn K (.ref CTurnError) "__class__" = some (some (.builtin "object.__class__")))
    (xaTurnError : PySem.W.mroIn K CTurnError (.type "object") = some true)
    (x1BadWord : PySem.W.nsIn K mainGlobals "BadWord" = some (some (.ref CBadWord)))
    (x2BadWord : PySem.W.excIn K CBadWord [.type "ValueError", .type "Exception", .type "BaseException", .type "object"] "ValueError.__new__" = true)
    (x3BadWord : PySem.W.keepIn K (.ref CBadWord) = true)
    (x4BadWord : PySem.W.subIn K (.ref CBadWord) (.type "BaseException") = some true)
    (x5BadWord : PySem.W.typeIn K (.ref CBadWord) = some (.type "type"))
    (x6BadWord : PySem.W.findIn K (.ref CBadWord) "__getattribute__" = some (some (.builtin "BaseException.__getattribute__")))
    (x7BadWord : PySem.W.findIn K (.ref CBadWord) "__getattr__" = some none)
    (x8BadWord : PySem.W.hasDictIn K CBadWord = true)
    (x9BadWord : PySem.W.findIn K (.ref CBadWord) "__class__" = some (some (.builtin "object.__class__")))
    (xaBadWord : PySem.W.mroIn K CBadWord (.type "object") = some true)
    (x1OtherLength : PySem.W.nsIn K mainGlobals "OtherLength" = some (some (.ref COtherLength)))
    (x2OtherLength : PySem.W.excIn K COtherLength [.type "ValueError", .type "Exception", .type "BaseException", .type "object"] "ValueError.__new__" = true)
    (x3OtherLength : PySem.W.keepIn K (.ref COtherLength) = true)
    (x4OtherLength : PySem.W.subIn K (.ref COtherLength) (.type "BaseException") = some true)
    (x5OtherLength : PySem.W.typeIn K (.ref COtherLength) = some (.type "type"))
    (x6OtherLength : PySem.W.findIn K (.ref COtherLength) "__getattribute__" = some (some (.builtin "BaseException.__getattribute__")))
    (x7OtherLength : PySem.W.findIn K (.ref COtherLength) "__getattr__" = some none)
    (x8OtherLength : PySem.W.hasDictIn K COtherLength = true)
    (x9OtherLength : PySem.W.findIn K (.ref COtherLength) "__class__" = some (some (.builtin "object.__class__")))
    (xaOtherLength : PySem.W.mroIn K COtherLength (.type "object") = some true)
    (x1BadMany : PySem.W.nsIn K mainGlobals "BadMany" = some (some (.ref CBadMany)))
    (x2BadMany : PySem.W.excIn K CBadMany [.type "ValueError", .type "Exception", .type "BaseException", .type "object"] "ValueError.__new__" = true)
    (x3BadMany : PySem.W.keepIn K (.ref CBadMany) = true)
    (x4BadMany : PySem.W.subIn K (.ref CBadMany) (.type "BaseException") = some true)
    (x5BadMany : PySem.W.typeIn K (.ref CBadMany) = some (.type "type"))
    (x6BadMany : PySem.W.findIn K (.ref CBadMany) "__getattribute__" = some (some (.builtin "BaseException.__getattribute__")))
    (x7BadMany : PySem.W.findIn K (.ref CBadMany) "__getattr__" = some none)
    (x8BadMany : PySem.W.hasDictIn K CBadMany = true)
    (x9BadMany : PySem.W.findIn K (.ref CBadMany) "__class__" = some (some (.builtin "object.__class__")))
    (xaBadMany : PySem.W.mroIn K CBadMany (.type "object") = some true)
    (x1BadBenches : PySem.W.nsIn K mainGlobals "BadBenches" = some (some (.ref CBadBenches)))
    (x2BadBenches : PySem.W.excIn K CBadBenches [.type "ValueError", .type "Exception", .type "BaseException", .type "object"] "ValueError.__new__" = true)
    (x3BadBenches : PySem.W.keepIn K (.ref CBadBenches) = true)
    (x4BadBenches : PySem.W.subIn K (.ref CBadBenches) (.type "BaseException") = some true)
    (x5BadBenches : PySem.W.typeIn K (.ref CBadBenches) = some (.type "type"))
    (x6BadBenches : PySem.W.findIn K (.ref CBadBenches) "__getattribute__" = some (some (.builtin "BaseException.__getattribute__")))
    (x7BadBenches : PySem.W.findIn K (.ref CBadBenches) "__getattr__" = some none)
    (x8BadBenches : PySem.W.hasDictIn K CBadBenches = true)
    (x9BadBenches : PySem.W.findIn K (.ref CBadBenches) "__class__" = some (some (.builtin "object.__class__")))
    (xaBadBenches : PySem.W.mroIn K CBadBenches (.type "object") = some true)
    (u2Hall : PySem.W.plainGet K CHall Str.empty = true)
    (u3Hall : PySem.W.hasDictIn K CHall = true)
    (u4Hall : PySem.W.plainOver K CHall = true)
    (u5Hall : PySem.W.findIn K (.ref CHall) "__setattr__" = some (some (.builtin "object.__setattr__")))
    (vNoneTypeHall : PySem.W.kitOne K (.ref CHall) (.type "NoneType") = some false)
    (vboolHall : PySem.W.kitOne K (.ref CHall) (.type "bool") = some false)
    (vintHall : PySem.W.kitOne K (.ref CHall) (.type "int") = some false)
    (vstrHall : PySem.W.kitOne K (.ref CHall) (.type "str") = some false)
    (vtupleHall : PySem.W.kitOne K (.ref CHall) (.type "tuple") = some false)
    (vlistHall : PySem.W.kitOne K (.ref CHall) (.type "list") = some false)
    (vdictHall : PySem.W.kitOne K (.ref CHall) (.type "dict") = some false)
    (u8Hall : PySem.W.findIn K (.ref CHall) "__class__" = some (some (.builtin "object.__class__")))
    (u9Hall : PySem.W.mroIn K CHall (.type "object") = some true)
    (u6Hall : PySem.W.makesIn K CHall = true)
    (u7Hall : PySem.W.keepIn K (.ref CHall) = true)
    (nfHallbenches : PySem.W.findIn K (.ref CHall) "benches" = some none)
    (nfHallmany : PySem.W.findIn K (.ref CHall) "many" = some none)
    (gLETTERS : PySem.W.nsIn K mainGlobals "LETTERS" = some (some (.str "1abc" tLETTERS)))
    (gMOST_LENGTH : PySem.W.nsIn K mainGlobals "MOST_LENGTH" = some (some (.int 12 tMOST_LENGTH)))
    (gA_FIGURES : PySem.W.nsIn K mainGlobals "A_FIGURES" = some (some (.int 5592405 tA_FIGURES)))
    (gMOST_TURNERS : PySem.W.nsIn K mainGlobals "MOST_TURNERS" = some (some (.int 15 tMOST_TURNERS)))
    (gMOST_BENCHES : PySem.W.nsIn K mainGlobals "MOST_BENCHES" = some (some (.int 12 tMOST_BENCHES)))
    (gMOST_CREW : PySem.W.nsIn K mainGlobals "MOST_CREW" = some (some (.int 8 tMOST_CREW)))
    (zabs : PySem.W.nsIn K mainGlobals "abs" = some none)
    (zall : PySem.W.nsIn K mainGlobals "all" = some none)
    (zbool : PySem.W.nsIn K mainGlobals "bool" = some none)
    (zenumerate : PySem.W.nsIn K mainGlobals "enumerate" = some none)
    (zint : PySem.W.nsIn K mainGlobals "int" = some none)
    (zisinstance : PySem.W.nsIn K mainGlobals "isinstance" = some none)
    (zlen : PySem.W.nsIn K mainGlobals "len" = some none)
    (zlist : PySem.W.nsIn K mainGlobals "list" = some none)
    (zmin : PySem.W.nsIn K mainGlobals "min" = some none)
    (zrange : PySem.W.nsIn K mainGlobals "range" = some none)
    (zrepr : PySem.W.nsIn K mainGlobals "repr" = some none)
    (zstr : PySem.W.nsIn K mainGlobals "str" = some none)
    (zsum : PySem.W.nsIn K mainGlobals "sum" = some none)
    (ztuple : PySem.W.nsIn K mainGlobals "tuple" = some none)
    (zzip : PySem.W.nsIn K mainGlobals "zip" = some none)
    (tb36 : PySem.W.tabIn K "_law_refuses" = some (tc36, tP36))
    (tr36 : (recsOf q).find? (fun e => e.name == ("_law_refuses" : Str)) = some td36)
    (te36 : cd36 = .ref tc36)
    (nt : PySem.W.noTabs K = true)
    (yBadWord : PySem.W.subIn K (.ref CBadWord) (.ref CTurnError) = some true)
    (yOtherLength : PySem.W.subIn K (.ref COtherLength) (.ref CTurnError) = some true)
    (yBadMany : PySem.W.subIn K (.ref CBadMany) (.ref CTurnError) = some true)
    (yBadBenches : PySem.W.subIn K (.ref CBadBenches) (.ref CTurnError) = some true)
    (nBadWord : PySem.W.kitOne K (.type "NoneType") (.ref CBadWord) = some false)
    (iBadWordBadWord : PySem.W.kitOne K (.ref CBadWord) (.ref CBadWord) = some true)
    (iOtherLengthBadWord : PySem.W.kitOne K (.ref COtherLength) (.ref CBadWord) = some false)
    (iBadManyBadWord : PySem.W.kitOne K (.ref CBadMany) (.ref CBadWord) = some false)
    (iBadBenchesBadWord : PySem.W.kitOne K (.ref CBadBenches) (.ref CBadWord) = some false)
    (nOtherLength : PySem.W.kitOne K (.type "NoneType") (.ref COtherLength) = some false)
    (iBadWordOtherLength : PySem.W.kitOne K (.ref CBadWord) (.ref COtherLength) = some false)
    (iOtherLengthOtherLength : PySem.W.kitOne K (.ref COtherLength) (.ref COtherLength) = some true)
    (iBadManyOtherLength : PySem.W.kitOne K (.ref CBadMany) (.ref COtherLength) = some false)
    (iBadBenchesOtherLength : PySem.W.kitOne K (.ref CBadBenches) (.ref COtherLength) = some false) : LawG l w K 10 63 "_law_script" mg fa h := by
  have e := hfa.symm.trans (PySem.W.mg_of X G a37)
  cases e
  let T : Top K mg := { C_Hall := CHall, M_Hall := PySem.W.mg_of X G u1Hall, f__law_begun := f0, d__law_begun := _, F__law_begun := fun_mk (st := s__law_begun) l0 c0 k0, m__law_begun := PySem.W.mg_of X G a0, b__law_begun := (fun_mk (st := s__law_begun) l0 c0 k0).binds (ps := ["_law_script"]) (fun _ _ _ _ _ _ us hl => match us, hl with | [_], _ => rfl), f__law_draw := f1, d__law_draw := _, F__law_draw := fun_mk (st := s__law_draw) l1 c1 k1, m__law_draw := PySem.W.mg_of X G a1, b__law_draw := (fun_mk (st := s__law_draw) l1 c1 k1).binds (ps := ["_law_state", "_law_size_here"]) (fun _ _ _ _ _ _ us hl => match us, hl with | [_, _], _ => rfl), f__law_pick := f2, d__law_pick := _, F__law_pick := fun_mk (st := s__law_pick) l2 c2 k2, m__law_pick := PySem.W.mg_of X G a2, b__law_pick := (fun_mk (st := s__law_pick) l2 c2 k2).binds (ps := ["_law_state", "_law_several"]) (fun _ _ _ _ _ _ us hl => match us, hl with | [_, _], _ => rfl), f__law_word := f3, d__law_word := _, F__law_word := fun_mk (st := s__law_word) l3 c3 k3, m__law_word := PySem.W.mg_of X G a3, b__law_word := (fun_mk (st := s__law_word) l3 c3 k3).binds (ps := ["_law_state", "_law_size_here"]) (fun _ _ _ _ _ _ us hl => match us, hl with | [_, _], _ => rfl), f__law_minus := f4, d__law_minus := _, F__law_minus := fun_mk (st := s__law_minus) l4 c4 k4, m__law_minus := PySem.W.mg_of X G a4, b__law_minus := (fun_mk (st := s__law_minus) l4 c4 k4).binds (ps := ["_law_each"]) (fun _ _ _ _ _ _ us hl => match us, hl with | [_], _ => rfl), f_is_number := f5, d_is_number := _, F_is_number := fun_mk (st := s_is_number) l5 c5 k5, m_is_number := PySem.W.mg_of X G a5, b_is_number := (fun_mk (st := s_is_number) l5 c5 k5).binds (ps := ["thing"]) (fun _ _ _ _ _ _ us hl => match us, hl with | [_], _ => rfl), f_is_sign := f6, d_is_sign := _, F_is_sign := fun_mk (st := s_is_sign) l6 c6 k6, m_is_sign := PySem.W.mg_of X G a6, b_is_sign := (fun_mk (st := s_is_sign) l6 c6 k6).binds (ps := ["thing"]) (fun _ _ _ _ _ _ us hl => match us, hl with | [_], _ => rfl), f_is_word := f7, d_is_word := _, F_is_word := fun_mk (st := s_is_word) l7 c7 k7, m_is_word := PySem.W.mg_of X G a7, b_is_word := (fun_mk (st := s_is_word) l7 c7 k7).binds (ps := ["thing"]) (fun _ _ _ _ _ _ us hl => match us, hl with | [_], _ => rfl), f_need_word := f8, d_need_word := _, F_need_word := fun_mk (st := s_need_word) l8 c8 k8, m_need_word := PySem.W.mg_of X G a8, b_need_word := (fun_mk (st := s_need_word) l8 c8 k8).binds (ps := ["word"]) (fun _ _ _ _ _ _ us hl => match us, hl with | [_], _ => rfl), f_need_like := f9, d_need_like := _, F_need_like := fun_mk (st := s_need_like) l9 c9 k9, m_need_like := PySem.W.mg_of X G a9, b_need_like := (fun_mk (st := s_need_like) l9 c9 k9).binds (ps := ["one", "other"]) (fun _ _ _ _ _ _ us hl => match us, hl with | [_, _], _ => rfl), f_code_of := f10, d_code_of := _, F_code_of := fun_mk (st := s_code_of) l10 c10 k10, m_code_of := PySem.W.mg_of X G a10, b_code_of := (fun_mk (st := s_code_of) l10 c10 k10).binds (ps := ["word"]) (fun _ _ _ _ _ _ us hl => match us, hl with | [_], _ => rfl), f_is_odd := f11, d_is_odd := _, F_is_odd := fun_mk (st := s_is_odd) l11 c11 k11, m_is_odd := PySem.W.mg_of X G a11, b_is_odd := (fun_mk (st := s_is_odd) l11 c11 k11).binds (ps := ["mask"]) (fun _ _ _ _ _ _ us hl => match us, hl with | [_], _ => rfl), f_is_crossed := f12, d_is_crossed := _, F_is_crossed := fun_mk (st := s_is_crossed) l12 c12 k12, m_is_crossed := PySem.W.mg_of X G a12, b_is_crossed := (fun_mk (st := s_is_crossed) l12 c12 k12).binds (ps := ["one", "other"]) (fun _ _ _ _ _ _ us hl => match us, hl with | [_, _], _ => rfl), f_letters_of := f13, d_letters_of := _, F_letters_of := fun_mk (st := s_letters_of) l13 c13 k13, m_letters_of := PySem.W.mg_of X G a13, b_letters_of := (fun_mk (st := s_letters_of) l13 c13 k13).binds (ps := ["code", "length"]) (fun _ _ _ _ _ _ us hl => match us, hl with | [_, _], _ => rfl), f_put_of := f14, d_put_of := _, F_put_of := fun_mk (st := s_put_of) l14 c14 k14, m_put_of := PySem.W.mg_of X G a14, b_put_of := (fun_mk (st := s_put_of) l14 c14 k14).binds (ps := ["one", "other"]) (fun _ _ _ _ _ _ us hl => match us, hl with | [_, _], _ => rfl), f_put_together := f15, d_put_together := _, F_put_together := fun_mk (st := s_put_together) l15 c15 k15, m_put_together := PySem.W.mg_of X G a15, b_put_together := (fun_mk (st := s_put_together) l15 c15 k15).binds (ps := ["one", "other"]) (fun _ _ _ _ _ _ us hl => match us, hl with | [_, _], _ => rfl), f__law_nothing := f16, d__law_nothing := _, F__law_nothing := fun_mk (st := s__law_nothing) l16 c16 k16, m__law_nothing := PySem.W.mg_of X G a16, b__law_nothing := (fun_mk (st := s__law_nothing) l16 c16 k16).binds (ps := ["_law_size_here", "_law_sign"]) (fun _ _ _ _ _ _ us hl => match us, hl with | [_, _], _ => rfl), f__law_says := f17, d__law_says := _, F__law_says := fun_mk (st := s__law_says) l17 c17 k17, m__law_says := PySem.W.mg_of X G a17, b__law_says := (fun_mk (st := s__law_says) l17 c17 k17).binds (ps := ["_law_found", "_law_due"]) (fun _ _ _ _ _ _ us hl => match us, hl with | [_, _], _ => rfl), f_is_between := f18, d_is_between := _, F_is_between := fun_mk (st := s_is_between) l18 c18 k18, m_is_between := PySem.W.mg_of X G a18, b_is_between := (fun_mk (st := s_is_between) l18 c18 k18).binds (ps := ["thing", "least", "most"]) (fun _ _ _ _ _ _ us hl => match us, hl with | [_, _, _], _ => rfl), f_is_rising := f19, d_is_rising := _, F_is_rising := fun_mk (st := s_is_rising) l19 c19 k19, m_is_rising := PySem.W.mg_of X G a19, b_is_rising := (fun_mk (st := s_is_rising) l19 c19 k19).binds (ps := ["thing", "many"]) (fun _ _ _ _ _ _ us hl => match us, hl with | [_, _], _ => rfl), f_is_crew := f20, d_is_crew := _, F_is_crew := fun_mk (st := s_is_crew) l20 c20 k20, m_is_crew := PySem.W.mg_of X G a20, b_is_crew := (fun_mk (st := s_is_crew) l20 c20 k20).binds (ps := ["many", "thing"]) (fun _ _ _ _ _ _ us hl => match us, hl with | [_, _], _ => rfl), f_is_bench := f21, d_is_bench := _, F_is_bench := fun_mk (st := s_is_bench) l21 c21 k21, m_is_bench := PySem.W.mg_of X G a21, b_is_bench := (fun_mk (st := s_is_bench) l21 c21 k21).binds (ps := ["many", "thing"]) (fun _ _ _ _ _ _ us hl => match us, hl with | [_, _], _ => rfl), f_Hall_init_ := f22, d_Hall_init_ := _, F_Hall_init_ := fun_mk (st := s_Hall_init_) l22 c22 k22, b_Hall_init_ := (fun_mk (st := s_Hall_init_) l22 c22 k22).binds (ps := ["self", "many", "benches"]) (fun _ _ _ _ _ _ us hl => match us, hl with | [_, _, _], _ => rfl), f__law_bad_word := f23, d__law_bad_word := _, F__law_bad_word := fun_mk (st := s__law_bad_word) l23 c23 k23, m__law_bad_word := PySem.W.mg_of X G a23, b__law_bad_word := (fun_mk (st := s__law_bad_word) l23 c23 k23).binds (ps := ["_law_state"]) (fun _ _ _ _ _ _ us hl => match us, hl with | [_], _ => rfl), f__law_is_whole := f24, d__law_is_whole := _, F__law_is_whole := fun_mk (st := s__law_is_whole) l24 c24 k24, m__law_is_whole := PySem.W.mg_of X G a24, b__law_is_whole := (fun_mk (st := s__law_is_whole) l24 c24 k24).binds (ps := ["_law_item"]) (fun _ _ _ _ _ _ us hl => match us, hl with | [_], _ => rfl), f__law_is_word := f25, d__law_is_word := _, F__law_is_word := fun_mk (st := s__law_is_word) l25 c25 k25, m__law_is_word := PySem.W.mg_of X G a25, b__law_is_word := (fun_mk (st := s__law_is_word) l25 c25 k25).binds (ps := ["_law_item"]) (fun _ _ _ _ _ _ us hl => match us, hl with | [_], _ => rfl), f__law_judged := f26, d__law_judged := _, F__law_judged := fun_mk (st := s__law_judged) l26 c26 k26, m__law_judged := PySem.W.mg_of X G a26, b__law_judged := (fun_mk (st := s__law_judged) l26 c26 k26).binds (ps := ["_law_state", "_law_good"]) (fun _ _ _ _ _ _ us hl => match us, hl with | [_, _], _ => rfl), f__law_two := f27, d__law_two := _, F__law_two := fun_mk (st := s__law_two) l27 c27 k27, m__law_two := PySem.W.mg_of X G a27, b__law_two := (fun_mk (st := s__law_two) l27 c27 k27).binds (ps := ["_law_one", "_law_other"]) (fun _ _ _ _ _ _ us hl => match us, hl with | [_, _], _ => rfl), f__law_past := f28, d__law_past := _, F__law_past := fun_mk (st := s__law_past) l28 c28 k28, m__law_past := PySem.W.mg_of X G a28, b__law_past := (fun_mk (st := s__law_past) l28 c28 k28).binds (ps := ["_law_one", "_law_other"]) (fun _ _ _ _ _ _ us hl => match us, hl with | [_, _], _ => rfl), f_is_turning := f29, d_is_turning := _, F_is_turning := fun_mk (st := s_is_turning) l29 c29 k29, m_is_turning := PySem.W.mg_of X G a29, b_is_turning := (fun_mk (st := s_is_turning) l29 c29 k29).binds (ps := ["word"]) (fun _ _ _ _ _ _ us hl => match us, hl with | [_], _ => rfl), f_is_turner := f30, d_is_turner := _, F_is_turner := fun_mk (st := s_is_turner) l30 c30 k30, m_is_turner := PySem.W.mg_of X G a30, b_is_turner := (fun_mk (st := s_is_turner) l30 c30 k30).binds (ps := ["word"]) (fun _ _ _ _ _ _ us hl => match us, hl with | [_], _ => rfl), f_is_past := f31, d_is_past := _, F_is_past := fun_mk (st := s_is_past) l31 c31 k31, m_is_past := PySem.W.mg_of X G a31, b_is_past := (fun_mk (st := s_is_past) l31 c31 k31).binds (ps := ["one", "other"]) (fun _ _ _ _ _ _ us hl => match us, hl with | [_, _], _ => rfl), f_past_of := f32, d_past_of := _, F_past_of := fun_mk (st := s_past_of) l32 c32 k32, m_past_of := PySem.W.mg_of X G a32, b_past_of := (fun_mk (st := s_past_of) l32 c32 k32).binds (ps := ["one", "other"]) (fun _ _ _ _ _ _ us hl => match us, hl with | [_, _], _ => rfl), f_goes_past := f33, d_goes_past := _, F_goes_past := fun_mk (st := s_goes_past) l33 c33 k33, m_goes_past := PySem.W.mg_of X G a33, b_goes_past := (fun_mk (st := s_goes_past) l33 c33 k33).binds (ps := ["one", "other"]) (fun _ _ _ _ _ _ us hl => match us, hl with | [_, _], _ => rfl), f__law_is_right := f34, d__law_is_right := _, F__law_is_right := fun_mk (st := s__law_is_right) l34 c34 k34, m__law_is_right := PySem.W.mg_of X G a34, b__law_is_right := (fun_mk (st := s__law_is_right) l34 c34 k34).binds (ps := ["_law_state"]) (fun _ _ _ _ _ _ us hl => match us, hl with | [_], _ => rfl), f__law_caught := f35, d__law_caught := _, F__law_caught := fun_mk (st := s__law_caught) l35 c35 k35, m__law_caught := PySem.W.mg_of X G a35, b__law_caught := (fun_mk (st := s__law_caught) l35 c35 k35).binds (ps := ["_law_work"]) (fun _ _ _ _ _ _ us hl => match us, hl with | [_], _ => rfl), f__law_refuses := f36, d__law_refuses := _, F__law_refuses := fun_mk (st := s__law_refuses) l36 c36 k36, m__law_refuses := PySem.W.mg_of X G a36, b__law_refuses := (fun_mk (st := s__law_refuses) l36 c36 k36).binds (ps := ["_law_state"]) (fun _ _ _ _ _ _ us hl => match us, hl with | [_], _ => rfl), f_law := fa, d_law := _, F_law := fun_mk (st := s_law) l37 c37 k37, m_law := PySem.W.mg_of X G a37, b_law := (fun_mk (st := s_law) l37 c37 k37).binds (ps := ["_law_script"]) (fun _ _ _ _ _ _ us hl => match us, hl with | [_], _ => rfl), C_TurnError := CTurnError, M_TurnError := PySem.W.mg_of X G x1TurnError, q_TurnError := x2TurnError, k_TurnError := x3TurnError, r_TurnError := x4TurnError, t_TurnError := x5TurnError, X_TurnError := ⟨x6TurnError, x7TurnError, x4TurnError, x8TurnError, x9TurnError, oN, oT, xaTurnError⟩, C_BadWord := CBadWord, M_BadWord := PySem.W.mg_of X G x1BadWord, q_BadWord := x2BadWord, k_BadWord := x3BadWord, r_BadWord := x4BadWord, t_BadWord := x5BadWord, X_BadWord := ⟨x6BadWord, x7BadWord, x4BadWord, x8BadWord, x9BadWord, oN, oT, xaBadWord⟩, C_OtherLength := COtherLength, M_OtherLength := PySem.W.mg_of X G x1OtherLength, q_OtherLength := x2OtherLength, k_OtherLength := x3OtherLength, r_OtherLength := x4OtherLength, t_OtherLength := x5OtherLength, X_OtherLength := ⟨x6OtherLength, x7OtherLength, x4OtherLength, x8OtherLength, x9OtherLength, oN, oT, xaOtherLength⟩, C_BadMany := CBadMany, M_BadMany := PySem.W.mg_of X G x1BadMany, q_BadMany := x2BadMany, k_BadMany := x3BadMany, r_BadMany := x4BadMany, t_BadMany := x5BadMany, X_BadMany := ⟨x6BadMany, x7BadMany, x4BadMany, x8BadMany, x9BadMany, oN, oT, xaBadMany⟩, C_BadBenches := CBadBenches, M_BadBenches := PySem.W.mg_of X G x1BadBenches, q_BadBenches := x2BadBenches, k_BadBenches := x3BadBenches, r_BadBenches := x4BadBenches, t_BadBenches := x5BadBenches, X_BadBenches := ⟨x6BadBenches, x7BadBenches, x4BadBenches, x8BadBenches, x9BadBenches, oN, oT, xaBadBenches⟩, cl_Hall := ⟨u2Hall, u3Hall, u4Hall, u5Hall⟩, ic_Hall := ⟨⟨u2Hall, u3Hall, u4Hall, u5Hall⟩, u8Hall, oN, oT, u9Hall, by simp only [List.mem_cons, List.not_mem_nil, or_false, forall_eq_or_imp, forall_eq]; exact ⟨vNoneTypeHall, vboolHall, vintHall, vstrHall, vtupleHall, vlistHall, vdictHall⟩⟩, mk_Hall := ⟨u6Hall, a22, i22, u7Hall⟩, nf_Hall_benches := nfHallbenches, nf_Hall_many := nfHallmany, g_LETTERS := ⟨_, PySem.W.mg_of X G gLETTERS⟩, g_MOST_LENGTH := ⟨_, PySem.W.mg_of X G gMOST_LENGTH⟩, g_A_FIGURES := ⟨_, PySem.W.mg_of X G gA_FIGURES⟩, g_MOST_TURNERS := ⟨_, PySem.W.mg_of X G gMOST_TURNERS⟩, g_MOST_BENCHES := ⟨_, PySem.W.mg_of X G gMOST_BENCHES⟩, g_MOST_CREW := ⟨_, PySem.W.mg_of X G gMOST_CREW⟩, z_abs := PySem.W.mg_none_of X G zabs, z_all := PySem.W.mg_none_of X G zall, z_bool := PySem.W.mg_none_of X G zbool, z_enumerate := PySem.W.mg_none_of X G zenumerate, z_int := PySem.W.mg_none_of X G zint, z_isinstance := PySem.W.mg_none_of X G zisinstance, z_len := PySem.W.mg_none_of X G zlen, z_list := PySem.W.mg_none_of X G zlist, z_min := PySem.W.mg_none_of X G zmin, z_range := PySem.W.mg_none_of X G zrange, z_repr := PySem.W.mg_none_of X G zrepr, z_str := PySem.W.mg_none_of X G zstr, z_sum := PySem.W.mg_none_of X G zsum, z_tuple := PySem.W.mg_none_of X G ztuple, z_zip := PySem.W.mg_none_of X G zzip, c__law_refuses := tc36, P__law_refuses := tP36, e__law_refuses := te36, y_BadWord := PySem.W.exm_ref x4TurnError x8TurnError x5TurnError yBadWord, y_OtherLength := PySem.W.exm_ref x4TurnError x8TurnError x5TurnError yOtherLength, y_BadMany := PySem.W.exm_ref x4TurnError x8TurnError x5TurnError yBadMany, y_BadBenches := PySem.W.exm_ref x4TurnError x8TurnError x5TurnError yBadBenches }
  have AF : AxF_k01 T.ax := { lk_BadWord := rfl, mm_BadWord := by simp [Top.caught, T], lk_OtherLength := rfl, mm_OtherLength := by simp [Top.caught, T], lk_BadMany := rfl, mm_BadMany := by simp [Top.caught, T], lk_BadBenches := rfl, mm_BadBenches := by simp [Top.caught, T], n_BadWord := nBadWord, i_BadWord_BadWord := iBadWordBadWord, i_OtherLength_BadWord := iOtherLengthBadWord, i_BadMany_BadWord := iBadManyBadWord, i_BadBenches_BadWord := iBadBenchesBadWord, n_OtherLength := nOtherLength, i_BadWord_OtherLength := iBadWordOtherLength, i_OtherLength_OtherLength := iOtherLengthOtherLength, i_BadMany_OtherLength := iBadManyOtherLength, i_BadBenches_OtherLength := iBadBenchesOtherLength }
  letI tt : TabT := ⟨T.tabs⟩
  obtain ⟨cd36', tb36'⟩ := hts _ _ _ _ tr36 tb36
  have nk36 : K.lookup tP36 = none := by
    cases e : K.lookup tP36 with
    | none => rfl
    | some o =>
      have e2 := X _ _ e
      rw [tb36'] at e2
      cases e2
      have z := List.all_eq_true.mp nt _ (PySem.W.mem_of_lookupK e)
      exact absurd (show false = true from z) Bool.false_ne_true
  refine ⟨⟨T.tabs⟩, T.d_law, [(tc36, tP36)], m_law T.ax, fun p hp => ?_, fun p hp => by
    simp only [List.mem_cons, List.not_mem_nil, or_false] at hp
    subst hp
    · exact tb36', fun p hp => by
    simp only [List.mem_cons, List.not_mem_nil, or_false] at hp
    subst hp
    · exact nk36, fun p hp => by
    simp only [List.mem_cons, List.not_mem_nil, or_false] at hp
    subst hp
    · exact cd36', fun s u => bindK T.F_law (fun _ _ _ _ _ _ => rfl) s, fun ns h1 h2 => law_true T.ax AF ns h1 h2, fun base kb nb tb => @w_law ⟨T.tabs⟩ l.prog w K mg base T (@Tb.mk ⟨T.tabs⟩ K mg T base rfl (tb _ (List.mem_cons_self)))⟩
  have hp : p ∈ T.tabs := hp
  unfold Top.tabs at hp
  simp only [List.mem_cons, List.not_mem_nil, or_false] at hp
  subst hp
  all_goals simp [T]
end DX
open PySem PySem.W PyProof.Rows
set_option maxRecDepth 100000 in
set_option maxHeartbeats 0 in
theorem PySem.Challenge.cw_leftminus_k01_words_that_go_past_holds : PySem.Challenge.rw_leftminus_k01_words_that_go_past.Holds := by
  w_on; o_law; k_head; (case hw => w_witness2)
  k_fill
  refine DX.walkG (l := PySem.Challenge.rw_leftminus_k01_words_that_go_past) (n := 63) (k := 10) (x := "_law_script") rfl (by decide) rfl ⟨rfl, by decide, by decide⟩ (fun w h Y => by first | exact PySem.W.kIn_of Y | exact PySem.W.km_in_of Y) ?F
  case F =>
    intro w mg fa h Y KX G hts hmg
    refine' DX.all_mk KX G hmg hts ?u1Hall ?a0 ?l0 ?c0 ?k0 ?a1 ?l1 ?c1 ?k1 ?a2 ?l2 ?c2 ?k2 ?a3 ?l3 ?c3 ?k3 ?a4 ?l4 ?c4 ?k4 ?a5 ?l5 ?c5 ?k5 ?a6 ?l6 ?c6 ?k6 ?a7 ?l7 ?c7 ?k7 ?a8 ?l8 ?c8 ?k8 ?a9 ?l9 ?c9 ?k9 ?a10 ?l10 ?c10 ?k10 ?a11 ?l11 ?c11 ?k11 ?a12 ?l12 ?c12 ?k12 ?a13 ?l13 ?c13 ?k13 ?a14 ?l14 ?c14 ?k14 ?a15 ?l15 ?c15 ?k15 ?a16 ?l16 ?c16 ?k16 ?a17 ?l17 ?c17 ?k17 ?a18 ?l18 ?c18 ?k18 ?a19 ?l19 ?c19 ?k19 ?a20 ?l20 ?c20 ?k20 ?a21 ?l21 ?c21 ?k21 ?a22 ?l22 ?c22 ?k22 ?i22 ?a23 ?l23 ?c23 ?k23 ?a24 ?l24 ?c24 ?k24 ?a25 ?l25 ?c25 ?k25 ?a26 ?l26 ?c26 ?k26 ?a27 ?l27 ?c27 ?k27 ?a28 ?l28 ?c28 ?k28 ?a29 ?l29 ?c29 ?k29 ?a30 ?l30 ?c30 ?k30 ?a31 ?l31 ?c31 ?k31 ?a32 ?l32 ?c32 ?k32 ?a33 ?l33 ?c33 ?k33 ?a34 ?l34 ?c34 ?k34 ?a35 ?l35 ?c35 ?k35 ?a36 ?l36 ?c36 ?k36 ?a37 ?l37 ?c37 ?k37 ?oN ?oT ?x1TurnError ?x2TurnError ?x3TurnError ?x4TurnError ?x5TurnError ?x6TurnError ?x7TurnError ?x8TurnError ?x9TurnError ?xaTurnError ?x1BadWord ?x2BadWord ?x3BadWord ?x4BadWord ?x5BadWord ?x6BadWord ?x7BadWord ?x8BadWord ?x9BadWord ?xaBadWord ?x1OtherLength ?x2OtherLength ?x3OtherLength ?x4OtherLength ?x5OtherLength ?x6OtherLength ?x7OtherLength ?x8OtherLength ?x9OtherLength ?xaOtherLength ?x1BadMany ?x2BadMany ?x3BadMany ?x4BadMany ?x5BadMany ?x6BadMany ?x7BadMany ?x8BadMany ?x9BadMany ?xaBadMany ?x1BadBenches ?x2BadBenches ?x3BadBenches ?x4BadBenches ?x5BadBenches ?x6BadBenches ?x7BadBenches ?x8BadBenches ?x9BadBenches ?xaBadBenches ?u2Hall ?u3Hall ?u4Hall ?u5Hall ?vNoneTypeHall ?vboolHall ?vintHall ?vstrHall ?vtupleHall ?vlistHall ?vdictHall ?u8Hall ?u9Hall ?u6Hall ?u7Hall ?nfHallbenches ?nfHallmany ?gLETTERS ?gMOST_LENGTH ?gA_FIGURES ?gMOST_TURNERS ?gMOST_BENCHES ?gMOST_CREW ?zabs ?zall ?zbool ?zenumerate ?zint ?zisinstance ?zlen ?zlist ?zmin ?zrange ?zrepr ?zstr ?zsum ?ztuple ?zzip ?tb36 ?tr36 ?te36 ?nt ?yBadWord ?yOtherLength ?yBadMany ?yBadBenches ?nBadWord ?iBadWordBadWord ?iOtherLengthBadWord ?iBadManyBadWord ?iBadBenchesBadWord ?nOtherLength ?iBadWordOtherLength ?iOtherLengthOtherLength ?iBadManyOtherLength ?iBadBenchesOtherLength
    (case u1Hall => k_is)
    (case a0 => k_is)
    (case l0 => k_is)
    (case c0 => k_is)
    (case k0 => k_is)
    (case a1 => k_is)
    (case l1 => k_is)
    (case c1 => k_is)
    (case k1 => k_is)
    (case a2 => k_is)
    (case l2 => k_is)
    (case c2 => k_is)
    (case k2 => k_is)
    (case a3 => k_is)
    (case l3 => k_is)
    (case c3 => k_is)
    (case k3 => k_is)
    (case a4 => k_is)
    (case l4 => k_is)
    (case c4 => k_is)
    (case k4 => k_is)
    (case a5 => k_is)
    (case l5 => k_is)
    (case c5 => k_is)
    (case k5 => k_is)
    (case a6 => k_is)
    (case l6 => k_is)
    (case c6 => k_is)
    (case k6 => k_is)
    (case a7 => k_is)
    (case l7 => k_is)
    (case c7 => k_is)
    (case k7 => k_is)
    (case a8 => k_is)
    (case l8 => k_is)
    (case c8 => k_is)
    (case k8 => k_is)
    (case a9 => k_is)
    (case l9 => k_is)
    (case c9 => k_is)
    (case k9 => k_is)
    (case a10 => k_is)
    (case l10 => k_is)
    (case c10 => k_is)
    (case k10 => k_is)
    (case a11 => k_is)
    (case l11 => k_is)
    (case c11 => k_is)
    (case k11 => k_is)
    (case a12 => k_is)
    (case l12 => k_is)
    (case c12 => k_is)
    (case k12 => k_is)
    (case a13 => k_is)
    (case l13 => k_is)
    (case c13 => k_is)
    (case k13 => k_is)
    (case a14 => k_is)
    (case l14 => k_is)
    (case c14 => k_is)
    (case k14 => k_is)
    (case a15 => k_is)
    (case l15 => k_is)
    (case c15 => k_is)
    (case k15 => k_is)
    (case a16 => k_is)
    (case l16 => k_is)
    (case c16 => k_is)
    (case k16 => k_is)
    (case a17 => k_is)
    (case l17 => k_is)
    (case c17 => k_is)
    (case k17 => k_is)
    (case a18 => k_is)
    (case l18 => k_is)
    (case c18 => k_is)
    (case k18 => k_is)
    (case a19 => k_is)
    (case l19 => k_is)
    (case c19 => k_is)
    (case k19 => k_is)
    (case a20 => k_is)
    (case l20 => k_is)
    (case c20 => k_is)
    (case k20 => k_is)
    (case a21 => k_is)
    (case l21 => k_is)
    (case c21 => k_is)
    (case k21 => k_is)
    (case a22 => k_is)
    (case l22 => k_is)
    (case c22 => k_is)
    (case k22 => k_is)
    (case i22 => k_is)
    (case a23 => k_is)
    (case l23 => k_is)
    (case c23 => k_is)
    (case k23 => k_is)
    (case a24 => k_is)
    (case l24 => k_is)
    (case c24 => k_is)
    (case k24 => k_is)
    (case a25 => k_is)
    (case l25 => k_is)
    (case c25 => k_is)
    (case k25 => k_is)
    (case a26 => k_is)
    (case l26 => k_is)
    (case c26 => k_is)
    (case k26 => k_is)
    (case a27 => k_is)
    (case l27 => k_is)
    (case c27 => k_is)
    (case k27 => k_is)
    (case a28 => k_is)
    (case l28 => k_is)
    (case c28 => k_is)
    (case k28 => k_is)
    (case a29 => k_is)
    (case l29 => k_is)
    (case c29 => k_is)
    (case k29 => k_is)
    (case a30 => k_is)
    (case l30 => k_is)
    (case c30 => k_is)
    (case k30 => k_is)
    (case a31 => k_is)
    (case l31 => k_is)
    (case c31 => k_is)
    (case k31 => k_is)
    (case a32 => k_is)
    (case l32 => k_is)
    (case c32 => k_is)
    (case k32 => k_is)
    (case a33 => k_is)
    (case l33 => k_is)
    (case c33 => k_is)
    (case k33 => k_is)
    (case a34 => k_is)
    (case l34 => k_is)
    (case c34 => k_is)
    (case k34 => k_is)
    (case a35 => k_is)
    (case l35 => k_is)
    (case c35 => k_is)
    (case k35 => k_is)
    (case a36 => k_is)
    (case l36 => k_is)
    (case c36 => k_is)
    (case k36 => k_is)
    (case a37 => k_is)
    (case l37 => k_is)
    (case c37 => k_is)
    (case k37 => k_is)
    (case oN => k_is)
    (case oT => k_is)
    (case x1TurnError => k_is)
    (case x2TurnError => k_exc)
    (case x3TurnError => k_is)
    (case x4TurnError => k_is)
    (case x5TurnError => k_is)
    (case x6TurnError => k_is)
    (case x7TurnError => k_is)
    (case x8TurnError => k_is)
    (case x9TurnError => k_is)
    (case xaTurnError => k_is)
    (case x1BadWord => k_is)
    (case x2BadWord => k_exc)
    (case x3BadWord => k_is)
    (case x4BadWord => k_is)
    (case x5BadWord => k_is)
    (case x6BadWord => k_is)
    (case x7BadWord => k_is)
    (case x8BadWord => k_is)
    (case x9BadWord => k_is)
    (case xaBadWord => k_is)
    (case x1OtherLength => k_is)
    (case x2OtherLength => k_exc)
    (case x3OtherLength => k_is)
    (case x4OtherLength => k_is)
    (case x5OtherLength => k_is)
    (case x6OtherLength => k_is)
    (case x7OtherLength => k_is)
    (case x8OtherLength => k_is)
    (case x9OtherLength => k_is)
    (case xaOtherLength => k_is)
    (case x1BadMany => k_is)
    (case x2BadMany => k_exc)
    (case x3BadMany => k_is)
    (case x4BadMany => k_is)
    (case x5BadMany => k_is)
    (case x6BadMany => k_is)
    (case x7BadMany => k_is)
    (case x8BadMany => k_is)
    (case x9BadMany => k_is)
    (case xaBadMany => k_is)
    (case x1BadBenches => k_is)
    (case x2BadBenches => k_exc)
    (case x3BadBenches => k_is)
    (case x4BadBenches => k_is)
    (case x5BadBenches => k_is)
    (case x6BadBenches => k_is)
    (case x7BadBenches => k_is)
    (case x8BadBenches => k_is)
    (case x9BadBenches => k_is)
    (case xaBadBenches => k_is)
    (case u2Hall => k_is)
    (case u3Hall => k_is)
    (case u4Hall => k_is)
    (case u5Hall => k_is)
    (case vNoneTypeHall => first | kernel_rfl | exact rfl)
    (case vboolHall => first | kernel_rfl | exact rfl)
    (case vintHall => first | kernel_rfl | exact rfl)
    (case vstrHall => first | kernel_rfl | exact rfl)
    (case vtupleHall => first | kernel_rfl | exact rfl)
    (case vlistHall => first | kernel_rfl | exact rfl)
    (case vdictHall => first | kernel_rfl | exact rfl)
    (case u8Hall => k_is)
    (case u9Hall => k_is)
    (case u6Hall => k_is)
    (case u7Hall => k_is)
    (case nfHallbenches => k_is)
    (case nfHallmany => k_is)
    (case gLETTERS => k_is)
    (case gMOST_LENGTH => k_is)
    (case gA_FIGURES => k_is)
    (case gMOST_TURNERS => k_is)
    (case gMOST_BENCHES => k_is)
    (case gMOST_CREW => k_is)
    (case zabs => k_is)
    (case zall => k_is)
    (case zbool => k_is)
    (case zenumerate => k_is)
    (case zint => k_is)
    (case zisinstance => k_is)
    (case zlen => k_is)
    (case zlist => k_is)
    (case zmin => k_is)
    (case zrange => k_is)
    (case zrepr => k_is)
    (case zstr => k_is)
    (case zsum => k_is)
    (case ztuple => k_is)
    (case zzip => k_is)
    (case tb36 => first | exact rfl | kernel_rfl)
    (case tr36 => first | rfl | k_is)
    (case te36 => first | rfl | k_is)
    (case nt => first | k_is | rfl | decide +kernel)
    (case yBadWord => k_is)
    (case yOtherLength => k_is)
    (case yBadMany => k_is)
    (case yBadBenches => k_is)
    (case nBadWord => first | kernel_rfl | exact rfl)
    (case iBadWordBadWord => first | kernel_rfl | exact rfl)
    (case iOtherLengthBadWord => first | kernel_rfl | exact rfl)
    (case iBadManyBadWord => first | kernel_rfl | exact rfl)
    (case iBadBenchesBadWord => first | kernel_rfl | exact rfl)
    (case nOtherLength => first | kernel_rfl | exact rfl)
    (case iBadWordOtherLength => first | kernel_rfl | exact rfl)
    (case iOtherLengthOtherLength => first | kernel_rfl | exact rfl)
    (case iBadManyOtherLength => first | kernel_rfl | exact rfl)
    (case iBadBenchesOtherLength => first | kernel_rfl | exact rfl)
