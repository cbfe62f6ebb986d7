import PyProof.Rows.All
import Wide.All
import OpenK.AllK
import Wide.FinOn
import HandS.ForMost
import HandS.Exc
import HandS.ExcOwn
import HandS.WordsExc
import HandS.Walk
import HandS.Lambda
import HandS.TupAny
import HandS.TupMul
import HandS.WideBits
import HandS.IsInst
import HandS.TupLe
import HandS.Flow
import PyProof.ReprRoads
import HandS.RaiseMore
import HandS.Zip
import KE.GoesEnum
import KE.GoesNew
import HandS.Style
import HandS.StrMore
import HandS.ExcValue
import HandS.ExcIs
import KE.KIsAll
import HandS.EndTab
import KE.KNest
import HandS.Conv
import HandS.Comp
import PyProof.ListStr
import HandS.More
import HandS.NoneIn
import HandS.Keys
import HandS.TupSets
import HandS.SortInts
import HandS.Star
import KE.BitLaws
import KE.KSortTupAny
import KE.GoesMore
import PyProof.SliceStr2
import KE.KExcSuper
import KE.KSuper
import KE.KExcLine
import HandS.ExcField
import HandS.OwnEq
import HandS.FStr
import HandS.Strs
import HandS.RevTup
import HandS.MapObj
import HandS.TupLen
import HandS.Rev
import KE.KDictZip
import HandS.DictComp
import KE.SortData
import KE.DataMinMax
import KE.KEqDict
import HandS.ListEq
import HandS.Deep
import HandS.SetFor
import PyProof.EqKinds
import KE.DataMinKey
import HandS.SortKw
import KE.OsMirror
import PyProof.ReprLen
import PyProof.FitsInt
import PyProof.StrLawsIn
import PySem.Challenge.RW_leftminus_k22_whole_a_signing_or_an_odd
set_option Elab.async false
set_option linter.all false
set_option maxRecDepth 100000
set_option maxHeartbeats 4000000
namespace DX
/-- the tables of code objects that are looked at -/
class TabT where
  T : List (PySem.Addr × PySem.Str)
variable [TabT]
open PySem L2
abbrev Frag := PySem.W.Frag
/-- a lambda without parameters, as it is made: its name, its text, the cells of the frame that makes it -/
structure LamK where
  q : Str
  pa : Arguments
  bd : Expr
  sc : Scope
  cl : List (Str × Addr)
/-- the function at f is this lambda -/
def LamO (f c' : Addr) (L : LamK) : HO := .ext fun h => ∃ pm ctv : Value, h.get? f = some (PySem.W.kla_obj "<lambda>" L.q L.pa L.bd L.sc (cloFrom L.cl L.sc.names []) pm c' ctv)
inductive Dt where
  | non | bl (b : Bool) | int (i : Int) | str (s : Str)
  | tup (l : List Dt) | lst (l : List Dt) | dic (l : List (Key × Dt)) | obj (C : Addr) (l : List (Str × Dt))
  | op (v : V) | scr (l : List Int) | exn (C : Addr) (l : List (Str × Dt)) | dit (l : List (List Key × Dt)) | lam (k : Nat) (L : LamK)
inductive Wv where
  | dat (d : Dt) | cel (k : Nat)
inductive Cell where
  | lst (l : List Wv) | dic (l : List (Key × Wv)) | ins (C : Addr) (l : List (Str × Wv)) | dead | lck (l : List (Key × Wv)) | dit (b : Bool) (l : List (List Key × Wv))
/-- an own class whose instances are looked at -/
structure OwnC (K : Frag) (C : Addr) : Prop where
  cl : Cls K C
  ha : PySem.W.findIn K (.ref C) "__class__" = some (some (.builtin "object.__class__"))
  hn : PySem.W.specialIn K (.builtin "object.__class__") "__get__" = some (some (.builtin "getset_descriptor.__get__"))
  ht : PySem.W.takesIn K (.builtin "object.__class__") = some true
  hm : PySem.W.mroIn K C (.type "object") = some true
  kt : ∀ m ∈ (["NoneType", "bool", "int", "str", "tuple", "list", "dict"] : List String), PySem.W.kitOne K (.ref C) (.type m) = some false
/-- a tuple, tracked -/
structure TupAt (K : Frag) (H : Hp) (a : Addr) (xs : List V) : Prop where
  at_ : H a = some (.tup xs)
theorem TupAt.sq {K : Frag} {H : Hp} {a : Addr} {xs : List V} (h : TupAt K H a xs) : SqT K H a xs := .inl (.inl h.at_)
/-- an exception of an own class that was caught, at a; its dict -/
def ExT (C : Addr) (d : Option Addr) (a : Addr) : HO := .ext fun h => ∃ (oe : Obj) (vs : Array Value), h.get? a = some oe ∧ Zc (.ref C) d oe ∧ oe.data = .fields vs
/-- what its dict holds -/
def ExF (H : Hp) (d : Option Addr) (xs : List (Str × V)) : Prop := (d = none ∧ xs = []) ∨ (xs ≠ [] ∧ ∃ dd, d = some dd ∧ H dd = some (.xd xs))
mutual
inductive RepD (K : Frag) (H : Hp) : V → Dt → Prop
  | non : RepD K H .non .non
  | bl (b : Bool) : RepD K H (.bl b) (.bl b)
  | int (i : Int) : RepD K H (.int i) (.int i)
  | str (s : Str) : RepD K H (.str s) (.str s)
  | tup {a : Addr} {xs : List V} {ds : List Dt} : TupAt K H a xs → RepL K H xs ds → RepD K H (.ref a) (.tup ds)
  | lst {a : Addr} {xs : List V} {ds : List Dt} : H a = some (.lst xs) → RepL K H xs ds → RepD K H (.ref a) (.lst ds)
  | dic {a : Addr} {xs : List (Key × V)} {ds : List (Key × Dt)} : H a = some (.dK xs) → RepK K H xs ds → RepD K H (.ref a) (.dic ds)
  | obj {a C dx : Addr} {xs : List (Str × V)} {ds : List (Str × Dt)} : H a = some (.ins C dx xs) → OwnC K C → RepF K H xs ds → RepD K H (.ref a) (.obj C ds)
  | op (v : V) : RepD K H v (.op v)
  | scr {a : Addr} {ns : List Int} : SqL K H a (ns.map V.int) → RepD K H (.ref a) (.scr ns)
  | exn {a C : Addr} {d : Option Addr} {xs : List (Str × V)} {ds : List (Str × Dt)} : H a = some (ExT C d a) → ExF H d xs → RepF K H xs ds → RepD K H (.ref a) (.exn C ds)
  | dit {a : Addr} {xs : List (List Key × V)} {ds : List (List Key × Dt)} : H a = some (.dT xs) → RepT K H xs ds → RepD K H (.ref a) (.dit ds)
  | lam {f c' : Addr} {k : Nat} {L : LamK} : H f = some (LamO f c' L) → H c' = some (LamX.CodeO c' L.q) → RepD K H (.ref f) (.lam k L)
inductive RepL (K : Frag) (H : Hp) : List V → List Dt → Prop
  | nil : RepL K H [] []
  | cons {v : V} {vs : List V} {d : Dt} {ds : List Dt} : RepD K H v d → RepL K H vs ds → RepL K H (v :: vs) (d :: ds)
inductive RepK (K : Frag) (H : Hp) : List (Key × V) → List (Key × Dt) → Prop
  | nil : RepK K H [] []
  | cons {k : Key} {v : V} {vs : List (Key × V)} {d : Dt} {ds : List (Key × Dt)} : RepD K H v d → RepK K H vs ds → RepK K H ((k, v) :: vs) ((k, d) :: ds)
inductive RepT (K : Frag) (H : Hp) : List (List Key × V) → List (List Key × Dt) → Prop
  | nil : RepT K H [] []
  | cons {k : List Key} {v : V} {vs : List (List Key × V)} {d : Dt} {ds : List (List Key × Dt)} : RepD K H v d → RepT K H vs ds → RepT K H ((k, v) :: vs) ((k, d) :: ds)
inductive RepF (K : Frag) (H : Hp) : List (Str × V) → List (Str × Dt) → Prop
  | nil : RepF K H [] []
  | cons {k : Str} {v : V} {vs : List (Str × V)} {d : Dt} {ds : List (Str × Dt)} : RepD K H v d → RepF K H vs ds → RepF K H ((k, v) :: vs) ((k, d) :: ds)
end
/-- all that H tells H' tells -/
def Ex (H H' : Hp) : Prop := ∀ a o, H a = some o → H' a = some o
theorem Ex.refl (H : Hp) : Ex H H := fun _ _ h => h
theorem Ex.trans {H H1 H2 : Hp} (a : Ex H H1) (b : Ex H1 H2) : Ex H H2 := fun x o h => b x o (a x o h)
theorem Ex.new {H : Hp} {p : Addr} {o : HO} (h : H p = none) : Ex H (upd H p o) := fun a u e => by
  rw [upd_ne (ne_of_none e h)]
  exact e
theorem Ex.out {H H' : Hp} {p : Addr} {o : HO} (e : Ex H H') (h : H p = none) : Ex H (upd H' p o) := fun a u ha => by
  rw [upd_ne (ne_of_none ha h)]
  exact e a u ha
theorem Ex.both {H H' : Hp} {p : Addr} {o : HO} (e : Ex H H') : Ex (upd H p o) (upd H' p o) := fun a u ha => by
  by_cases h : a = p
  · subst h
    rw [upd_same] at ha ⊢
    exact ha
  · rw [upd_ne h] at ha ⊢
    exact e a u ha
theorem Ex.back {H H' : Hp} {p : Addr} (e : Ex H H') (h : H' p = none) : H p = none := by
  cases h1 : H p with
  | none => rfl
  | some o =>
    rw [e p o h1] at h
    cases h
theorem ex_rd {H H' : Hp} {a : Addr} {u : HO} (e : Ex H H') (h : Rd H a u) : Rd H' a u := by
  rcases h with h | ⟨o, h⟩
  · exact Or.inl (e a _ h)
  · exact Or.inr ⟨o, e a _ h⟩
theorem ex_l {K : Frag} {H H' : Hp} {a : Addr} {xs : List V} (e : Ex H H') (h : SqL K H a xs) : SqL K H' a xs := by
  rcases h with h | h
  · exact Or.inl (ex_rd e h)
  · exact Or.inr h
theorem ex_t {K : Frag} {H H' : Hp} {a : Addr} {xs : List V} (e : Ex H H') (h : TupAt K H a xs) : TupAt K H' a xs := ⟨e a _ h.at_⟩
mutual
theorem RepD.mono {K : Frag} {H H' : Hp} (e : Ex H H') : ∀ (d : Dt) (v : V), RepD K H v d → RepD K H' v d
  | .non, _, h => by cases h; exact .non
  | .bl b, _, h => by cases h; exact .bl b
  | .int i, _, h => by cases h; exact .int i
  | .str s, _, h => by cases h; exact .str s
  | .tup ds, _, h => by
    cases h with
    | tup hs hl => exact .tup (ex_t e hs) (RepL.mono e ds _ hl)
  | .lst ds, _, h => by
    cases h with
    | lst hs hl => exact .lst (e _ _ hs) (RepL.mono e ds _ hl)
  | .dic ds, _, h => by
    cases h with
    | dic hs hl => exact .dic (e _ _ hs) (RepK.mono e ds _ hl)
  | .obj C ds, _, h => by
    cases h with
    | obj hs hc hl => exact .obj (e _ _ hs) hc (RepF.mono e ds _ hl)
  | .op v, _, h => by cases h; exact .op v
  | .exn C ds, _, h => by
    cases h with
    | exn hs hd hl => exact .exn (e _ _ hs) (hd.elim .inl fun ⟨n, dd, e1, e2⟩ => .inr ⟨n, dd, e1, e _ _ e2⟩) (RepF.mono e ds _ hl)
  | .scr l, _, h => by
    cases h with
    | scr hs => exact .scr (ex_l e hs)
  | .dit ds, _, h => by
    cases h with
    | dit hs hl => exact .dit (e _ _ hs) (RepT.mono e ds _ hl)
  | .lam k L, _, h => by
    cases h with
    | lam h1 h2 => exact .lam (e _ _ h1) (e _ _ h2)
theorem RepT.mono {K : Frag} {H H' : Hp} (e : Ex H H') : ∀ (ds : List (List Key × Dt)) (vs : List (List Key × V)), RepT K H vs ds → RepT K H' vs ds
  | [], _, h => by cases h; exact .nil
  | (k, d) :: ds, _, h => by
    cases h with
    | cons h1 h2 => exact .cons (RepD.mono e d _ h1) (RepT.mono e ds _ h2)
theorem RepL.mono {K : Frag} {H H' : Hp} (e : Ex H H') : ∀ (ds : List Dt) (vs : List V), RepL K H vs ds → RepL K H' vs ds
  | [], _, h => by cases h; exact .nil
  | d :: ds, _, h => by
    cases h with
    | cons h1 h2 => exact .cons (RepD.mono e d _ h1) (RepL.mono e ds _ h2)
theorem RepK.mono {K : Frag} {H H' : Hp} (e : Ex H H') : ∀ (ds : List (Key × Dt)) (vs : List (Key × V)), RepK K H vs ds → RepK K H' vs ds
  | [], _, h => by cases h; exact .nil
  | (k, d) :: ds, _, h => by
    cases h with
    | cons h1 h2 => exact .cons (RepD.mono e d _ h1) (RepK.mono e ds _ h2)
theorem RepF.mono {K : Frag} {H H' : Hp} (e : Ex H H') : ∀ (ds : List (Str × Dt)) (vs : List (Str × V)), RepF K H vs ds → RepF K H' vs ds
  | [], _, h => by cases h; exact .nil
  | (k, d) :: ds, _, h => by
    cases h with
    | cons h1 h2 => exact .cons (RepD.mono e d _ h1) (RepF.mono e ds _ h2)
end
theorem RepL.len {K : Frag} {H : Hp} : ∀ {vs : List V} {ds : List Dt}, RepL K H vs ds → vs.length = ds.length
  | [], _, h => by cases h; rfl
  | v :: vs, _, h => by
    cases h with
    | cons h1 h2 => simp [RepL.len h2]
theorem RepL.get {K : Frag} {H : Hp} : ∀ {vs : List V} {ds : List Dt} {i : Nat} {d : Dt}, RepL K H vs ds → ds[i]? = some d → ∃ v, vs[i]? = some v ∧ RepD K H v d
  | [], _, i, d, h, e => by cases h; simp at e
  | v :: vs, _, i, d, h, e => by
    cases h with
    | cons h1 h2 =>
      cases i with
      | zero =>
        simp at e
        subst e
        exact ⟨v, rfl, h1⟩
      | succ i =>
        simp at e
        obtain ⟨u, q1, q2⟩ := RepL.get h2 e
        exact ⟨u, by simpa using q1, q2⟩
theorem RepL.app {K : Frag} {H : Hp} : ∀ {vs us : List V} {ds es : List Dt}, RepL K H vs ds → RepL K H us es → RepL K H (vs ++ us) (ds ++ es)
  | [], _, _, _, h, g => by cases h; exact g
  | v :: vs, _, _, _, h, g => by
    cases h with
    | cons h1 h2 => exact .cons h1 (RepL.app h2 g)
theorem RepL.take {K : Frag} {H : Hp} : ∀ {vs : List V} {ds : List Dt} (n : Nat), RepL K H vs ds → RepL K H (vs.take n) (ds.take n)
  | [], _, n, h => by cases h; simp; exact .nil
  | v :: vs, _, n, h => by
    cases h with
    | cons h1 h2 =>
      cases n with
      | zero => exact .nil
      | succ n => exact .cons h1 (RepL.take n h2)
theorem RepL.drop {K : Frag} {H : Hp} : ∀ {vs : List V} {ds : List Dt} (n : Nat), RepL K H vs ds → RepL K H (vs.drop n) (ds.drop n)
  | [], _, n, h => by cases h; simp; exact .nil
  | v :: vs, _, n, h => by
    cases h with
    | cons h1 h2 =>
      cases n with
      | zero => exact .cons h1 h2
      | succ n => exact RepL.drop n h2
structure Wo where
  Hs : Hp
  ad : List Addr
  T : Addr → Option (Obj × HO)
  fr : Hp
def RepW (K : Frag) (ω : Wo) (v : V) : Wv → Prop
  | .dat d => RepD K ω.Hs v d
  | .cel k => ∃ a, ω.ad[k]? = some a ∧ v = .ref a
structure Le (ω ω' : Wo) : Prop where
  ex : Ex ω.Hs ω'.Hs
  ad : ω.ad <+: ω'.ad
  tb : ω'.T = ω.T
  fr : ω'.fr = ω.fr
theorem Le.refl (ω : Wo) : Le ω ω := ⟨Ex.refl _, List.prefix_refl _, rfl, rfl⟩
theorem Le.trans {a b c : Wo} (h : Le a b) (g : Le b c) : Le a c := ⟨h.ex.trans g.ex, h.ad.trans g.ad, g.tb.trans h.tb, g.fr.trans h.fr⟩
theorem Le.at {ω ω' : Wo} (h : Le ω ω') {k : Nat} {a : Addr} (e : ω.ad[k]? = some a) : ω'.ad[k]? = some a := by
  obtain ⟨t, ht⟩ := h.ad
  have hk : k < ω.ad.length := by
    cases q : (decide (k < ω.ad.length)) with
    | true => exact of_decide_eq_true q
    | false =>
      rw [List.getElem?_eq_none (by have := of_decide_eq_false q; omega)] at e
      cases e
  rw [← ht, List.getElem?_append_left hk]
  exact e
theorem RepW.mono {K : Frag} {ω ω' : Wo} {v : V} {w : Wv} (l : Le ω ω') (h : RepW K ω v w) : RepW K ω' v w := by
  cases w with
  | dat d => exact RepD.mono l.ex d v h
  | cel k =>
    obtain ⟨a, e1, e2⟩ := h
    exact ⟨a, l.at e1, e2⟩
inductive RepWs (K : Frag) (ω : Wo) : List V → List Wv → Prop
  | nil : RepWs K ω [] []
  | cons {v : V} {vs : List V} {w : Wv} {ws : List Wv} : RepW K ω v w → RepWs K ω vs ws → RepWs K ω (v :: vs) (w :: ws)
inductive RepWk (K : Frag) (ω : Wo) : List (Key × V) → List (Key × Wv) → Prop
  | nil : RepWk K ω [] []
  | cons {k : Key} {v : V} {vs : List (Key × V)} {w : Wv} {ws : List (Key × Wv)} : RepW K ω v w → RepWk K ω vs ws → RepWk K ω ((k, v) :: vs) ((k, w) :: ws)
inductive RepWt (K : Frag) (ω : Wo) : List (List Key × V) → List (List Key × Wv) → Prop
  | nil : RepWt K ω [] []
  | cons {k : List Key} {v : V} {vs : List (List Key × V)} {w : Wv} {ws : List (List Key × Wv)} : RepW K ω v w → RepWt K ω vs ws → RepWt K ω ((k, v) :: vs) ((k, w) :: ws)
inductive RepWf (K : Frag) (ω : Wo) : List (Str × V) → List (Str × Wv) → Prop
  | nil : RepWf K ω [] []
  | cons {k : Str} {v : V} {vs : List (Str × V)} {w : Wv} {ws : List (Str × Wv)} : RepW K ω v w → RepWf K ω vs ws → RepWf K ω ((k, v) :: vs) ((k, w) :: ws)
theorem RepWt.mono {K : Frag} {ω ω' : Wo} (l : Le ω ω') {vs : List (List Key × V)} {ws : List (List Key × Wv)} (h : RepWt K ω vs ws) : RepWt K ω' vs ws := by
  induction h with
  | nil => exact .nil
  | cons h1 _ ih => exact .cons (h1.mono l) ih
theorem RepWf.mono {K : Frag} {ω ω' : Wo} (l : Le ω ω') {vs : List (Str × V)} {ws : List (Str × Wv)} (h : RepWf K ω vs ws) : RepWf K ω' vs ws := by
  induction h with
  | nil => exact .nil
  | cons h1 _ ih => exact .cons (h1.mono l) ih
theorem RepWs.mono {K : Frag} {ω ω' : Wo} (l : Le ω ω') {vs : List V} {ws : List Wv} (h : RepWs K ω vs ws) : RepWs K ω' vs ws := by
  induction h with
  | nil => exact .nil
  | cons h1 _ ih => exact .cons (h1.mono l) ih
theorem RepWk.mono {K : Frag} {ω ω' : Wo} (l : Le ω ω') {vs : List (Key × V)} {ws : List (Key × Wv)} (h : RepWk K ω vs ws) : RepWk K ω' vs ws := by
  induction h with
  | nil => exact .nil
  | cons h1 _ ih => exact .cons (h1.mono l) ih
theorem RepWs.len {K : Frag} {ω : Wo} {vs : List V} {ws : List Wv} (h : RepWs K ω vs ws) : vs.length = ws.length := by
  induction h with
  | nil => rfl
  | cons _ _ ih => simp [ih]
theorem RepWs.app {K : Frag} {ω : Wo} {vs us : List V} {ws zs : List Wv} (h : RepWs K ω vs ws) (g : RepWs K ω us zs) : RepWs K ω (vs ++ us) (ws ++ zs) := by
  induction h with
  | nil => exact g
  | cons h1 _ ih => exact .cons h1 ih
/-- all are data -/
def dats : List Wv → Option (List Dt)
  | [] => some []
  | .dat d :: ws => (dats ws).map (d :: ·)
  | .cel _ :: _ => none
theorem RepWs.dats {K : Frag} {ω : Wo} : ∀ {vs : List V} {ws : List Wv} {ds : List Dt}, RepWs K ω vs ws → dats ws = some ds → RepL K ω.Hs vs ds
  | _, [], _, h, e => by
    cases h
    simp [DX.dats] at e
    subst e
    exact .nil
  | _, .dat d :: ws, _, h, e => by
    cases h with
    | cons h1 h2 =>
      simp [DX.dats] at e
      obtain ⟨es, e1, rfl⟩ := e
      exact .cons h1 (RepWs.dats h2 e1)
  | _, .cel k :: ws, _, h, e => by simp [DX.dats] at e
theorem RepWs.of {K : Frag} {ω : Wo} : ∀ {vs : List V} {ds : List Dt}, RepL K ω.Hs vs ds → RepWs K ω vs (ds.map .dat)
  | _, [], h => by cases h; exact .nil
  | _, d :: ds, h => by
    cases h with
    | cons h1 h2 => exact .cons h1 (RepWs.of h2)
def NoTbl : HO → Prop
  | .tbl _ => False
  | _ => True
/-- a dict with tuple keys, locked or not -/
def DiH (b : Bool) (ω : Wo) (H : Hp) (a : Addr) (vs : List (List Key × V)) : Prop :=
  (b = false ∧ H a = some (.dT vs)) ∨ (b = true ∧ ∃ o, ω.T a = some (o, .dT vs) ∧ H a = some (.frz o (.dT vs)))
theorem DiH.at {b : Bool} {ω : Wo} {H : Hp} {a : Addr} {vs : List (List Key × V)} (h : DiH b ω H a vs) : Rd H a (.dT vs) := by
  rcases h with ⟨_, h⟩ | ⟨_, o, _, h⟩
  · exact .inl h
  · exact .inr ⟨o, h⟩
theorem DiH.there {b : Bool} {ω : Wo} {H : Hp} {a : Addr} {vs : List (List Key × V)} (h : DiH b ω H a vs) : ∃ o, H a = some o := by
  rcases h with ⟨_, h⟩ | ⟨_, o, _, h⟩
  · exact ⟨_, h⟩
  · exact ⟨_, h⟩
theorem DiH.mono {b : Bool} {ω ω' : Wo} {H H' : Hp} {a : Addr} {vs : List (List Key × V)} (ht : ∀ p, ω.T a = some p → ω'.T a = some p) (hh : ∀ u, H a = some u → H' a = some u) (h : DiH b ω H a vs) : DiH b ω' H' a vs := by
  rcases h with ⟨e, h⟩ | ⟨e, o, h1, h2⟩
  · exact .inl ⟨e, hh _ h⟩
  · exact .inr ⟨e, o, ht _ h1, hh _ h2⟩
/-- what is kept is no table and no tuple -/
def FrO : HO → Prop
  | .tbl _ => False
  | .tup _ => False
  | .ext _ => False
  | _ => True
theorem FrO.nt {o : HO} (h : FrO o) : NoTbl o := by
  cases o <;> first | exact h | exact True.intro
def CellAt (K : Frag) (ω : Wo) (H : Hp) (a : Addr) : Cell → Prop
  | .lst ws => (ω.Hs a = none ∧ ω.fr a = none) ∧ ∃ vs, H a = some (.lst vs) ∧ RepWs K ω vs ws
  | .dic ws => (ω.Hs a = none ∧ ω.fr a = none) ∧ ∃ vs, H a = some (.dK vs) ∧ RepWk K ω vs ws
  | .ins C ws => ((ω.Hs a = none ∧ ω.fr a = none) ∧ OwnC K C) ∧ ∃ dx vs, H a = some (.ins C dx vs) ∧ RepWf K ω vs ws
  | .dead => ∃ o, ω.Hs a = some o
  | .lck ws => (ω.Hs a = none ∧ ω.fr a = none) ∧ ∃ o vs, ω.T a = some (o, .dK vs) ∧ H a = some (.frz o (.dK vs)) ∧ RepWk K ω vs ws
  | .dit b ws => (ω.Hs a = none ∧ ω.fr a = none) ∧ ∃ vs, DiH b ω H a vs ∧ RepWt K ω vs ws
structure Ok (K : Frag) (ω : Wo) (H : Hp) (cs : List Cell) : Prop where
  ex : Ex ω.Hs H
  len : cs.length = ω.ad.length
  nd : ω.ad.Nodup
  cel : ∀ (k : Nat) (a : Addr) (c : Cell), ω.ad[k]? = some a → cs[k]? = some c → CellAt K ω H a c
  tab : LamX.Tabs TabT.T H
  frx : Ex ω.fr H
  dj : ∀ a o, ω.fr a = some o → ω.Hs a = none
  nt : ∀ a o, ω.Hs a = some o → NoTbl o
  nf : ∀ a o, ω.fr a = some o → FrO o
  lk : ∀ a o u, ω.T a = some (o, u) → H a = some (.frz o u)
theorem Ok.there {K : Frag} {ω : Wo} {H : Hp} {cs : List Cell} (k : Ok K ω H cs) {a : Addr} (h : a ∈ ω.ad) : ∃ o, H a = some o := by
  obtain ⟨i, hi, e⟩ := List.getElem_of_mem h
  have e1 : ω.ad[i]? = some a := by rw [List.getElem?_eq_getElem hi, e]
  have e2 : cs[i]? = some (cs[i]'(by rw [k.len]; exact hi)) := List.getElem?_eq_getElem _
  have q := k.cel i a _ e1 e2
  cases hc : cs[i]'(by rw [k.len]; exact hi) with
  | lst ws => rw [hc] at q; obtain ⟨_, vs, h1, _⟩ := q; exact ⟨_, h1⟩
  | dic ws => rw [hc] at q; obtain ⟨_, vs, h1, _⟩ := q; exact ⟨_, h1⟩
  | ins C ws => rw [hc] at q; obtain ⟨_, dx, vs, h1, _⟩ := q; exact ⟨_, h1⟩
  | dead => rw [hc] at q; obtain ⟨o, h1⟩ := q; exact ⟨o, k.ex _ _ h1⟩
  | lck ws => rw [hc] at q; obtain ⟨_, o, vs, _, h1, _⟩ := q; exact ⟨_, h1⟩
  | dit b ws => rw [hc] at q; obtain ⟨_, vs, h1, _⟩ := q; exact h1.there
/-- a new object, frozen at once -/
def Wo.froze (ω : Wo) (p : Addr) (o : HO) : Wo := ⟨upd ω.Hs p o, ω.ad, ω.T, ω.fr⟩
/-- a new object that is a cell -/
def Wo.more (ω : Wo) (p : Addr) : Wo := ⟨ω.Hs, ω.ad ++ [p], ω.T, ω.fr⟩
section
variable {K : Frag} {ω : Wo} {H : Hp} {cs : List Cell} {p : Addr} {o : HO}
theorem Le.froze (k : Ok K ω H cs) (hp : H p = none) : Le ω (ω.froze p o) := ⟨Ex.new (k.ex.back hp), List.prefix_refl _, rfl, rfl⟩
theorem Le.more : Le ω (ω.more p) := ⟨Ex.refl _, List.prefix_append _ _, rfl, rfl⟩
theorem CellAt.mono {ω' : Wo} {H' : Hp} {a : Addr} {c : Cell} (l : Le ω ω') (hs : ω.Hs a = none → ω'.Hs a = none) (hh : ∀ o, H a = some o → H' a = some o) (h : CellAt K ω H a c) : CellAt K ω' H' a c := by
  cases c with
  | lst ws => obtain ⟨⟨h0, h3⟩, vs, h1, h2⟩ := h; exact ⟨⟨hs h0, by rw [l.fr]; exact h3⟩, vs, hh _ h1, h2.mono l⟩
  | dic ws => obtain ⟨⟨h0, h3⟩, vs, h1, h2⟩ := h; exact ⟨⟨hs h0, by rw [l.fr]; exact h3⟩, vs, hh _ h1, h2.mono l⟩
  | ins C ws => obtain ⟨⟨⟨h0, h3⟩, hc⟩, dx, vs, h1, h2⟩ := h; exact ⟨⟨⟨hs h0, by rw [l.fr]; exact h3⟩, hc⟩, dx, vs, hh _ h1, h2.mono l⟩
  | dead => obtain ⟨o, h1⟩ := h; exact ⟨o, l.ex _ _ h1⟩
  | lck ws => obtain ⟨⟨h0, h3⟩, o, vs, ht, h1, h2⟩ := h; exact ⟨⟨hs h0, by rw [l.fr]; exact h3⟩, o, vs, by rw [l.tb]; exact ht, hh _ h1, h2.mono l⟩
  | dit b ws => obtain ⟨⟨h0, h3⟩, vs, h1, h2⟩ := h; exact ⟨⟨hs h0, by rw [l.fr]; exact h3⟩, vs, h1.mono (fun p z => by rw [l.tb]; exact z) hh, h2.mono l⟩
theorem Ok.froze (k : Ok K ω H cs) (hp : H p = none) (hpl : NoTbl o := by exact True.intro) : Ok K (ω.froze p o) (upd H p o) cs := by
  refine ⟨k.ex.both, k.len, k.nd, fun i a c e1 e2 => ?_, k.tab.ext (Ex.new hp), k.frx.trans (Ex.new hp), fun a u e => ?_, fun a u e => ?_, k.nf, fun a oo vs e => Ex.new hp _ _ (k.lk a oo vs e)⟩
  case refine_3 =>
    have e : upd ω.Hs p o a = some u := e
    by_cases h : a = p
    · rw [h, upd_same] at e
      cases e
      exact hpl
    · rw [upd_ne h] at e
      exact k.nt a u e
  case refine_2 =>
    show upd _ _ _ a = none
    rw [upd_ne (ne_of_none e (k.frx.back hp))]
    exact k.dj a u e
  have q := k.cel i a c e1 e2
  obtain ⟨u, hu⟩ := k.there (List.mem_of_getElem? e1)
  have ne : a ≠ p := ne_of_none hu hp
  exact q.mono (Le.froze k hp) (fun z => by show upd _ _ _ a = none; rw [upd_ne ne]; exact z) (fun o z => by rw [upd_ne ne]; exact z)
/-- a tuple that stands already becomes a datum -/
theorem Ok.adopt {q : Addr} {xs : List V} (k : Ok K ω H cs) (hq : H q = some (.tup xs)) : ∃ ω', Le ω ω' ∧ Ok K ω' H cs ∧ ω'.Hs q = some (.tup xs) := by
  have hf : ω.fr q = none := by
    cases e : ω.fr q with
    | none => rfl
    | some o =>
      have e2 := k.frx q o e
      rw [hq] at e2
      cases e2
      exact (k.nf q _ e).elim
  cases e : ω.Hs q with
  | some o =>
    have e2 := k.ex q o e
    rw [hq] at e2
    cases e2
    exact ⟨ω, Le.refl ω, k, e⟩
  | none =>
    have le : Le ω ⟨upd ω.Hs q (.tup xs), ω.ad, ω.T, ω.fr⟩ := ⟨Ex.new e, List.prefix_refl _, rfl, rfl⟩
    refine ⟨⟨upd ω.Hs q (.tup xs), ω.ad, ω.T, ω.fr⟩, le, ⟨fun a u h => ?_, k.len, k.nd, fun i a c e1 e2 => ?_, k.tab, k.frx, fun a u h => ?_, fun a u h => ?_, k.nf, k.lk⟩, upd_same⟩
    · have h : upd ω.Hs q (.tup xs) a = some u := h
      by_cases ha : a = q
      · rw [ha, upd_same] at h
        cases h
        rw [ha]
        exact hq
      · rw [upd_ne ha] at h
        exact k.ex a u h
    · have z := k.cel i a c e1 e2
      have ne : a ≠ q := fun ha => by
        subst ha
        cases c with
        | lst ws => obtain ⟨_, vs, h1, _⟩ := z; rw [hq] at h1; cases h1
        | dic ws => obtain ⟨_, vs, h1, _⟩ := z; rw [hq] at h1; cases h1
        | ins C ws => obtain ⟨_, dx, vs, h1, _⟩ := z; rw [hq] at h1; cases h1
        | dead => obtain ⟨o, h1⟩ := z; rw [e] at h1; cases h1
        | lck ws => obtain ⟨_, o, vs, _, h1, _⟩ := z; rw [hq] at h1; cases h1
        | dit b ws =>
          obtain ⟨_, vs, h1, _⟩ := z
          rcases h1.at with h1 | ⟨o, h1⟩ <;> rw [hq] at h1 <;> cases h1
      exact z.mono le (fun h => by show upd ω.Hs q _ a = none; rw [upd_ne ne]; exact h) fun _ h => h
    · have h : ω.fr a = some u := h
      show upd ω.Hs q _ a = none
      rw [upd_ne (ne_of_none h hf)]
      exact k.dj a u h
    · have h : upd ω.Hs q (.tup xs) a = some u := h
      by_cases ha : a = q
      · rw [ha, upd_same] at h
        cases h
        exact True.intro
      · rw [upd_ne ha] at h
        exact k.nt a u h
theorem Ok.more {c : Cell} (k : Ok K ω H cs) (hp : H p = none) (hc : CellAt K (ω.more p) (upd H p o) p c) : Ok K (ω.more p) (upd H p o) (cs ++ [c]) := by
  refine ⟨k.ex.out (k.ex.back hp), by show _ = (ω.ad ++ [p]).length; simp [k.len], ?_, fun i a c' e1 e2 => ?_, k.tab.ext (Ex.new hp), k.frx.trans (Ex.new hp), k.dj, k.nt, k.nf, fun a oo vs e => Ex.new hp _ _ (k.lk a oo vs e)⟩
  · show (ω.ad ++ [p]).Nodup
    refine List.nodup_append.mpr ⟨k.nd, List.nodup_cons.mpr ⟨by simp, List.nodup_nil⟩, fun a ha b hb => ?_⟩
    obtain ⟨u, hu⟩ := k.there ha
    have e : b = p := by simpa using hb
    subst e
    exact ne_of_none hu hp
  · have e1 : (ω.ad ++ [p])[i]? = some a := e1
    by_cases hi : i < ω.ad.length
    · rw [List.getElem?_append_left hi] at e1
      rw [List.getElem?_append_left (by rw [k.len]; exact hi)] at e2
      have q := k.cel i a c' e1 e2
      obtain ⟨u, hu⟩ := k.there (List.mem_of_getElem? e1)
      have ne : a ≠ p := ne_of_none hu hp
      exact q.mono Le.more (fun z => z) (fun o z => by rw [upd_ne ne]; exact z)
    · have hi2 : i = ω.ad.length := by
        cases q : decide (i = ω.ad.length) with
        | true => exact of_decide_eq_true q
        | false =>
          have := of_decide_eq_false q
          rw [List.getElem?_eq_none (by simp; omega)] at e1
          cases e1
      subst hi2
      rw [List.getElem?_append_right (Nat.le_refl _)] at e1
      rw [← k.len, List.getElem?_append_right (Nat.le_refl _)] at e2
      simp at e1 e2
      subst e1
      subst e2
      exact hc
end
/-- what is raised: the class by its name, what it keeps -/
structure Xn where
  nm : Str
  fs : List (Str × Dt)
instance : Coe Str Xn := ⟨fun x => ⟨x, []⟩⟩
inductive R (α : Type) where
  | ok (a : α) (cs : List Cell) | exc (x : Xn) (cs : List Cell) | bad
abbrev M (α : Type) := List Cell → R α
@[inline] def M.bind {α β : Type} (m : M α) (f : α → M β) : M β := fun cs => match m cs with
  | .ok a cs' => f a cs'
  | .exc x cs' => .exc x cs'
  | .bad => .bad
def M.ret {α : Type} (a : α) : M α := fun cs => .ok a cs
def M.bad {α : Type} : M α := fun _ => .bad
instance : Monad M where
  pure := M.ret
  bind := M.bind
def M.opt {α : Type} : Option α → M α
  | some a => M.ret a
  | none => M.bad
abbrev En := List (Option Wv)
abbrev Ev := En → M Wv
structure StRep (K : Frag) (ω : Wo) (σ : St) (env : En) : Prop where
  len : σ.length = env.length
  get : ∀ (i : Nat) (w : Wv), env[i]? = some (some w) → ∃ v, σ[i]? = some (some v) ∧ RepW K ω v w
theorem StRep.mono {K : Frag} {ω ω' : Wo} {σ : St} {env : En} (l : Le ω ω') (h : StRep K ω σ env) : StRep K ω' σ env :=
  ⟨h.len, fun i w e => let ⟨v, e1, r⟩ := h.get i w e; ⟨v, e1, r.mono l⟩⟩
theorem StRep.set {K : Frag} {ω : Wo} {σ : St} {env : En} {v : V} {w : Wv} (h : StRep K ω σ env) (i : Nat) (r : RepW K ω v w) : StRep K ω (σ.set i (some v)) (env.set i (some w)) := by
  refine ⟨by simpa using h.len, fun j u e => ?_⟩
  by_cases hj : i = j
  · subst hj
    by_cases hi : i < env.length
    · rw [List.getElem?_set_self hi] at e
      cases e
      exact ⟨v, List.getElem?_set_self (by rw [h.len]; exact hi), r⟩
    · rw [List.getElem?_eq_none (by simpa using hi)] at e
      cases e
  · rw [List.getElem?_set_ne hj] at e ⊢
    exact h.get j u e
abbrev MG := Str → Option Value
/-- an exception of the class at C with such fields is let go -/
def XOut (K : Frag) (E : XK) (Hs : Hp) (C : Addr) (H : Hp) : List (Str × Dt) → Prop
  | [] => E (.ref C) none H
  | l => ∀ dd xs, H dd = none → RepF K Hs xs l → E (.ref C) (some dd) (upd H dd (.xd xs))
/-- how a result is used: E is what is wanted of an exception (the class by its name) -/
def Out (K : Frag) (mg : MG) (E : XK) {α : Type} (ω : Wo) (r : R α) (F : α → Wo → List Cell → Hp → Prop) : Prop :=
  match r with
  | .ok a cs' => ∀ ω' H', Le ω ω' → Ok K ω' H' cs' → F a ω' cs' H'
  | .exc x cs' => ∀ C ω' H', mg x.nm = some (.ref C) → Le ω ω' → Ok K ω' H' cs' → XOut K E ω'.Hs C H' x.fs
  | .bad => False
section
variable {K : Frag} {mg : MG} {E : XK} {α β : Type} {ω ω' : Wo} {F F' : α → Wo → List Cell → Hp → Prop}
theorem Out.le {r : R α} (l : Le ω ω') (h : Out K mg E ω r F) : Out K mg E ω' r F := by
  cases r with
  | ok a cs => exact fun ω2 H2 l2 k2 => h ω2 H2 (l.trans l2) k2
  | exc x cs => exact fun C ω2 H2 m l2 k2 => h C ω2 H2 m (l.trans l2) k2
  | bad => exact h
theorem Out.imp {r : R α} (h : Out K mg E ω r F) (f : ∀ a ω' cs' H', Le ω ω' → Ok K ω' H' cs' → F a ω' cs' H' → F' a ω' cs' H') : Out K mg E ω r F' := by
  cases r with
  | ok a cs => exact fun ω2 H2 l2 k2 => f a ω2 cs H2 l2 k2 (h ω2 H2 l2 k2)
  | exc x cs => exact h
  | bad => exact h
theorem Out.bind {m : M α} {f : α → M β} {cs : List Cell} {G : β → Wo → List Cell → Hp → Prop} (h : Out K mg E ω (M.bind m f cs) G) : Out K mg E ω (m cs) (fun a ω' cs' _ => Out K mg E ω' (f a cs') G) := by
  unfold M.bind at h
  cases e : m cs with
  | ok a cs' =>
    rw [e] at h
    exact fun ω2 H2 l2 k2 => h.le l2
  | exc x cs' =>
    rw [e] at h
    exact h
  | bad =>
    rw [e] at h
    exact h
theorem Out.now {a : α} {cs : List Cell} {H : Hp} (h : Out K mg E ω (.ok a cs) F) (k : Ok K ω H cs) : F a ω cs H := h ω H (Le.refl ω) k
theorem Out.opt {o : Option α} {cs : List Cell} (h : Out K mg E ω (M.opt o cs) F) : ∃ a, o = some a ∧ Out K mg E ω (.ok a cs) F := by
  cases o with
  | none => exact (show False from h).elim
  | some a => exact ⟨a, rfl, h⟩
end
/-- an expression's reading by what it computes -/
def tEv (K : Frag) (mg : MG) (E : XK) (f : Ev) : TE := fun σ H Q => ∃ env cs ω, StRep K ω σ env ∧ Ok K ω H cs ∧ Out K mg E ω (f env cs) fun w ω' _ H' => ∀ v, RepW K ω' v w → Q v H'
def EV (X : Cx) (E : XK) (e : Expr) (f : Ev) : Prop := PE X e (tEv X.K X.mg E f)
/-- .. that makes a new list -/
abbrev EvF := En → M (List Wv)
def tEvF (K : Frag) (mg : MG) (E : XK) (f : EvF) : TE := fun σ H Q => ∃ env cs ω, StRep K ω σ env ∧ Ok K ω H cs ∧ Out K mg E ω (f env cs) fun ws ω' _ H' => ∀ p vs, H' p = none → RepWs K ω' vs ws → Q (.ref p) (upd H' p (.lst vs))
def EVF (X : Cx) (E : XK) (e : Expr) (f : EvF) : Prop := PE X e (tEvF X.K X.mg E f)
/-- a test -/
abbrev EvT := En → M Bool
def tEvT (K : Frag) (mg : MG) (E : XK) (f : EvT) : TT := fun σ H Q => ∃ env cs ω, StRep K ω σ env ∧ Ok K ω H cs ∧ Out K mg E ω (f env cs) fun b _ _ H' => Q b H'
def EVT (X : Cx) (E : XK) (e : Expr) (f : EvT) : Prop := PT X e (tEvT X.K X.mg E f)
/-- arguments -/
abbrev EvA := En → M (List Wv)
def tEvA (K : Frag) (mg : MG) (E : XK) (f : EvA) : TA := fun σ H Q => ∃ env cs ω, StRep K ω σ env ∧ Ok K ω H cs ∧ Out K mg E ω (f env cs) fun ws ω' _ H' => ∀ vs, RepWs K ω' vs ws → Q vs H'
def EVA (X : Cx) (E : XK) (es : List Expr) (f : EvA) : Prop := PA X es (tEvA X.K X.mg E f)
theorem PE.imp {X : Cx} {e : Expr} {t u : TE} (h : PE X e t) (i : ∀ σ H Q, u σ H Q → t σ H Q) : PE X e u := ⟨fun pins s σ H Q I q => h.run pins s σ H Q I (i σ H Q q)⟩
theorem PT.imp {X : Cx} {e : Expr} {t u : TT} (h : PT X e t) (i : ∀ σ H Q, u σ H Q → t σ H Q) : PT X e u := ⟨fun pins s σ H Q I q => h.run pins s σ H Q I (i σ H Q q)⟩
theorem PA.imp {X : Cx} {e : List Expr} {t u : TA} (h : PA X e t) (i : ∀ σ H Q, u σ H Q → t σ H Q) : PA X e u := ⟨fun pos pins s σ H Q I q => h.run pos pins s σ H Q I (i σ H Q q)⟩
theorem PS.imp {X : Cx} {e : Stmt} {t u : TS} (h : PS X e t) (i : ∀ D σ H, u D σ H → t D σ H) : PS X e u := ⟨fun pins s σ H D I q => h.run pins s σ H D I (i D σ H q)⟩
theorem PSs.imp {X : Cx} {e : List Stmt} {t u : TS} (h : PSs X e t) (i : ∀ D σ H, u D σ H → t D σ H) : PSs X e u := ⟨fun pins s σ H D I q => h.run pins s σ H D I (i D σ H q)⟩
end DX
namespace DX
variable [TabT]
open PySem L2
section
variable {X : Cx} {E : XK} {a b c : Expr} {pos : Pos} {f g : Ev}
def eVar (i : Nat) : Ev := fun env => M.opt (env[i]?.join)
theorem ev_var {i : Nat} {x : Str} (hN : X.N[i]? = some x) (hv : Vis X.env.scope x) (hd : (x == ("__debug__" : Str)) = false := by decide) (hcd : (x == ("__classdict__" : Str)) = false := by decide) : EV X E (.Name x pos) (eVar i) :=
  PE.imp (pe_var hN hv hd hcd) fun σ H Q ⟨env, cs, ω, hs, hk, h⟩ => by
    obtain ⟨w, e, h⟩ := Out.opt h
    obtain ⟨v, e1, r⟩ := hs.get i w (Option.join_eq_some_iff.mp e)
    exact ⟨v, e1, Out.now h hk v r⟩
def eC (d : Dt) : Ev := fun _ => M.ret (.dat d)
theorem ev_c {e : Expr} {v : V} {d : Dt} (h : PE X e (tC v)) (r : ∀ K H, RepD K H v d) : EV X E e (eC d) :=
  PE.imp h fun σ H Q ⟨env, cs, ω, hs, hk, h⟩ => Out.now h hk v (r _ _)
theorem ev_int {i : Int} {j} : EV X E (.Constant (.int i) j pos) (eC (.int i)) := ev_c pe_int fun _ _ => .int _
theorem ev_bl {i : Bool} {j} : EV X E (.Constant (.bool i) j pos) (eC (.bl i)) := ev_c pe_bl fun _ _ => .bl _
theorem ev_non {j} : EV X E (.Constant .none j pos) (eC .non) := ev_c pe_non fun _ _ => .non
theorem ev_str {x : Str} {j} : EV X E (.Constant (.str x) j pos) (eC (.str x)) := ev_c pe_str fun _ _ => .str _
/-- a module's constant -/
theorem ev_glob {x : Str} {v : V} {u : Value} {d : Dt} (hg : Gl X x) (hm : X.mg x = some u) (r : RelV v u) (hr : ∀ K H, RepD K H v d) (hd : (x == ("__debug__" : Str)) = false := by decide) : EV X E (.Name x pos) (eC d) := ev_c (pe_glob hg hm r hd) hr
theorem ev_bltn {x : Str} {v : V} {u : Value} (hg : Gl X x) (hm : X.mg x = none) (hv : bootBuiltins x = some u) (r : RelV v u) (hn : x ≠ "__name__" := by decide) (hd : (x == ("__debug__" : Str)) = false := by decide) : EV X E (.Name x pos) (eC (.op v)) := ev_c (pe_bltn hg hm hv r hn hd) fun _ _ => .op _
def liftB (o : Dt → Dt → Option Dt) : Wv → Wv → M Wv
  | .dat x, .dat y => M.opt ((o x y).map .dat)
  | _, _ => M.bad
def liftU (o : Dt → Option Dt) : Wv → M Wv
  | .dat x => M.opt ((o x).map .dat)
  | _ => M.bad
def eBin (o : Dt → Dt → Option Dt) (f g : Ev) : Ev := fun env => M.bind (f env) fun x => M.bind (g env) fun y => liftB o x y
def eUn (o : Dt → Option Dt) (f : Ev) : Ev := fun env => M.bind (f env) fun x => liftU o x
def BinO (K : Frag) (r : R2) (o : Dt → Dt → Option Dt) : Prop := ∀ (ω : Wo) (H : Hp) (cs : List Cell) (u v : V) (x y z : Dt), Ok K ω H cs → RepD K ω.Hs u x → RepD K ω.Hs v y → o x y = some z →
  ∀ Q : VK, (∀ ω' H' v', Le ω ω' → Ok K ω' H' cs → RepD K ω'.Hs v' z → Q v' H') → r u v H Q
def UnO (K : Frag) (r : V → Hp → VK → Prop) (o : Dt → Option Dt) : Prop := ∀ (ω : Wo) (H : Hp) (cs : List Cell) (u : V) (x z : Dt), Ok K ω H cs → RepD K ω.Hs u x → o x = some z →
  ∀ Q : VK, (∀ ω' H' v', Le ω ω' → Ok K ω' H' cs → RepD K ω'.Hs v' z → Q v' H') → r u H Q
theorem Out.map_some {K : Frag} {mg : MG} {α β : Type} {ω : Wo} {o : Option α} {h : α → β} {cs : List Cell} {F : β → Wo → List Cell → Hp → Prop} (q : Out K mg E ω (M.opt (o.map h) cs) F) : ∃ z, o = some z ∧ Out K mg E ω (R.ok (h z) cs) F := by
  cases o with
  | none => exact (show False from q).elim
  | some z => exact ⟨z, rfl, q⟩
theorem op_use {r : R2} {o : Dt → Dt → Option Dt} (hr : BinO X.K r o) {σ : St} {H : Hp} {Q : VK} (h : tEv X.K X.mg E (eBin o f g) σ H Q) : tOp r (tEv X.K X.mg E f) (tEv X.K X.mg E g) σ H Q := by
  obtain ⟨env, cs, ω, hs, hk, h⟩ := h
  refine ⟨env, cs, ω, hs, hk, h.bind.imp fun x ω1 cs1 H1 l1 k1 h1 u ru => ⟨env, cs1, ω1, hs.mono l1, k1, h1.bind.imp fun y ω2 cs2 H2 l2 k2 h2 v rv => ?_⟩⟩
  cases x with
  | cel k => exact (show False from h2).elim
  | dat x =>
    cases y with
    | cel k => exact (show False from h2).elim
    | dat y =>
      obtain ⟨z, e, h3⟩ := Out.map_some h2
      exact hr ω2 H2 cs2 u v x y z k2 (ru.mono l2 : RepW _ _ _ _) rv e Q fun ω' H' v' l k r => h3 ω' H' l k v' r
theorem un_use {r : V → Hp → VK → Prop} {o : Dt → Option Dt} (hr : UnO X.K r o) {σ : St} {H : Hp} {Q : VK} (h : tEv X.K X.mg E (eUn o f) σ H Q) : tUn r (tEv X.K X.mg E f) σ H Q := by
  obtain ⟨env, cs, ω, hs, hk, h⟩ := h
  refine ⟨env, cs, ω, hs, hk, h.bind.imp fun x ω1 cs1 H1 l1 k1 h1 u ru => ?_⟩
  cases x with
  | cel k => exact (show False from h1).elim
  | dat x =>
    obtain ⟨z, e, h3⟩ := Out.map_some h1
    exact hr ω1 H1 cs1 u x z k1 ru e Q fun ω' H' v' l k r => h3 ω' H' l k v' r
theorem ev_bin {op : Operator} {r : R2} {o : Dt → Dt → Option Dt} (ho : OpR X (binaryOp op) r) (hr : BinO X.K r o) (ha : EV X E a f) (hb : EV X E b g) : EV X E (.BinOp a op b pos) (eBin o f g) :=
  PE.imp (pe_op ho ha hb) fun _ _ _ h => op_use hr h
theorem ev_un {op : UnaryOp} {r : V → Hp → VK → Prop} {o : Dt → Option Dt} (ho : UnR X (unaryOp op) r) (hr : UnO X.K r o) (ha : EV X E a f) : EV X E (.UnaryOp op a pos) (eUn o f) :=
  PE.imp (pe_un ho ha) fun _ _ _ h => un_use hr h
theorem OpR.or {fn : Value → Value → Sem Value} {r s : R2} (h1 : OpR X fn r) (h2 : OpR X fn s) : OpR X fn (fun x y H Q => r x y H Q ∨ s x y H Q) := fun pins s σ H x y v u Q I rx ry q => by
  rcases q with q | q
  · exact h1 pins s σ H x y v u Q I rx ry q
  · exact h2 pins s σ H x y v u Q I rx ry q
theorem BinO.or {K : Frag} {r s : R2} {o p : Dt → Dt → Option Dt} (h1 : BinO K r o) (h2 : BinO K s p) : BinO K (fun x y H Q => r x y H Q ∨ s x y H Q) (fun x y => (o x y).or (p x y)) := fun ω H cs u v x y z k ru rv e Q q => by
  have e : (o x y).or (p x y) = some z := e
  cases h : o x y with
  | some w =>
    rw [h] at e
    exact .inl (h1 ω H cs u v x y z k ru rv (h.trans e) Q q)
  | none =>
    rw [h] at e
    exact .inr (h2 ω H cs u v x y z k ru rv e Q q)
/-- ints by a rule -/
def dI0 (g : Int → Int → Dt) : Dt → Dt → Option Dt
  | .int i, .int j => some (g i j)
  | _, _ => none
def dI (C : Int → Int → Bool) (g : Int → Int → Dt) : Dt → Dt → Option Dt
  | .int i, .int j => if C i j = true then some (g i j) else none
  | _, _ => none
theorem dI0_of {g : Int → Int → Dt} {x y z : Dt} (h : dI0 g x y = some z) : ∃ i j, x = .int i ∧ y = .int j ∧ z = g i j := by
  unfold dI0 at h
  split at h
  · exact ⟨_, _, rfl, rfl, (Option.some.inj h).symm⟩
  · cases h
theorem dI_of {C : Int → Int → Bool} {g : Int → Int → Dt} {x y z : Dt} (h : dI C g x y = some z) : ∃ i j, x = .int i ∧ y = .int j ∧ C i j = true ∧ z = g i j := by
  unfold dI at h
  split at h
  · split at h
    · exact ⟨_, _, rfl, rfl, by assumption, (Option.some.inj h).symm⟩
    · cases h
  · cases h
theorem bo_I0 {K : Frag} {gV : Int → Int → V} {gD : Int → Int → Dt} (hg : ∀ K H i j, RepD K H (gV i j) (gD i j)) : BinO K (rI0 gV) (dI0 gD) := fun ω H cs u v x y z k ru rv e Q q => by
  obtain ⟨i, j, rfl, rfl, rfl⟩ := dI0_of e
  cases ru; cases rv
  exact ⟨i, j, rfl, rfl, q ω H _ (Le.refl _) k (hg _ _ _ _)⟩
theorem bo_I {K : Frag} {C : Int → Int → Prop} {c : Int → Int → Bool} {gV : Int → Int → V} {gD : Int → Int → Dt} (hc : ∀ i j, c i j = true → C i j) (hg : ∀ K H i j, RepD K H (gV i j) (gD i j)) : BinO K (rI C gV) (dI c gD) := fun ω H cs u v x y z k ru rv e Q q => by
  obtain ⟨i, j, rfl, rfl, h, rfl⟩ := dI_of e
  cases ru; cases rv
  exact ⟨i, j, rfl, rfl, hc i j h, q ω H _ (Le.refl _) k (hg _ _ _ _)⟩
def szOk (n : Nat) : Bool := decide (n ≤ 16777216)
theorem szOk_of {n : Nat} (h : szOk n = true) : n ≤ sizeLine := by
  have := of_decide_eq_true h
  rw [sizeLine_eq]
  exact this
def dAddS : Dt → Dt → Option Dt
  | .str x, .str y => if szOk (x.length + y.length) = true then some (.str (x ++ y)) else none
  | _, _ => none
def dAddL : Dt → Dt → Option Dt
  | .lst x, .lst y => if szOk (x.length + y.length) = true then some (.lst (x ++ y)) else none
  | _, _ => none
def dAddT : Dt → Dt → Option Dt
  | .tup x, .tup y => if szOk (x.length + y.length) = true then some (.tup (x ++ y)) else none
  | _, _ => none
theorem dAddS_of {x y z : Dt} (h : dAddS x y = some z) : ∃ i j, x = .str i ∧ y = .str j ∧ i.length + j.length ≤ sizeLine ∧ z = .str (i ++ j) := by
  unfold dAddS at h
  split at h
  · split at h
    · exact ⟨_, _, rfl, rfl, szOk_of (by assumption), (Option.some.inj h).symm⟩
    · cases h
  · cases h
theorem dAddL_of {x y z : Dt} (h : dAddL x y = some z) : ∃ i j, x = .lst i ∧ y = .lst j ∧ i.length + j.length ≤ sizeLine ∧ z = .lst (i ++ j) := by
  unfold dAddL at h
  split at h
  · split at h
    · exact ⟨_, _, rfl, rfl, szOk_of (by assumption), (Option.some.inj h).symm⟩
    · cases h
  · cases h
theorem dAddT_of {x y z : Dt} (h : dAddT x y = some z) : ∃ i j, x = .tup i ∧ y = .tup j ∧ i.length + j.length ≤ sizeLine ∧ z = .tup (i ++ j) := by
  unfold dAddT at h
  split at h
  · split at h
    · exact ⟨_, _, rfl, rfl, szOk_of (by assumption), (Option.some.inj h).symm⟩
    · cases h
  · cases h
/-- a new frozen object at p -/
theorem froze_use {K : Frag} {ω : Wo} {H : Hp} {cs : List Cell} {d : Dt} {o : HO} {Q : VK} (k : Ok K ω H cs) (q : ∀ ω' H' v', Le ω ω' → Ok K ω' H' cs → RepD K ω'.Hs v' d → Q v' H') (hr : ∀ p, H p = none → RepD K (ω.froze p o).Hs (.ref p) d) (hpl : NoTbl o := by exact True.intro) :
    ∀ p, H p = none → Q (.ref p) (upd H p o) := fun p hp => q (ω.froze p o) _ (.ref p) (Le.froze k hp) (k.froze hp hpl) (hr p hp)
theorem rep_tup {K : Frag} {ω : Wo} {H : Hp} {cs : List Cell} {p : Addr} {xs : List V} {ds : List Dt} (k : Ok K ω H cs) (hp : H p = none) (h : RepL K ω.Hs xs ds) : RepD K (ω.froze p (.tup xs)).Hs (.ref p) (.tup ds) :=
  .tup ⟨upd_same⟩ (RepL.mono (Le.froze (o := HO.tup xs) k hp).ex ds xs h)
theorem rep_lst {K : Frag} {ω : Wo} {H : Hp} {cs : List Cell} {p : Addr} {xs : List V} {ds : List Dt} (k : Ok K ω H cs) (hp : H p = none) (h : RepL K ω.Hs xs ds) : RepD K (ω.froze p (.lst xs)).Hs (.ref p) (.lst ds) :=
  .lst upd_same (RepL.mono (Le.froze (o := HO.lst xs) k hp).ex ds xs h)
theorem bo_addS {K : Frag} : BinO K (fun x y H Q => ∃ i j, x = V.str i ∧ y = V.str j ∧ i.length + j.length ≤ sizeLine ∧ Q (.str (i ++ j)) H) dAddS := fun ω H cs u v x y z k ru rv e Q q => by
  obtain ⟨i, j, rfl, rfl, h, rfl⟩ := dAddS_of e
  cases ru; cases rv
  exact ⟨i, j, rfl, rfl, h, q ω H _ (Le.refl _) k (.str _)⟩
theorem bo_addL {K : Frag} : BinO K rCat dAddL := fun ω H cs u v x y z k ru rv e Q q => by
  obtain ⟨i, j, rfl, rfl, h, rfl⟩ := dAddL_of e
  cases ru with
  | lst h1 r1 =>
    cases rv with
    | lst h2 r2 =>
      exact ⟨_, _, _, _, rfl, rfl, k.ex _ _ h1, k.ex _ _ h2, by rw [r1.len, r2.len]; exact h, froze_use k q fun p hp => rep_lst k hp (r1.app r2)⟩
theorem bo_addT {K : Frag} : BinO K (rCatA K) dAddT := fun ω H cs u v x y z k ru rv e Q q => by
  obtain ⟨i, j, rfl, rfl, h, rfl⟩ := dAddT_of e
  cases ru with
  | @tup a xs _ h1 r1 =>
    cases rv with
    | @tup b ys _ h2 r2 =>
      refine ⟨_, _, _, _, rfl, rfl, (ex_t k.ex h1).sq, (ex_t k.ex h2).sq, by rw [r1.len, r2.len]; exact h, fun e1 => ?_, fun e1 e2 => ?_, fun e1 e2 => froze_use k q fun p hp => rep_tup k hp (r1.app r2)⟩
      · subst e1
        cases r1
        exact q ω H _ (Le.refl _) k (.tup h2 (by simpa using r2))
      · subst e2
        cases r2
        exact q ω H _ (Le.refl _) k (.tup h1 (by simpa using r1))
def dAdd : Dt → Dt → Option Dt := fun x y => (dI0 (fun i j => .int (i + j)) x y).or ((dAddS x y).or ((dAddL x y).or (dAddT x y)))
theorem ev_add (ha : EV X E a f) (hb : EV X E b g) : EV X E (.BinOp a .Add b pos) (eBin dAdd f g) :=
  ev_bin (OpR.or op_add (OpR.or op_add_str (OpR.or op_cat op_catA))) (BinO.or (bo_I0 fun _ _ _ _ => .int _) (BinO.or bo_addS (BinO.or bo_addL bo_addT))) ha hb
theorem ev_sub (ha : EV X E a f) (hb : EV X E b g) : EV X E (.BinOp a .Sub b pos) (eBin (dI0 fun i j => .int (i - j)) f g) := ev_bin op_sub (bo_I0 fun _ _ _ _ => .int _) ha hb
theorem ev_and (ha : EV X E a f) (hb : EV X E b g) : EV X E (.BinOp a .BitAnd b pos) (eBin (dI0 fun i j => .int (Builtin.bitAnd i j)) f g) := ev_bin op_and (bo_I0 fun _ _ _ _ => .int _) ha hb
theorem ev_xor (ha : EV X E a f) (hb : EV X E b g) : EV X E (.BinOp a .BitXor b pos) (eBin (dI0 fun i j => .int (Builtin.bitXor i j)) f g) := ev_bin op_xor (bo_I0 fun _ _ _ _ => .int _) ha hb
def cMod (_ j : Int) : Bool := decide (0 < j)
theorem ev_mod (ha : EV X E a f) (hb : EV X E b g) : EV X E (.BinOp a .Mod b pos) (eBin (dI cMod fun i j => .int (i % j)) f g) := ev_bin op_mod (bo_I (fun _ _ h => of_decide_eq_true h) fun _ _ _ _ => .int _) ha hb
def cDiv (_ j : Int) : Bool := decide (0 < j) && decide (j < 1073741824)
theorem ev_fdiv (ha : EV X E a f) (hb : EV X E b g) : EV X E (.BinOp a .FloorDiv b pos) (eBin (dI cDiv fun i j => .int (i / j)) f g) := ev_bin op_fdiv (bo_I (fun _ _ h => by
    unfold cDiv at h
    simp only [Bool.and_eq_true, decide_eq_true_eq] at h
    exact h) fun _ _ _ _ => .int _) ha hb
def cPow (i j : Int) : Bool := decide (0 ≤ j) && decide (j ≤ 1000000) && decide (i.natAbs < 18446744073709551616)
theorem cPow_of {i j : Int} (h : cPow i j = true) : CPow i j := by
  unfold cPow at h
  simp only [Bool.and_eq_true, decide_eq_true_eq] at h
  exact ⟨h.1.1, h.1.2, by have := h.2; show i.natAbs < 2 ^ 64; omega⟩
theorem ev_pow (ha : EV X E a f) (hb : EV X E b g) : EV X E (.BinOp a .Pow b pos) (eBin (dI cPow fun i j => .int (i ^ j.toNat)) f g) := ev_bin op_pow (bo_I (fun _ _ h => cPow_of h) fun _ _ _ _ => .int _) ha hb
theorem ev_shl (ha : EV X E a f) (hb : EV X E b g) : EV X E (.BinOp a .LShift b pos) (eBin (dI cPow fun i j => .int (i * 2 ^ j.toNat)) f g) := ev_bin op_shl (bo_I (fun _ _ h => cPow_of h) fun _ _ _ _ => .int _) ha hb
def cShr (_ j : Int) : Bool := decide (0 ≤ j)
theorem ev_shr (ha : EV X E a f) (hb : EV X E b g) : EV X E (.BinOp a .RShift b pos) (eBin (dI cShr fun i j => .int (i / 2 ^ j.toNat)) f g) := ev_bin op_shr (bo_I (fun _ _ h => of_decide_eq_true h) fun _ _ _ _ => .int _) ha hb
def dNeg : Dt → Option Dt
  | .int i => some (.int (-i))
  | _ => none
theorem ev_neg (ha : EV X E a f) : EV X E (.UnaryOp .USub a pos) (eUn dNeg f) := ev_un (o := dNeg) un_neg (fun ω H cs u x z k ru e Q q => by
  cases x with
  | int i =>
    cases ru
    cases e
    exact ⟨i, rfl, q ω H _ (Le.refl _) k (.int _)⟩
  | _ => cases e) ha
def cMul (i j : Int) : Bool := (decide (-18446744073709551616 < i) && decide (i < 18446744073709551616)) || (decide (-18446744073709551616 < j) && decide (j < 18446744073709551616))
theorem cMul_of {i j : Int} (h : cMul i j = true) : CMul i j := by
  unfold cMul at h
  simp only [Bool.and_eq_true, Bool.or_eq_true, decide_eq_true_eq] at h
  rcases h with h | h
  · exact .inl ⟨by show -(2 ^ 64) < i; omega, by show i < 2 ^ 64; omega⟩
  · exact .inr ⟨by show -(2 ^ 64) < j; omega, by show j < 2 ^ 64; omega⟩
def rMulS : R2 := fun x y H Q => ∃ (z : Str) (n : Int), x = .str z ∧ y = .int n ∧ 0 ≤ n ∧ n ≤ 16777216 ∧ z.length * n.toNat ≤ sizeLine ∧ Q (.str (Txt.mul z n)) H
theorem op_mulS : OpR X (binaryOp .Mult) rMulS := by
  intro pins s σ H x y v u Q I rx ry h
  obtain ⟨z, n, rfl, rfl, h1, h2, h3, q⟩ := h
  obtain ⟨t, rfl⟩ := rx
  obtain ⟨t', rfl⟩ := ry
  refine SB.mul ⟨?_, fun a b => ?_, fun a b => ?_⟩ fun t' k => ⟨.str (Txt.mul z n), H, I.tok _, ⟨_, rfl⟩, q⟩
  · rw [decide_eq_false (by omega), decide_eq_false (by omega)]
    rfl
  · have hn : 0 < n := by omega
    have hz : z.length * n.toNat ≤ 16777216 := by rw [sizeLine_eq] at h3; exact h3
    have e : (n.toNat : Int) = n := Int.toNat_of_nonneg h1
    have hz2 : (z.length : Int) * n ≤ 16777216 := by
      have h4 : ((z.length * n.toNat : Nat) : Int) ≤ ((16777216 : Nat) : Int) := Int.ofNat_le.mpr hz
      rw [Int.natCast_mul, e] at h4
      exact h4
    have := Int.le_ediv_of_mul_le hn (show (z.length : Int) * n ≤ 2 ^ 63 - 1 by omega)
    omega
  · exact decide_eq_false (Nat.not_lt.mpr h3)
def dMulS : Dt → Dt → Option Dt
  | .str z, .int n => if (decide (0 ≤ n) && decide (n ≤ 16777216) && szOk (z.length * n.toNat)) = true then some (.str (Txt.mul z n)) else none
  | _, _ => none
theorem bo_mulS {K : Frag} : BinO K rMulS dMulS := fun ω H cs u v x y z k ru rv e Q q => by
  unfold dMulS at e
  split at e
  · split at e
    · rename_i h
      simp only [Bool.and_eq_true, decide_eq_true_eq] at h
      cases ru; cases rv; cases e
      exact ⟨_, _, rfl, rfl, h.1.1, h.1.2, szOk_of h.2, q ω H _ (Le.refl _) k (.str _)⟩
    · cases e
  · cases e
def dMulL : Dt → Dt → Option Dt
  | .lst z, .int n => if (decide (0 ≤ n) && decide (n ≤ 16777216) && szOk (z.length * n.toNat)) = true then some (.lst (List.replicate n.toNat z).flatten) else none
  | _, _ => none
theorem RepL.rep {K : Frag} {H : Hp} {vs : List V} {ds : List Dt} (h : RepL K H vs ds) : ∀ n : Nat, RepL K H (List.replicate n vs).flatten (List.replicate n ds).flatten
  | 0 => .nil
  | n + 1 => by
    simp only [List.replicate_succ, List.flatten_cons]
    exact h.app (RepL.rep h n)
theorem bo_mulL {K : Frag} : BinO K rRep dMulL := fun ω H cs u v x y z k ru rv e Q q => by
  unfold dMulL at e
  split at e
  · split at e
    · rename_i h
      simp only [Bool.and_eq_true, decide_eq_true_eq] at h
      cases ru with
      | lst h1 r1 =>
        cases rv; cases e
        exact ⟨_, _, _, rfl, rfl, k.ex _ _ h1, by omega, by omega, by rw [r1.len]; exact szOk_of h.2, froze_use k q fun p hp => rep_lst k hp (r1.rep _)⟩
    · cases e
  · cases e
def dMulT : Dt → Dt → Option Dt
  | .tup z, .int n => if (decide (2 ≤ n) && decide (n ≤ 1000) && (decide (1 ≤ z.length) && decide (z.length ≤ 1000))) = true then some (.tup (List.replicate n.toNat z).flatten) else none
  | _, _ => none
theorem bo_mulT {K : Frag} : BinO K (rRepT K) dMulT := fun ω H cs u v x y z k ru rv e Q q => by
  unfold dMulT at e
  split at e
  · split at e
    · rename_i h
      simp only [Bool.and_eq_true, decide_eq_true_eq] at h
      cases ru with
      | tup h1 r1 =>
        cases rv; cases e
        refine ⟨_, _, _, rfl, rfl, (ex_t k.ex h1).sq, ?_, h.1.1, h.1.2, by rw [r1.len]; exact h.2.2, froze_use k q fun p hp => rep_tup k hp (r1.rep _)⟩
        intro e
        subst e
        have := r1.len
        simp at this
        omega
    · cases e
  · cases e
def dMul : Dt → Dt → Option Dt := fun x y => (dI cMul (fun i j => .int (i * j)) x y).or ((dMulS x y).or ((dMulL x y).or (dMulT x y)))
theorem ev_mul (ha : EV X E a f) (hb : EV X E b g) : EV X E (.BinOp a .Mult b pos) (eBin dMul f g) :=
  ev_bin (OpR.or op_mul (OpR.or op_mulS (OpR.or op_rep op_repT))) (BinO.or (bo_I (fun _ _ h => cMul_of h) fun _ _ _ _ => .int _) (BinO.or bo_mulS (BinO.or bo_mulL bo_mulT))) ha hb
theorem ev_cmp {op : CmpOp} {r : R2} {o : Dt → Dt → Option Dt} (ho : OpR X (compareOp op) r) (hr : BinO X.K r o) (ha : EV X E a f) (hb : EV X E b g) (hm : behindInMarks op b = false) : EV X E (.Compare a [op] [b] pos) (eBin o f g) :=
  PE.imp (pe_cmpR ho ha hb hm) fun _ _ _ h => op_use hr h
mutual
def py : Dt → Option PyData
  | .non => some .none
  | .bl b => some (.bool b)
  | .int i => some (.int i)
  | .str s => some (.str s)
  | .tup l => (pys l).map .tuple
  | .lst l => (pys l).map .list
  | .dic _ => none
  | .obj _ _ => none
  | .op _ => none
  | .scr _ => none
  | .exn _ _ => none
  | .dit _ => none
  | .lam _ _ => none
def pys : List Dt → Option (List PyData)
  | [] => some []
  | d :: l => match py d, pys l with
    | some p, some ps => some (p :: ps)
    | _, _ => none
end
mutual
theorem dp_of {K : Frag} {H : Hp} : ∀ (d : Dt) (v : V) (p : PyData), RepD K H v d → py d = some p → Dp K H v p
  | .non, _, _, h, e => by cases h; simp [py] at e; subst e; exact .non
  | .bl b, _, _, h, e => by cases h; simp [py] at e; subst e; exact .bl b
  | .int i, _, _, h, e => by cases h; simp [py] at e; subst e; exact .int i
  | .str s, _, _, h, e => by cases h; simp [py] at e; subst e; exact .str s
  | .tup l, _, _, h, e => by
    cases h with
    | tup h1 h2 =>
      simp [py] at e
      obtain ⟨ps, e1, rfl⟩ := e
      exact .tup h1.sq (dps_of l _ _ h2 e1)
  | .lst l, _, _, h, e => by
    cases h with
    | lst h1 h2 =>
      simp [py] at e
      obtain ⟨ps, e1, rfl⟩ := e
      exact .lst (SqL.of h1) (dps_of l _ _ h2 e1)
  | .dic _, _, _, _, e => by simp [py] at e
  | .obj _ _, _, _, _, e => by simp [py] at e
  | .op _, _, _, _, e => by simp [py] at e
  | .scr _, _, _, _, e => by simp [py] at e
  | .exn _ _, _, _, _, e => by simp [py] at e
  | .dit _, _, _, _, e => by simp [py] at e
  | .lam _ _, _, _, _, e => by simp [py] at e
theorem dps_of {K : Frag} {H : Hp} : ∀ (l : List Dt) (vs : List V) (ps : List PyData), RepL K H vs l → pys l = some ps → DpAll K H vs ps
  | [], _, _, h, e => by cases h; simp [pys] at e; subst e; exact .nil
  | d :: l, _, _, h, e => by
    cases h with
    | cons h1 h2 =>
      unfold pys at e
      split at e
      · rename_i p ps e1 e2
        cases e
        exact .cons (dp_of d _ _ h1 e1) (dps_of l _ _ h2 e2)
      · cases e
end
theorem RepD.up {K : Frag} {ω : Wo} {H : Hp} {cs : List Cell} {v : V} {d : Dt} (k : Ok K ω H cs) (h : RepD K ω.Hs v d) : RepD K H v d := h.mono k.ex
theorem bo_B0 {K : Frag} {p : Int → Int → Bool} : BinO K (rI0 fun i j => .bl (p i j)) (dI0 fun i j => .bl (p i j)) := bo_I0 fun _ _ _ _ => .bl _
theorem ev_lt (ha : EV X E a f) (hb : EV X E b g) : EV X E (.Compare a [.Lt] [b] pos) (eBin (dI0 fun i j => .bl (decide (i < j))) f g) := ev_cmp op_lt bo_B0 ha hb (nomark _)
/-- x in a list, a tuple -/
def rInQ (K : Frag) (neg : Bool) : R2 := fun x y H Q => ∃ d ds, Dp K H x d ∧ (Dp K H y (.list ds) ∨ Dp K H y (.tuple ds)) ∧ SeqAt.shaped d = true ∧ SeqAt.shaped (.list ds) = true ∧ Q (.bl (if neg then !ds.any fun z => PyData.eqv z d else ds.any fun z => PyData.eqv z d)) H
theorem shaped_tl {ds : List PyData} (h : SeqAt.shaped (.list ds) = true) : SeqAt.shaped (.tuple ds) = true := by
  unfold SeqAt.shaped at h ⊢
  simpa [PyData.canLay0, PyData.depth] using h
theorem op_inQ (hu : X.A.units + 65 < cLine) : OpR X (compareOp .In) (rInQ X.K false) := by
  intro pins s σ H x y v u Q I rx ry h
  obtain ⟨d, ds, hd, he, sd, se, q⟩ := h
  obtain ⟨as, r1⟩ := Dp.reads I d x v hd rx
  rcases he with he | he
  · obtain ⟨bs, r2⟩ := Dp.reads I (.list ds) y u he ry
    exact SeqAt.in_list_reads r2 r1 (SeqAt.canLay_of_shaped se) (SeqAt.canLay_of_shaped sd) (PyProof.Rows.room_in_shaped sd hu) ⟨.bl _, H, I, rfl, q⟩
  · obtain ⟨bs, r2⟩ := Dp.reads I (.tuple ds) y u he ry
    exact SeqAt.in_tuple_reads r2 r1 (SeqAt.canLay_of_shaped (shaped_tl se)) (SeqAt.canLay_of_shaped sd) (PyProof.Rows.room_in_shaped sd hu) ⟨.bl _, H, I, rfl, q⟩
theorem op_notInQ (hu : X.A.units + 65 < cLine) : OpR X (compareOp .NotIn) (rInQ X.K true) := by
  intro pins s σ H x y v u Q I rx ry h
  obtain ⟨d, ds, hd, he, sd, se, q⟩ := h
  obtain ⟨as, r1⟩ := Dp.reads I d x v hd rx
  rcases he with he | he
  · obtain ⟨bs, r2⟩ := Dp.reads I (.list ds) y u he ry
    exact SeqAt.notIn_list_reads r2 r1 (SeqAt.canLay_of_shaped se) (SeqAt.canLay_of_shaped sd) (PyProof.Rows.room_in_shaped sd hu) ⟨.bl _, H, I, rfl, q⟩
  · obtain ⟨bs, r2⟩ := Dp.reads I (.tuple ds) y u he ry
    exact SeqAt.notIn_tuple_reads r2 r1 (SeqAt.canLay_of_shaped (shaped_tl se)) (SeqAt.canLay_of_shaped sd) (PyProof.Rows.room_in_shaped sd hu) ⟨.bl _, H, I, rfl, q⟩
def seqOf : Dt → Option (List Dt)
  | .tup l => some l
  | .lst l => some l
  | _ => none
def dInB (x y : Dt) : Option Bool := match py x, (seqOf y).bind pys with
  | some p, some qs => if (SeqAt.shaped p && SeqAt.shaped (.list qs)) = true then some (qs.any fun z => PyData.eqv z p) else none
  | _, _ => none
theorem dInB_of {x y : Dt} {b : Bool} (h : dInB x y = some b) : ∃ p l qs, py x = some p ∧ (y = .tup l ∨ y = .lst l) ∧ pys l = some qs ∧ SeqAt.shaped p = true ∧ SeqAt.shaped (.list qs) = true ∧ b = qs.any fun z => PyData.eqv z p := by
  unfold dInB at h
  split at h
  · split at h
    · rename_i p qs e1 e2 hh
      simp only [Bool.and_eq_true] at hh
      cases e3 : seqOf y with
      | none => rw [e3] at e2; cases e2
      | some l =>
        rw [e3] at e2
        refine ⟨p, l, qs, e1, ?_, e2, hh.1, hh.2, (Option.some.inj h).symm⟩
        cases y with
        | tup m => simp [seqOf] at e3; subst e3; exact .inl rfl
        | lst m => simp [seqOf] at e3; subst e3; exact .inr rfl
        | _ => cases e3
    · cases h
  · cases h
theorem dp_seq {K : Frag} {H : Hp} {v : V} {y : Dt} {l : List Dt} {qs : List PyData} (h : RepD K H v y) (e : y = .tup l ∨ y = .lst l) (e2 : pys l = some qs) : Dp K H v (.list qs) ∨ Dp K H v (.tuple qs) := by
  rcases e with rfl | rfl
  · exact .inr (dp_of _ v _ h (by simp [py, e2]))
  · exact .inl (dp_of _ v _ h (by simp [py, e2]))
/-- one text within another -/
def dInS : Dt → Dt → Option Bool
  | .str i, .str j => some (!(Builtin.Str.occurrences j i 0 j.length 1).isEmpty)
  | _, _ => none
def dIn (x y : Dt) : Option Dt := ((dInB x y).map .bl).or ((dInS x y).map .bl)
def dNotIn (x y : Dt) : Option Dt := ((dInB x y).map fun b => .bl (!b)).or ((dInS x y).map fun b => .bl (!b))
theorem bo_in {K : Frag} {neg : Bool} : BinO K (rInQ K neg) (fun x y => (dInB x y).map fun b => .bl (if neg then !b else b)) := fun ω H cs u v x y z k ru rv e Q q => by
  have e : (dInB x y).map (fun b => Dt.bl (if neg then !b else b)) = some z := e
  cases h : dInB x y with
  | none => rw [h] at e; cases e
  | some b =>
    rw [h] at e
    cases e
    obtain ⟨p, l, qs, e1, e2, e3, h1, h2, rfl⟩ := dInB_of h
    exact ⟨p, qs, dp_of x u p (ru.up k) e1, dp_seq (rv.up k) e2 e3, h1, h2, q ω H _ (Le.refl _) k (by cases neg <;> exact .bl _)⟩
theorem bo_inS {K : Frag} {g : Bool → Bool} : BinO K (fun x y H Q => ∃ i j, x = V.str i ∧ y = V.str j ∧ Q (.bl (g (!(Builtin.Str.occurrences j i 0 j.length 1).isEmpty))) H) (fun x y => (dInS x y).map fun b => .bl (g b)) := fun ω H cs u v x y z k ru rv e Q q => by
  have e : (dInS x y).map (fun b => Dt.bl (g b)) = some z := e
  unfold dInS at e
  split at e
  · cases ru; cases rv; cases e
    exact ⟨_, _, rfl, rfl, q ω H _ (Le.refl _) k (.bl _)⟩
  · cases e
theorem ev_in (hu : X.A.units + 65 < cLine) (ha : EV X E a f) (hb : EV X E b g) (hm : behindInMarks .In b = false := by rfl) : EV X E (.Compare a [.In] [b] pos) (eBin dIn f g) :=
  ev_cmp (OpR.or (op_inQ hu) op_in_str) (BinO.or (bo_in (neg := false)) (bo_inS (g := id))) ha hb hm
/-- is None, is True, is False -/
def isNonD : Dt → Option Bool
  | .non => some true
  | .op _ => none
  | _ => some false
theorem isNonD_of {K : Frag} {H : Hp} {d : Dt} {v : V} {b : Bool} (r : RepD K H v d) (h : isNonD d = some b) : decide (v = .non) = b := by
  cases r <;> simp [isNonD] at h <;> subst h <;> simp
def dIsN (x y : Dt) : Option Dt := match y with
  | .non => (isNonD x).map .bl
  | _ => none
def dNotNn (x y : Dt) : Option Dt := match y with
  | .non => (isNonD x).map fun b => .bl (!b)
  | _ => none
theorem bo_isN {K : Frag} : BinO K (fun x y H Q => y = V.non ∧ Q (.bl (decide (x = .non))) H) dIsN := fun ω H cs u v x y z k ru rv e Q q => by
  unfold dIsN at e
  split at e
  · cases rv
    cases h : isNonD x with
    | none => rw [h] at e; cases e
    | some b =>
      rw [h] at e
      cases e
      exact ⟨rfl, q ω H _ (Le.refl _) k (by rw [isNonD_of ru h]; exact .bl _)⟩
  · cases e
theorem bo_notN {K : Frag} : BinO K (fun x y H Q => y = V.non ∧ Q (.bl (!decide (x = .non))) H) dNotNn := fun ω H cs u v x y z k ru rv e Q q => by
  unfold dNotNn at e
  split at e
  · cases rv
    cases h : isNonD x with
    | none => rw [h] at e; cases e
    | some b =>
      rw [h] at e
      cases e
      exact ⟨rfl, q ω H _ (Le.refl _) k (by rw [isNonD_of ru h]; exact .bl _)⟩
  · cases e
def dIsB (x y : Dt) : Option Dt := match x, y with
  | .bl a, .bl b => some (.bl (decide (a = b)))
  | _, _ => none
theorem bo_isB {K : Frag} : BinO K (fun x y H Q => ∃ a b, x = V.bl a ∧ y = V.bl b ∧ Q (.bl (decide (a = b))) H) dIsB := fun ω H cs u v x y z k ru rv e Q q => by
  unfold dIsB at e
  split at e
  · cases ru; cases rv; cases e
    exact ⟨_, _, rfl, rfl, q ω H _ (Le.refl _) k (.bl _)⟩
  · cases e
def dIs (x y : Dt) : Option Dt := (dIsN x y).or (dIsB x y)
theorem ev_is (ha : EV X E a f) (hb : EV X E b g) : EV X E (.Compare a [.Is] [b] pos) (eBin dIs f g) := ev_cmp (OpR.or op_isN op_is_bl) (BinO.or bo_isN bo_isB) ha hb (nomark _)
def dNotB (x y : Dt) : Option Dt := match x, y with
  | .bl a, .bl b => some (.bl (!decide (a = b)))
  | _, _ => none
theorem bo_notB {K : Frag} : BinO K (fun x y H Q => ∃ a b, x = V.bl a ∧ y = V.bl b ∧ Q (.bl (!decide (a = b))) H) dNotB := fun ω H cs u v x y z k ru rv e Q q => by
  unfold dNotB at e
  split at e
  · cases ru; cases rv; cases e
    exact ⟨_, _, rfl, rfl, q ω H _ (Le.refl _) k (.bl _)⟩
  · cases e
def dNotN (x y : Dt) : Option Dt := (dNotNn x y).or (dNotB x y)
end
end DX
namespace DX
variable [TabT]
open PySem L2
section
variable {X : Cx} {E : XK} {a b c : Expr} {rest : List Expr} {pos : Pos} {f g h : Ev} {p q : EvT}
theorem PE.orr {e : Expr} {t u : TE} (h : PE X e t) (g : PE X e u) : PE X e (fun σ H Q => t σ H Q ∨ u σ H Q) := ⟨fun pins s σ H Q I z => z.elim (h.run pins s σ H Q I) (g.run pins s σ H Q I)⟩
def dTruS (s : Str) : Option Bool := if szOk s.length = true then some ((s.length : Int) != 0) else none
def dTru : Dt → Option Bool
  | .non => some false
  | .bl b => some b
  | .int i => some (i != 0)
  | .str s => dTruS s
  | .tup l => some !l.isEmpty
  | .lst l => some !l.isEmpty
  | .dic l => some !l.isEmpty
  | _ => none
def cTru : Option Cell → Option Bool
  | some (.lst l) => some !l.isEmpty
  | some (.dic l) => some !l.isEmpty
  | _ => none
def wTru : Wv → List Cell → Option Bool
  | .dat d, _ => dTru d
  | .cel k, cs => cTru cs[k]?
def mTru (w : Wv) : M Bool := fun cs => M.opt (wTru w cs) cs
theorem RepL.emp {K : Frag} {H : Hp} {vs : List V} {ds : List Dt} (r : RepL K H vs ds) : vs.isEmpty = ds.isEmpty := by cases r <;> rfl
theorem RepK.emp {K : Frag} {H : Hp} {vs : List (Key × V)} {ds : List (Key × Dt)} (r : RepK K H vs ds) : vs.isEmpty = ds.isEmpty := by cases r <;> rfl
theorem RepWs.emp {K : Frag} {ω : Wo} {vs : List V} {ds : List Wv} (r : RepWs K ω vs ds) : vs.isEmpty = ds.isEmpty := by cases r <;> rfl
theorem RepWk.emp {K : Frag} {ω : Wo} {vs : List (Key × V)} {ds : List (Key × Wv)} (r : RepWk K ω vs ds) : vs.isEmpty = ds.isEmpty := by cases r <;> rfl
theorem Ok.cell {K : Frag} {ω : Wo} {H : Hp} {cs : List Cell} (k : Ok K ω H cs) {i : Nat} {a : Addr} {c : Cell} (h : ω.ad[i]? = some a) (e : cs[i]? = some c) : CellAt K ω H a c := k.cel i a c h e
theorem tru_of {K : Frag} {ω : Wo} {H : Hp} {cs : List Cell} {v : V} {w : Wv} {b : Bool} (k : Ok K ω H cs) (r : RepW K ω v w) (e : wTru w cs = some b) : TruV K v H b := by
  cases w with
  | dat d =>
    have r : RepD K ω.Hs v d := r
    have e : dTru d = some b := e
    cases r with
    | non => cases e; rfl
    | bl c => cases e; rfl
    | int i => cases e; rfl
    | str s =>
      have e : dTruS s = some b := e
      unfold dTruS at e
      split at e
      · cases e; exact ⟨szOk_of (by assumption), rfl⟩
      · cases e
    | tup h1 h2 => cases e; exact .inr (.inl ⟨_, (ex_t k.ex h1).sq, by rw [h2.emp]⟩)
    | lst h1 h2 => cases e; exact .inl ⟨_, SqL.of (k.ex _ _ h1), by rw [h2.emp]⟩
    | dic h1 h2 => cases e; exact .inr (.inr ⟨_, k.ex _ _ h1, by rw [h2.emp]⟩)
    | obj h1 hc h2 => cases e
    | op v => cases e
    | scr h1 => cases e
    | exn h1 => cases e
    | dit h1 => cases e
    | lam h1 h2 => cases e
  | cel i =>
    obtain ⟨a, e1, rfl⟩ := r
    have e : cTru cs[i]? = some b := e
    cases hc : cs[i]? with
    | none => rw [hc] at e; cases e
    | some c =>
      rw [hc] at e
      have q := k.cell e1 hc
      cases c with
      | lst l => obtain ⟨_, vs, h1, h2⟩ := q; cases e; exact .inl ⟨_, SqL.of h1, by rw [h2.emp]⟩
      | dic l => obtain ⟨_, vs, h1, h2⟩ := q; cases e; exact .inr (.inr ⟨_, h1, by rw [h2.emp]⟩)
      | ins C l => cases e
      | dead => cases e
      | lck l => cases e
      | dit b l => cases e
theorem Out.tru {K : Frag} {mg : MG} {ω : Wo} {w : Wv} {cs : List Cell} {F : Bool → Wo → List Cell → Hp → Prop} (h : Out K mg E ω (mTru w cs) F) : ∃ b, wTru w cs = some b ∧ Out K mg E ω (.ok b cs) F := Out.opt h
theorem Out.tru2 {K : Frag} {mg : MG} {α : Type} {ω : Wo} {w : Wv} {k : Bool → M α} {cs : List Cell} {F : α → Wo → List Cell → Hp → Prop} (h : Out K mg E ω (M.bind (mTru w) k cs) F) : ∃ b, wTru w cs = some b ∧ Out K mg E ω (k b cs) F := by
  unfold M.bind mTru at h
  cases e : wTru w cs with
  | none => rw [e] at h; exact (show False from h).elim
  | some b =>
    rw [e] at h
    exact ⟨b, rfl, h⟩
def tTru (f : Ev) : EvT := fun env => M.bind (f env) mTru
theorem et_tru (ha : EV X E a f) (he : ∀ whole, isTrue a X.env whole = (do let v ← whole; standAt a.pos; holding [v] (truthy v)) := by intro _; rfl) : EVT X E a (tTru f) :=
  PT.imp (pt_truth ha he) fun σ H Q ⟨env, cs, ω, hs, hk, h⟩ => ⟨env, cs, ω, hs, hk, h.bind.imp fun x ω1 cs1 H1 l1 k1 h1 v rv => by
    obtain ⟨b, e, h2⟩ := h1.tru
    exact ⟨b, tru_of k1 rv e, h2.now k1⟩⟩
/-- a comparison as a test -/
def asB : Wv → M Bool
  | .dat (.bl b) => M.ret b
  | _ => M.bad
def tCmpE (f : Ev) : EvT := fun env => M.bind (f env) asB
theorem Out.asB {K : Frag} {mg : MG} {ω : Wo} {w : Wv} {cs : List Cell} {F : Bool → Wo → List Cell → Hp → Prop} (h : Out K mg E ω (asB w cs) F) : ∃ b, w = .dat (.bl b) ∧ Out K mg E ω (.ok b cs) F := by
  cases w with
  | cel k => exact (show False from h).elim
  | dat d =>
    cases d with
    | bl b => exact ⟨b, rfl, h⟩
    | _ => exact (show False from h).elim
theorem tEv_test {t : TE} (i : ∀ σ H (Q : VK), tEv X.K X.mg E f σ H Q → t σ H Q) {σ : L2.St} {H : Hp} {Q : Bool → Hp → Prop} (h : tEvT X.K X.mg E (tCmpE f) σ H Q) : tTest t σ H Q := by
  obtain ⟨env, cs, ω, hs, hk, h⟩ := h
  refine i σ H _ ⟨env, cs, ω, hs, hk, h.bind.imp fun x ω1 cs1 H1 l1 k1 h1 v rv => ?_⟩
  obtain ⟨b, rfl, h2⟩ := h1.asB
  cases (show RepD X.K ω1.Hs v (.bl b) from rv)
  exact ⟨b, rfl, h2.now k1⟩
theorem et_cmp {op : CmpOp} {r : R2} {o : Dt → Dt → Option Dt} (ho : OpR X (compareOp op) r) (hr : BinO X.K r o) (ha : EV X E a f) (hb : EV X E b g) (hm : behindInMarks op b = false) : EVT X E (.Compare a [op] [b] pos) (tCmpE (eBin o f g)) :=
  PT.imp (pt_cmpR ho ha hb hm) fun _ _ _ h => tEv_test (fun _ _ _ h => op_use hr h) h
theorem et_gt (ha : EV X E a f) (hb : EV X E b g) : EVT X E (.Compare a [.Gt] [b] pos) (tCmpE (eBin (dI0 fun i j => .bl (decide (j < i))) f g)) := et_cmp op_gt bo_B0 ha hb (nomark _)
theorem et_ge (ha : EV X E a f) (hb : EV X E b g) : EVT X E (.Compare a [.GtE] [b] pos) (tCmpE (eBin (dI0 fun i j => .bl (decide (j ≤ i))) f g)) := et_cmp op_ge bo_B0 ha hb (nomark _)
theorem et_in (hu : X.A.units + 65 < cLine) (ha : EV X E a f) (hb : EV X E b g) (hm : behindInMarks .In b = false := by rfl) : EVT X E (.Compare a [.In] [b] pos) (tCmpE (eBin dIn f g)) :=
  et_cmp (OpR.or (op_inQ hu) op_in_str) (BinO.or (bo_in (neg := false)) (bo_inS (g := id))) ha hb hm
theorem et_notIn (hu : X.A.units + 65 < cLine) (ha : EV X E a f) (hb : EV X E b g) (hm : behindInMarks .NotIn b = false := by rfl) : EVT X E (.Compare a [.NotIn] [b] pos) (tCmpE (eBin dNotIn f g)) :=
  et_cmp (OpR.or (op_notInQ hu) op_notin_str) (BinO.or (bo_in (neg := true)) (bo_inS (g := not))) ha hb hm
theorem et_is (ha : EV X E a f) (hb : EV X E b g) : EVT X E (.Compare a [.Is] [b] pos) (tCmpE (eBin dIs f g)) := et_cmp (OpR.or op_isN op_is_bl) (BinO.or bo_isN bo_isB) ha hb (nomark _)
theorem et_isNot (ha : EV X E a f) (hb : EV X E b g) : EVT X E (.Compare a [.IsNot] [b] pos) (tCmpE (eBin dNotN f g)) := et_cmp (OpR.or op_notN op_isnot_bl) (BinO.or bo_notN bo_notB) ha hb (nomark _)
def eChain (o o' : Dt → Dt → Option Dt) (f g h : Ev) : Ev := fun env => M.bind (f env) fun x => M.bind (g env) fun y => M.bind (liftB o x y) fun z => M.bind (asB z) fun k => if k = true then M.bind (h env) fun w => liftB o' y w else M.ret (.dat (.bl false))
theorem Out.asB2 {K : Frag} {mg : MG} {α : Type} {ω : Wo} {w : Wv} {k : Bool → M α} {cs : List Cell} {F : α → Wo → List Cell → Hp → Prop} (h : Out K mg E ω (M.bind (DX.asB w) k cs) F) : ∃ b, w = .dat (.bl b) ∧ Out K mg E ω (k b cs) F := by
  cases w with
  | cel k => exact (show False from h).elim
  | dat d =>
    cases d with
    | bl b => exact ⟨b, rfl, h⟩
    | _ => exact (show False from h).elim
theorem Out.liftB {K : Frag} {mg : MG} {ω : Wo} {x y : Wv} {o : Dt → Dt → Option Dt} {cs : List Cell} {F : Wv → Wo → List Cell → Hp → Prop} (h : Out K mg E ω (liftB o x y cs) F) : ∃ d e z, x = .dat d ∧ y = .dat e ∧ o d e = some z ∧ Out K mg E ω (.ok (.dat z) cs) F := by
  cases x with
  | cel k => exact (show False from h).elim
  | dat x =>
    cases y with
    | cel k => exact (show False from h).elim
    | dat y =>
      obtain ⟨z, e, h3⟩ := Out.map_some h
      exact ⟨x, y, z, rfl, rfl, e, h3⟩
theorem chain_use {r r' : R2} {o o' : Dt → Dt → Option Dt} (hr : BinO X.K r o) (hr' : BinO X.K r' o') {σ : L2.St} {H : Hp} {Q : VK} (hh : tEv X.K X.mg E (eChain o o' f g h) σ H Q) : tChain r r' (tEv X.K X.mg E f) (tEv X.K X.mg E g) (tEv X.K X.mg E h) σ H Q := by
  obtain ⟨env, cs, ω, hs, hk, hh⟩ := hh
  refine ⟨env, cs, ω, hs, hk, hh.bind.imp fun x ω1 cs1 H1 l1 k1 h1 u ru => ⟨env, cs1, ω1, hs.mono l1, k1, h1.bind.imp fun y ω2 cs2 H2 l2 k2 h2 v rv => ?_⟩⟩
  obtain ⟨d, e, z, rfl, rfl, ez, h3⟩ := Out.liftB h2.bind
  refine hr ω2 H2 cs2 u v d e z k2 (ru.mono l2 : RepW _ _ _ _) rv ez _ fun ω3 H3 v3 l3 k3 r3 => ?_
  obtain ⟨b, eb, h4⟩ := (h3 ω3 H3 l3 k3).asB2
  cases eb
  cases r3
  refine ⟨b, rfl, ?_⟩
  cases b with
  | false => exact (h4.now k3) _ (.bl false)
  | true =>
    refine ⟨env, cs2, ω3, (hs.mono (l1.trans (l2.trans l3))), k3, h4.bind.imp fun w ω4 cs4 H4 l4 k4 h5 t rt => ?_⟩
    obtain ⟨d', e', z', e1, rfl, ez', h6⟩ := Out.liftB h5
    cases e1
    exact hr' ω4 H4 cs4 v t e e' z' k4 (rv.mono (l3.trans l4) : RepW _ _ _ (.dat e)) rt ez' Q fun ω5 H5 v5 l5 k5 r5 => h6 ω5 H5 l5 k5 v5 r5
theorem ev_chain {op op' : CmpOp} {r r' : R2} {o o' : Dt → Dt → Option Dt} (ho : OpR X (compareOp op) r) (hr : BinO X.K r o) (ho' : OpR X (compareOp op') r') (hr' : BinO X.K r' o') (ha : EV X E a f) (hb : EV X E b g) (hc : EV X E c h)
    (hm : lastMarks [op, op'] [b, c] = false := by with_unfolding_all rfl) : EV X E (.Compare a [op, op'] [b, c] pos) (eChain o o' f g h) := PE.imp (pe_chain ho ho' ha hb hc hm) fun _ _ _ z => chain_use hr hr' z
def EVW (X : Cx) (E : XK) (e : Expr) (f : EvT) : Prop := PW X e (tEvT X.K X.mg E f)
theorem PW.imp {e : Expr} {t u : TT} (h : PW X e t) (i : ∀ σ H Q, u σ H Q → t σ H Q) : PW X e u := ⟨fun wh pins s σ H Q I z => h.run wh pins s σ H Q I (i σ H Q z)⟩
theorem et_w {e : Expr} (h : EVW X E e p) : EVT X E e p := h.pt
def tAnd' (p q : EvT) : EvT := fun env => M.bind (p env) fun k => if k = true then q env else M.ret false
def tOr' (p q : EvT) : EvT := fun env => M.bind (p env) fun k => if k = true then M.ret true else q env
def tNot' (p : EvT) : EvT := fun env => M.bind (p env) fun k => M.ret (!k)
theorem ew_and1 (ha : EVT X E a p) : EVW X E (.BoolOp .And [a] pos) p := pw_and1 ha
theorem ew_or1 (ha : EVT X E a p) : EVW X E (.BoolOp .Or [a] pos) p := pw_or1 ha
theorem ew_and (ha : EVT X E a p) (hb : EVW X E (.BoolOp .And (b :: rest) pos) q) : EVW X E (.BoolOp .And (a :: b :: rest) pos) (tAnd' p q) :=
  PW.imp (pw_and ha hb) fun σ H Q ⟨env, cs, ω, hs, hk, h⟩ => ⟨env, cs, ω, hs, hk, h.bind.imp fun k ω1 cs1 H1 l1 k1 h1 => by
    cases k with
    | true => exact ⟨env, cs1, ω1, hs.mono l1, k1, h1⟩
    | false => exact h1.now k1⟩
theorem ew_or (ha : EVT X E a p) (hb : EVW X E (.BoolOp .Or (b :: rest) pos) q) : EVW X E (.BoolOp .Or (a :: b :: rest) pos) (tOr' p q) :=
  PW.imp (pw_or ha hb) fun σ H Q ⟨env, cs, ω, hs, hk, h⟩ => ⟨env, cs, ω, hs, hk, h.bind.imp fun k ω1 cs1 H1 l1 k1 h1 => by
    cases k with
    | true => exact h1.now k1
    | false => exact ⟨env, cs1, ω1, hs.mono l1, k1, h1⟩⟩
theorem et_not (ha : EVT X E a p) : EVT X E (.UnaryOp .Not a pos) (tNot' p) :=
  PT.imp (pt_not ha) fun σ H Q ⟨env, cs, ω, hs, hk, h⟩ => ⟨env, cs, ω, hs, hk, h.bind.imp fun k ω1 cs1 H1 l1 k1 h1 => h1.now k1⟩
def eAnd (f g : Ev) : Ev := fun env => M.bind (f env) fun x => M.bind (mTru x) fun k => if k = true then g env else M.ret x
def eOr (f g : Ev) : Ev := fun env => M.bind (f env) fun x => M.bind (mTru x) fun k => if k = true then M.ret x else g env
def eNot (f : Ev) : Ev := fun env => M.bind (f env) fun x => M.bind (mTru x) fun k => M.ret (.dat (.bl (!k)))
theorem ev_one {op} (ha : EV X E a f) : EV X E (.BoolOp op [a] pos) f := pe_one ha
theorem ev_andB (ha : EV X E a f) (hb : EV X E (.BoolOp .And (b :: rest) pos) g) : EV X E (.BoolOp .And (a :: b :: rest) pos) (eAnd f g) :=
  PE.imp (pe_andT ha hb) fun σ H Q ⟨env, cs, ω, hs, hk, h⟩ => ⟨env, cs, ω, hs, hk, h.bind.imp fun x ω1 cs1 H1 l1 k1 h1 v rv => by
    obtain ⟨k, e, h2⟩ := h1.tru2
    refine ⟨k, tru_of k1 rv e, ?_⟩
    cases k with
    | true => exact ⟨env, cs1, ω1, hs.mono l1, k1, h2⟩
    | false => exact h2.now k1 v rv⟩
theorem ev_not (ha : EV X E a f) : EV X E (.UnaryOp .Not a pos) (eNot f) :=
  PE.imp (pe_notT ha) fun σ H Q ⟨env, cs, ω, hs, hk, h⟩ => ⟨env, cs, ω, hs, hk, h.bind.imp fun x ω1 cs1 H1 l1 k1 h1 v rv => by
    obtain ⟨k, e, h2⟩ := h1.tru2
    exact ⟨k, tru_of k1 rv e, h2.now k1 _ (RepD.bl _)⟩⟩
def eIf (p : EvT) (f g : Ev) : Ev := fun env => M.bind (p env) fun k => if k = true then f env else g env
theorem ev_if (hc : EVT X E c p) (ha : EV X E a f) (hb : EV X E b g) : EV X E (.IfExp c a b pos) (eIf p f g) :=
  PE.imp (pe_ifExp hc ha hb) fun σ H Q ⟨env, cs, ω, hs, hk, h⟩ => ⟨env, cs, ω, hs, hk, h.bind.imp fun k ω1 cs1 H1 l1 k1 h1 => by
    cases k with
    | true => exact ⟨env, cs1, ω1, hs.mono l1, k1, h1⟩
    | false => exact ⟨env, cs1, ω1, hs.mono l1, k1, h1⟩⟩
def aNil : EvA := fun _ => M.ret []
def aCons (f : Ev) (g : EvA) : EvA := fun env => M.bind (f env) fun x => M.bind (g env) fun xs => M.ret (x :: xs)
theorem ea_nil : EVA X E [] aNil := PA.imp pa_nil fun σ H Q ⟨env, cs, ω, hs, hk, h⟩ => h.now hk [] .nil
theorem ea_cons {es : List Expr} {g : EvA} (ha : EV X E a f) (hr : EVA X E es g) (hs : starEach (a :: es) X.env = (false, eval a X.env) :: starEach es X.env := by rfl) : EVA X E (a :: es) (aCons f g) :=
  PA.imp (pa_cons ha hr hs) fun σ H Q ⟨env, cs, ω, hs, hk, h⟩ => ⟨env, cs, ω, hs, hk, h.bind.imp fun x ω1 cs1 H1 l1 k1 h1 v rv => ⟨env, cs1, ω1, hs.mono l1, k1, h1.bind.imp fun xs ω2 cs2 H2 l2 k2 h2 vs rvs =>
    h2.now k2 _ (.cons (rv.mono l2) rvs)⟩⟩
def mDats (ws : List Wv) : M (List Dt) := M.opt (dats ws)
def mLen {α : Type} (l : List α) (m : M Wv) : M Wv := if szOk l.length = true then m else M.bad
def eTup (g : EvA) : Ev := fun env => M.bind (g env) fun ws => M.bind (mDats ws) fun ds => mLen ds (M.ret (.dat (.tup ds)))
def eLst (g : EvA) : Ev := fun env => M.bind (g env) fun ws => M.bind (mDats ws) fun ds => mLen ds (M.ret (.dat (.lst ds)))
theorem Out.mDats {K : Frag} {mg : MG} {α : Type} {ω : Wo} {ws : List Wv} {k : List Dt → M α} {cs : List Cell} {F : α → Wo → List Cell → Hp → Prop} (h : Out K mg E ω (M.bind (mDats ws) k cs) F) : ∃ ds, dats ws = some ds ∧ Out K mg E ω (k ds cs) F := by
  unfold M.bind DX.mDats at h
  cases e : dats ws with
  | none => rw [e] at h; exact (show False from h).elim
  | some ds => rw [e] at h; exact ⟨ds, rfl, h⟩
theorem Out.mLen {K : Frag} {mg : MG} {α : Type} {ω : Wo} {l : List α} {m : M Wv} {cs : List Cell} {F : Wv → Wo → List Cell → Hp → Prop} (h : Out K mg E ω (mLen l m cs) F) : l.length ≤ sizeLine ∧ Out K mg E ω (m cs) F := by
  unfold DX.mLen at h
  split at h
  · exact ⟨szOk_of (by assumption), h⟩
  · exact (show False from h).elim
theorem ev_tup {es : List Expr} {g : EvA} {x1} (h : EVA X E es g) : EV X E (.Tuple es x1 pos) (eTup g) :=
  PE.imp (pe_tup h) fun σ H Q ⟨env, cs, ω, hs, hk, h⟩ => ⟨env, cs, ω, hs, hk, h.bind.imp fun ws ω1 cs1 H1 l1 k1 h1 vs rv => by
    obtain ⟨ds, e, h2⟩ := h1.mDats
    obtain ⟨hl, h3⟩ := h2.mLen
    have rl := rv.dats e
    exact ⟨by rw [rl.len]; exact hl, froze_use k1 (fun ω' H' v' l k r => h3 ω' H' l k v' r) fun p hp => rep_tup k1 hp rl⟩⟩
theorem ev_lst {es : List Expr} {g : EvA} (h : EVA X E es g) : EV X E (.List es pos) (eLst g) :=
  PE.imp (pe_lst h) fun σ H Q ⟨env, cs, ω, hs, hk, h⟩ => ⟨env, cs, ω, hs, hk, h.bind.imp fun ws ω1 cs1 H1 l1 k1 h1 vs rv => by
    obtain ⟨ds, e, h2⟩ := h1.mDats
    obtain ⟨hl, h3⟩ := h2.mLen
    have rl := rv.dats e
    exact ⟨by rw [rl.len]; exact hl, froze_use k1 (fun ω' H' v' l k r => h3 ω' H' l k v' r) fun p hp => rep_lst k1 hp rl⟩⟩
/-- a list display, the list new -/
def fLst (g : EvA) : EvF := fun env => M.bind (g env) fun ws => if szOk ws.length = true then M.ret ws else M.bad
theorem ef_lst {es : List Expr} {g : EvA} (h : EVA X E es g) : EVF X E (.List es pos) (fLst g) :=
  PE.imp (pe_lst h) fun σ H Q ⟨env, cs, ω, hs, hk, h⟩ => ⟨env, cs, ω, hs, hk, h.bind.imp fun ws ω1 cs1 H1 l1 k1 h1 vs rv => by
    split at h1
    · exact ⟨by rw [rv.len]; exact szOk_of (by assumption), fun p hp => h1.now k1 p vs hp rv⟩
    · exact (show False from h1).elim⟩
def keyOf : Dt → Option Key
  | .int i => some (.inl i)
  | .str s => some (.inr s)
  | _ => none
theorem keyOf_rep {K : Frag} {H : Hp} {d : Dt} {v : V} {k : Key} (r : RepD K H v d) (e : keyOf d = some k) : v = kV k := by
  cases r <;> simp [keyOf] at e <;> subst e <;> rfl
def keyTs : List Dt → Option (List Key)
  | [] => some []
  | d :: ds => match keyOf d, keyTs ds with
    | some k, some ks => some (k :: ks)
    | _, _ => none
def keyT : Dt → Option (List Key)
  | .tup ds => keyTs ds
  | _ => none
theorem keyTs_rep {K : Frag} {H : Hp} : ∀ {ds : List Dt} {vs : List V} {ks : List Key}, RepL K H vs ds → keyTs ds = some ks → vs = ks.map kV
  | [], _, _, r, e => by cases r; cases e; rfl
  | d :: ds, _, ks, r, e => by
    cases r with
    | cons r1 r2 =>
      unfold keyTs at e
      split at e
      · rename_i k ks' e1 e2
        cases e
        rw [keyOf_rep r1 e1, keyTs_rep r2 e2]
        rfl
      · cases e
theorem keyT_rep {K : Frag} {H : Hp} {d : Dt} {v : V} {ks : List Key} (r : RepD K H v d) (e : keyT d = some ks) : ∃ b, v = .ref b ∧ H b = some (.tup (ks.map kV)) := by
  cases r with
  | tup h1 h2 =>
    have e : keyTs _ = some ks := e
    have h1 := h1.at_
    rw [keyTs_rep h2 e] at h1
    exact ⟨_, rfl, h1⟩
  | _ => cases e
def valT {α : Type} (l : List (List Key × α)) (k : List Key) : Option α := (l.find? fun p => decide (p.1 = k)).map (·.2)
def valK {α : Type} (l : List (Key × α)) (k : Key) : Option α := (l.find? fun p => decide (p.1 = k)).map (·.2)
def strIx (s : Str) (i : Int) : Option Dt := if szOk s.length = true then (atI s.cps.toList i).map fun c => .str ⟨#[c]⟩ else none
def ixI {α : Type} (l : List α) : Dt → Option α
  | .int i => atI l i
  | _ => none
def ixS (s : Str) : Dt → Option Dt
  | .int i => strIx s i
  | _ => none
def dIx : Dt → Dt → Option Dt
  | .tup l, y => ixI l y
  | .lst l, y => ixI l y
  | .str s, y => ixS s y
  | .dic l, y => (keyOf y).bind fun k => valK l k
  | .dit l, y => (keyT y).bind fun k => valT l k
  | _, _ => none
def cIx : Option Cell → Dt → Option Wv
  | some (.lst l), y => ixI l y
  | some (.dic l), y => (keyOf y).bind fun k => valK l k
  | some (.lck l), y => (keyOf y).bind fun k => valK l k
  | some (.dit _ l), y => (keyT y).bind fun k => valT l k
  | _, _ => none
def wIx (x y : Wv) (cs : List Cell) : Option Wv := match x, y with
  | .dat x, .dat y => (dIx x y).map .dat
  | .cel k, .dat y => cIx cs[k]? y
  | _, _ => none
theorem ixI_of {α : Type} {l : List α} {y : Dt} {z : α} (h : ixI l y = some z) : ∃ i, y = .int i ∧ atI l i = some z := by
  cases y with
  | int i => exact ⟨i, rfl, h⟩
  | _ => cases h
def mIx (x y : Wv) : M Wv := fun cs => M.opt (wIx x y cs) cs
def eIx (f g : Ev) : Ev := fun env => M.bind (f env) fun x => M.bind (g env) fun y => mIx x y
theorem atI_rep {K : Frag} {H : Hp} {vs : List V} {ds : List Dt} {i : Int} {d : Dt} (r : RepL K H vs ds) (e : atI ds i = some d) : ∃ v, atI vs i = some v ∧ RepD K H v d := by
  unfold atI at e ⊢
  rw [r.len]
  cases h : ixN ds.length i with
  | none => rw [h] at e; cases e
  | some j =>
    rw [h] at e
    obtain ⟨v, e1, e2⟩ := r.get e
    exact ⟨v, e1, e2⟩
theorem RepWs.get {K : Frag} {ω : Wo} {vs : List V} {ws : List Wv} (r : RepWs K ω vs ws) : ∀ {i : Nat} {w : Wv}, ws[i]? = some w → ∃ v, vs[i]? = some v ∧ RepW K ω v w := by
  induction r with
  | nil => intro i w e; simp at e
  | @cons v0 vs0 w0 ws0 h1 _ ih =>
    intro i w e
    cases i with
    | zero => simp at e; subst e; exact ⟨v0, rfl, h1⟩
    | succ i =>
      simp at e
      obtain ⟨u, q1, q2⟩ := ih e
      exact ⟨u, by simpa using q1, q2⟩
theorem atI_repW {K : Frag} {ω : Wo} {vs : List V} {ds : List Wv} {i : Int} {d : Wv} (r : RepWs K ω vs ds) (e : atI ds i = some d) : ∃ v, atI vs i = some v ∧ RepW K ω v d := by
  unfold atI at e ⊢
  rw [r.len]
  cases h : ixN ds.length i with
  | none => rw [h] at e; cases e
  | some j =>
    rw [h] at e
    obtain ⟨v, e1, e2⟩ := r.get e
    exact ⟨v, e1, e2⟩
theorem RepK.val {K : Frag} {H : Hp} : ∀ {vs : List (Key × V)} {ds : List (Key × Dt)} {k : Key} {d : Dt}, RepK K H vs ds → valK ds k = some d → ∃ v, valV vs k = some v ∧ RepD K H v d
  | [], _, k, d, h, e => by cases h; simp [valK] at e
  | (k0, v0) :: vs, _, k, d, h, e => by
    cases h with
    | @cons _ _ _ d0 ds0 h1 h2 =>
      unfold valK at e
      rw [List.find?_cons] at e
      by_cases hk : k0 = k
      · simp [hk] at e
        subst e
        exact ⟨v0, valV_pos hk, h1⟩
      · simp [hk] at e
        obtain ⟨v, e1, e2⟩ := RepK.val (k := k) (d := d) h2 (by unfold valK; simpa using e)
        exact ⟨v, by rw [valV_neg hk]; exact e1, e2⟩
theorem RepWk.val {K : Frag} {ω : Wo} : ∀ {vs : List (Key × V)} {ds : List (Key × Wv)} {k : Key} {d : Wv}, RepWk K ω vs ds → valK ds k = some d → ∃ v, valV vs k = some v ∧ RepW K ω v d
  | [], _, k, d, h, e => by cases h; simp [valK] at e
  | (k0, v0) :: vs, _, k, d, h, e => by
    cases h with
    | @cons _ _ _ d0 ds0 h1 h2 =>
      unfold valK at e
      rw [List.find?_cons] at e
      by_cases hk : k0 = k
      · simp [hk] at e
        subst e
        exact ⟨v0, valV_pos hk, h1⟩
      · simp [hk] at e
        obtain ⟨v, e1, e2⟩ := RepWk.val (k := k) (d := d) h2 (by unfold valK; simpa using e)
        exact ⟨v, by rw [valV_neg hk]; exact e1, e2⟩
theorem RepT.val {K : Frag} {H : Hp} : ∀ {vs : List (List Key × V)} {ds : List (List Key × Dt)} {k : List Key} {d : Dt}, RepT K H vs ds → valT ds k = some d → ∃ v, valV vs k = some v ∧ RepD K H v d
  | [], _, k, d, h, e => by cases h; simp [valT] at e
  | (k0, v0) :: vs, _, k, d, h, e => by
    cases h with
    | @cons _ _ _ d0 ds0 h1 h2 =>
      unfold valT at e
      rw [List.find?_cons] at e
      by_cases hk : k0 = k
      · simp [hk] at e
        subst e
        exact ⟨v0, valV_pos hk, h1⟩
      · simp [hk] at e
        obtain ⟨v, e1, e2⟩ := RepT.val (k := k) (d := d) h2 (by unfold valT; simpa using e)
        exact ⟨v, by rw [valV_neg hk]; exact e1, e2⟩
theorem RepWt.val {K : Frag} {ω : Wo} : ∀ {vs : List (List Key × V)} {ds : List (List Key × Wv)} {k : List Key} {d : Wv}, RepWt K ω vs ds → valT ds k = some d → ∃ v, valV vs k = some v ∧ RepW K ω v d
  | [], _, k, d, h, e => by cases h; simp [valT] at e
  | (k0, v0) :: vs, _, k, d, h, e => by
    cases h with
    | @cons _ _ _ d0 ds0 h1 h2 =>
      unfold valT at e
      rw [List.find?_cons] at e
      by_cases hk : k0 = k
      · simp [hk] at e
        subst e
        exact ⟨v0, valV_pos hk, h1⟩
      · simp [hk] at e
        obtain ⟨v, e1, e2⟩ := RepWt.val (k := k) (d := d) h2 (by unfold valT; simpa using e)
        exact ⟨v, by rw [valV_neg hk]; exact e1, e2⟩
def cDic : Option Cell → Bool
  | some (.dic _) => true
  | some (.lck _) => true
  | some (.dit _ _) => true
  | _ => false
def isDic (x : Wv) (cs : List Cell) : Bool := match x with
  | .dat (.dic _) => true
  | .dat (.dit _) => true
  | .cel k => cDic cs[k]?
  | _ => false
theorem ix_seq_of {K : Frag} {ω : Wo} {H : Hp} {cs : List Cell} {u v : V} {x y z : Wv} (k : Ok K ω H cs) (ru : RepW K ω u x) (rv : RepW K ω v y) (e : wIx x y cs = some z) (hd : isDic x cs = false) {Q : VK} (q : ∀ v', RepW K ω v' z → Q v' H) : rIx K u v H Q := by
  cases y with
  | cel j => cases x <;> cases e
  | dat y =>
    cases x with
    | dat x =>
      have e : (dIx x y).map Wv.dat = some z := e
      cases h : dIx x y with
      | none => rw [h] at e; cases e
      | some w =>
        rw [h] at e
        cases e
        have ru : RepD K ω.Hs u x := ru
        have rv : RepD K ω.Hs v y := rv
        cases x with
        | tup l =>
          obtain ⟨i, rfl, h⟩ := ixI_of (show ixI l y = some w from h)
          cases ru with
          | tup h1 h2 =>
            cases rv
            obtain ⟨v', e1, r1⟩ := atI_rep h2 h
            exact .inr (.inl ⟨_, _, i, v', rfl, rfl, (ex_t k.ex h1).sq, e1, q v' r1⟩)
        | lst l =>
          obtain ⟨i, rfl, h⟩ := ixI_of (show ixI l y = some w from h)
          cases ru with
          | lst h1 h2 =>
            cases rv
            obtain ⟨v', e1, r1⟩ := atI_rep h2 h
            exact .inl ⟨_, _, i, v', rfl, rfl, SqL.of (k.ex _ _ h1), e1, q v' r1⟩
        | str s =>
          cases y with
          | int i =>
            cases ru; cases rv
            have h : strIx s i = some w := h
            unfold strIx at h
            split at h
            · rename_i hz
              cases hc : atI s.cps.toList i with
              | none => rw [hc] at h; cases h
              | some c =>
                rw [hc] at h
                cases h
                exact .inr (.inr ⟨s, i, c, rfl, rfl, szOk_of hz, hc, q _ (RepD.str _)⟩)
            · cases h
          | _ => cases h
        | dic l => cases hd
        | dit l => cases hd
        | _ => cases h
    | cel j =>
      obtain ⟨a, e1, rfl⟩ := ru
      have e : cIx cs[j]? y = some z := e
      have hd : cDic cs[j]? = false := hd
      cases hc : cs[j]? with
      | none => rw [hc] at e; cases e
      | some c =>
        rw [hc] at e hd
        have qc := k.cell e1 hc
        cases c with
        | lst l =>
          obtain ⟨i, rfl, h⟩ := ixI_of (show ixI l y = some z from e)
          cases (show RepD K ω.Hs v (.int i) from rv)
          obtain ⟨_, vs, h1, h2⟩ := qc
          obtain ⟨v', e2, r1⟩ := atI_repW h2 h
          exact .inl ⟨_, _, i, v', rfl, rfl, SqL.of h1, e2, q v' r1⟩
        | dic l => cases hd
        | lck l => cases hd
        | dit b l => cases hd
        | ins C l => cases e
        | dead => cases e
theorem ix_dic_of {K : Frag} {ω : Wo} {H : Hp} {cs : List Cell} {u v : V} {x y z : Wv} (k : Ok K ω H cs) (ru : RepW K ω u x) (rv : RepW K ω v y) (e : wIx x y cs = some z) (hd : isDic x cs = true) {Q : VK} (q : ∀ v', RepW K ω v' z → Q v' H) :
    ∃ a v', u = .ref a ∧ DGet H a v (some v') ∧ Q v' H := by
  cases y with
  | cel j => cases x <;> cases e
  | dat y =>
    cases x with
    | dat x =>
      cases x with
      | dic l =>
        have e : (dIx (.dic l) y).map Wv.dat = some z := e
        cases h : dIx (.dic l) y with
        | none => rw [h] at e; cases e
        | some w =>
          rw [h] at e
          cases e
          have h : ((keyOf y).bind fun k => valK l k) = some w := h
          cases hk : keyOf y with
          | none => rw [hk] at h; cases h
          | some key =>
            rw [hk] at h
            cases (show RepD K ω.Hs u (.dic l) from ru) with
            | dic h1 h2 =>
              obtain ⟨v', e1, r1⟩ := h2.val h
              refine ⟨_, v', rfl, ?_, q v' r1⟩
              rw [keyOf_rep rv hk, ← e1]
              exact DGet.k (k.ex _ _ h1)
      | dit l =>
        have e : (dIx (.dit l) y).map Wv.dat = some z := e
        cases h : dIx (.dit l) y with
        | none => rw [h] at e; cases e
        | some w =>
          rw [h] at e
          cases e
          have h : ((keyT y).bind fun k => valT l k) = some w := h
          cases hk : keyT y with
          | none => rw [hk] at h; cases h
          | some key =>
            rw [hk] at h
            cases (show RepD K ω.Hs u (.dit l) from ru) with
            | dit h1 h2 =>
              obtain ⟨v', e1, r1⟩ := h2.val h
              obtain ⟨b, e3, e4⟩ := keyT_rep (show RepD K ω.Hs v y from rv) hk
              refine ⟨_, v', rfl, ?_, q v' r1⟩
              rw [e3, ← e1]
              exact .inr ⟨_, key, b, .inl (k.ex _ _ h1), rfl, k.ex _ _ e4, rfl⟩
      | _ => cases hd
    | cel j =>
      obtain ⟨a, e1, rfl⟩ := ru
      have e : cIx cs[j]? y = some z := e
      have hd : cDic cs[j]? = true := hd
      cases hc : cs[j]? with
      | none => rw [hc] at e; cases e
      | some c =>
        rw [hc] at e hd
        have qc := k.cell e1 hc
        cases c with
        | dic l =>
          obtain ⟨_, vs, h1, h2⟩ := qc
          have e : ((keyOf y).bind fun k => valK l k) = some z := e
          cases hk : keyOf y with
          | none => rw [hk] at e; cases e
          | some key =>
            rw [hk] at e
            obtain ⟨v', e2, r1⟩ := h2.val e
            refine ⟨_, v', rfl, ?_, q v' r1⟩
            rw [keyOf_rep rv hk, ← e2]
            exact DGet.k h1
        | lck l =>
          obtain ⟨_, o, vs, _, h1, h2⟩ := qc
          have e : ((keyOf y).bind fun k => valK l k) = some z := e
          cases hk : keyOf y with
          | none => rw [hk] at e; cases e
          | some key =>
            rw [hk] at e
            obtain ⟨v', e2, r1⟩ := h2.val e
            refine ⟨_, v', rfl, ?_, q v' r1⟩
            rw [keyOf_rep rv hk, ← e2]
            exact .inl ⟨vs, key, .inr ⟨o, h1⟩, rfl, rfl⟩
        | dit bb l =>
          obtain ⟨_, vs, h1, h2⟩ := qc
          have e : ((keyT y).bind fun k => valT l k) = some z := e
          cases hk : keyT y with
          | none => rw [hk] at e; cases e
          | some key =>
            rw [hk] at e
            obtain ⟨v', e2, r1⟩ := h2.val e
            obtain ⟨b, e3, e4⟩ := keyT_rep (show RepD K ω.Hs v y from rv) hk
            refine ⟨_, v', rfl, ?_, q v' r1⟩
            rw [e3, ← e2]
            exact .inr ⟨vs, key, b, h1.at, rfl, k.ex _ _ e4, rfl⟩
        | _ => cases hd
theorem Out.mIx {K : Frag} {mg : MG} {ω : Wo} {x y : Wv} {cs : List Cell} {F : Wv → Wo → List Cell → Hp → Prop} (h : Out K mg E ω (mIx x y cs) F) : ∃ z, wIx x y cs = some z ∧ Out K mg E ω (.ok z cs) F := Out.opt h
theorem Out.impE {K : Frag} {mg : MG} {α : Type} {ω : Wo} {F F' : α → Wo → List Cell → Hp → Prop} {r : R α} (h : Out K mg E ω r F) (f : ∀ a ω' cs' H', r = .ok a cs' → Le ω ω' → Ok K ω' H' cs' → F a ω' cs' H' → F' a ω' cs' H') : Out K mg E ω r F' := by
  cases r with
  | ok a cs => exact fun ω2 H2 l2 k2 => f a ω2 cs H2 rfl l2 k2 (h ω2 H2 l2 k2)
  | exc x cs => exact h
  | bad => exact h
/-- which rule a subscript takes is told by what it computes -/
def goesDic (f g : Ev) (env : En) (cs : List Cell) : Bool := match f env cs with
  | .ok x cs1 => match g env cs1 with
    | .ok _ cs2 => isDic x cs2
    | _ => false
  | _ => false
theorem goesDic_of {env : En} {cs cs1 cs2 : List Cell} {x y : Wv} (e1 : f env cs = .ok x cs1) (e2 : g env cs1 = .ok y cs2) : goesDic f g env cs = isDic x cs2 := by
  unfold goesDic
  rw [e1]
  show (match g env cs1 with
    | .ok _ cs2 => isDic x cs2
    | _ => false) = _
  rw [e2]
theorem ix_use {σ : L2.St} {H : Hp} {Q : VK} (h : tEv X.K X.mg E (eIx f g) σ H Q) : tOp (rIx X.K) (tEv X.K X.mg E f) (tEv X.K X.mg E g) σ H Q ∨ tDGet (tEv X.K X.mg E f) (tEv X.K X.mg E g) σ H Q := by
  obtain ⟨env, cs, ω, hs, hk, h⟩ := h
  cases hd : goesDic f g env cs with
  | false =>
    refine .inl ⟨env, cs, ω, hs, hk, h.bind.impE fun x ω1 cs1 H1 e1 l1 k1 h1 u ru => ⟨env, cs1, ω1, hs.mono l1, k1, h1.bind.impE fun y ω2 cs2 H2 e2 l2 k2 h2 v rv => ?_⟩⟩
    rw [goesDic_of e1 e2] at hd
    obtain ⟨z, ez, h3⟩ := h2.mIx
    exact ix_seq_of k2 (ru.mono l2) rv ez hd fun v' r' => h3.now k2 v' r'
  | true =>
    refine .inr ⟨env, cs, ω, hs, hk, h.bind.impE fun x ω1 cs1 H1 e1 l1 k1 h1 u ru => ⟨env, cs1, ω1, hs.mono l1, k1, h1.bind.impE fun y ω2 cs2 H2 e2 l2 k2 h2 v rv => ?_⟩⟩
    rw [goesDic_of e1 e2] at hd
    obtain ⟨z, ez, h3⟩ := h2.mIx
    exact ix_dic_of k2 (ru.mono l2) rv ez hd fun v' r' => h3.now k2 v' r'
theorem ev_ix (hu : X.A.units + 1 < cLine) (ha : EV X E a f) (hb : EV X E b g) (hs : PlainIx b := by exact fun _ _ => rfl) (hn : NoSl b := by exact fun _ _ => rfl) : EV X E (.Subscript a b pos) (eIx f g) :=
  PE.imp (PE.orr (pe_ix ix_seq ha hb hs) (pe_dget hu ha hb hn)) fun _ _ _ h => ix_use h
def cutL {α : Type} (xs : List α) (lo hi : Option Int) : List α := (xs.drop (HT.sIx xs.length 0 lo)).take (HT.sIx xs.length xs.length hi - HT.sIx xs.length 0 lo)
theorem RepL.cut {K : Frag} {H : Hp} {vs : List V} {ds : List Dt} (r : RepL K H vs ds) (lo hi : Option Int) : RepL K H (cutV vs lo hi) (cutL ds lo hi) := by
  unfold cutV cutL
  rw [r.len]
  exact (r.drop _).take _
theorem RepWs.take {K : Frag} {ω : Wo} {vs : List V} {ws : List Wv} (r : RepWs K ω vs ws) : ∀ n : Nat, RepWs K ω (vs.take n) (ws.take n) := by
  induction r with
  | nil => intro n; simp; exact .nil
  | cons h1 _ ih =>
    intro n
    cases n with
    | zero => exact .nil
    | succ n => exact .cons h1 (ih n)
theorem RepWs.drop {K : Frag} {ω : Wo} {vs : List V} {ws : List Wv} (r : RepWs K ω vs ws) : ∀ n : Nat, RepWs K ω (vs.drop n) (ws.drop n) := by
  induction r with
  | nil => intro n; simp; exact .nil
  | cons h1 h2 ih =>
    intro n
    cases n with
    | zero => exact .cons h1 h2
    | succ n => exact ih n
theorem RepWs.cut {K : Frag} {ω : Wo} {vs : List V} {ds : List Wv} (r : RepWs K ω vs ds) (lo hi : Option Int) : RepWs K ω (cutV vs lo hi) (cutL ds lo hi) := by
  unfold cutV cutL
  rw [r.len]
  exact (r.drop _).take _
abbrev EvO := En → M (Option Int)
def tEvO (K : Frag) (mg : MG) (E : XK) (f : EvO) : TO := fun σ H Q => ∃ env cs ω, StRep K ω σ env ∧ Ok K ω H cs ∧ Out K mg E ω (f env cs) fun o _ _ H' => Q o H'
def EVO (X : Cx) (E : XK) (e : Option Expr) (f : EvO) : Prop := PO X e (tEvO X.K X.mg E f)
theorem PO.imp {e : Option Expr} {t u : TO} (h : PO X e t) (i : ∀ σ H Q, u σ H Q → t σ H Q) : PO X e u := ⟨fun pins s σ H Q I z => h.run pins s σ H Q I (i σ H Q z)⟩
def oNone : EvO := fun _ => M.ret none
def asI : Wv → M (Option Int)
  | .dat (.int i) => M.ret (some i)
  | _ => M.bad
def oSome (f : Ev) : EvO := fun env => M.bind (f env) asI
theorem eo_none : EVO X E none oNone := PO.imp po_none fun σ H Q ⟨env, cs, ω, hs, hk, h⟩ => h.now hk
theorem eo_some (ha : EV X E a f) : EVO X E (some a) (oSome f) := PO.imp (po_some ha) fun σ H Q ⟨env, cs, ω, hs, hk, h⟩ => ⟨env, cs, ω, hs, hk, h.bind.imp fun x ω1 cs1 H1 l1 k1 h1 v rv => by
    cases x with
    | cel k => exact (show False from h1).elim
    | dat d =>
      cases d with
      | int i =>
        cases (show RepD X.K ω1.Hs v (.int i) from rv)
        exact ⟨i, rfl, h1.now k1⟩
      | _ => exact (show False from h1).elim⟩
def strSl (s : Str) (lo hi : Option Int) : Option Dt := if szOk s.length = true then some (.str (cutS s lo hi)) else none
def dSl (x : Dt) (lo hi : Option Int) : Option Dt := match x with
  | .lst l => some (.lst (cutL l lo hi))
  | .tup l => some (.tup (cutL l lo hi))
  | .str s => strSl s lo hi
  | _ => none
def cSl (c : Option Cell) (lo hi : Option Int) : Option Dt := match c with
  | some (.lst l) => (dats (cutL l lo hi)).map .lst
  | _ => none
def wSl (x : Wv) (lo hi : Option Int) (cs : List Cell) : Option Dt := match x with
  | .dat x => dSl x lo hi
  | .cel k => cSl cs[k]? lo hi
def mSl (x : Wv) (lo hi : Option Int) : M Wv := fun cs => M.opt ((wSl x lo hi cs).map .dat) cs
def eSl (f : Ev) (lo hi : EvO) : Ev := fun env => M.bind (f env) fun x => M.bind (lo env) fun l => M.bind (hi env) fun u => mSl x l u
def rSl3 (K : Frag) : V → Option Int → Option Int → Hp → VK → Prop := fun x lo hi H Q => rSlL K x lo hi H Q ∨ (rSlA K x lo hi H Q ∨ rSlS x lo hi H Q)
theorem sl_3 : SlR X (rSl3 X.K) := SlR.or sl_list (SlR.or sl_tupA sl_str)
theorem cutL_all {α : Type} (xs : List α) (lo hi : Option Int) (h : HT.sIx xs.length 0 lo = 0 ∧ HT.sIx xs.length xs.length hi = xs.length) : cutL xs lo hi = xs := by
  unfold cutL
  rw [h.1, h.2]
  simp
theorem sl_of {K : Frag} {ω : Wo} {H : Hp} {cs : List Cell} {u : V} {x : Wv} {z : Dt} {lo hi : Option Int} (k : Ok K ω H cs) (ru : RepW K ω u x) (e : wSl x lo hi cs = some z) {Q : VK} (q : ∀ ω' H' v', Le ω ω' → Ok K ω' H' cs → RepD K ω'.Hs v' z → Q v' H') : rSl3 K u lo hi H Q := by
  cases x with
  | dat x =>
    have ru : RepD K ω.Hs u x := ru
    have e : dSl x lo hi = some z := e
    cases ru with
    | lst h1 h2 =>
      cases e
      exact .inl ⟨_, _, rfl, SqL.of (k.ex _ _ h1), froze_use k q fun p hp => rep_lst k hp (h2.cut lo hi)⟩
    | @tup a xs ds h1 h2 =>
      cases e
      refine .inr (.inl ⟨_, _, rfl, (ex_t k.ex h1).sq, fun hw => ?_, fun hw => froze_use k q fun p hp => rep_tup k hp (h2.cut lo hi)⟩)
      rw [h2.len] at hw
      rw [cutL_all ds lo hi hw] at q
      exact q ω H _ (Le.refl _) k (.tup h1 h2)
    | str s =>
      have e : strSl s lo hi = some z := e
      unfold strSl at e
      split at e
      · cases e
        exact .inr (.inr ⟨s, rfl, szOk_of (by assumption), q ω H _ (Le.refl _) k (.str _)⟩)
      · cases e
    | _ => cases e
  | cel j =>
    obtain ⟨a, e1, rfl⟩ := ru
    have e : cSl cs[j]? lo hi = some z := e
    cases hc : cs[j]? with
    | none => rw [hc] at e; cases e
    | some c =>
      rw [hc] at e
      have qc := k.cell e1 hc
      cases c with
      | lst l =>
        obtain ⟨_, vs, h1, h2⟩ := qc
        have e : (dats (cutL l lo hi)).map Dt.lst = some z := e
        cases hd : dats (cutL l lo hi) with
        | none => rw [hd] at e; cases e
        | some ds =>
          rw [hd] at e
          cases e
          exact .inl ⟨_, _, rfl, SqL.of h1, froze_use k q fun p hp => rep_lst k hp ((h2.cut lo hi).dats hd)⟩
      | _ => cases e
theorem ev_sl {lo hi : Option Expr} {fl fh : EvO} {p2 : Pos} (ha : EV X E a f) (hl : EVO X E lo fl) (hh : EVO X E hi fh) : EV X E (.Subscript a (.Slice lo hi none p2) pos) (eSl f fl fh) :=
  PE.imp (pe_slice sl_3 ha hl hh) fun σ H Q ⟨env, cs, ω, hs, hk, h⟩ => ⟨env, cs, ω, hs, hk, h.bind.imp fun x ω1 cs1 H1 l1 k1 h1 v rv => ⟨env, cs1, ω1, hs.mono l1, k1, h1.bind.imp fun o1 ω2 cs2 H2 l2 k2 h2 =>
    ⟨env, cs2, ω2, hs.mono (l1.trans l2), k2, h2.bind.imp fun o2 ω3 cs3 H3 l3 k3 h3 => by
      have h3 : Out X.K X.mg E ω3 (M.opt ((wSl x o1 o2 cs3).map Wv.dat) cs3) _ := h3
      obtain ⟨z, e, h4⟩ := Out.map_some h3
      exact sl_of k3 (rv.mono (l2.trans l3)) e fun ω' H' v' l k r => h4 ω' H' l k v' r⟩⟩⟩
end
end DX
namespace DX
variable [TabT]
open PySem L2
section
variable {X : Cx} {E : XK} {a b c e : Expr} {es : List Expr} {pos p : Pos} {f : Ev} {g : EvA}
def CallO (K : Frag) (r : List V → Hp → VK → Prop) (o : List Wv → List Cell → Option Dt) : Prop := ∀ (ω : Wo) (H : Hp) (cs : List Cell) (vs : List V) (ws : List Wv) (z : Dt), Ok K ω H cs → RepWs K ω vs ws → o ws cs = some z →
  ∀ Q : VK, (∀ ω' H' v', Le ω ω' → Ok K ω' H' cs → RepD K ω'.Hs v' z → Q v' H') → r vs H Q
def eCall (o : List Wv → List Cell → Option Dt) (g : EvA) : Ev := fun env => M.bind (g env) fun ws => fun cs => M.opt ((o ws cs).map .dat) cs
theorem call_use {r : List V → Hp → VK → Prop} {o : List Wv → List Cell → Option Dt} (hr : CallO X.K r o) {σ : L2.St} {H : Hp} {Q : VK} (h : tEv X.K X.mg E (eCall o g) σ H Q) : tCB r (tEvA X.K X.mg E g) σ H Q := by
  obtain ⟨env, cs, ω, hs, hk, h⟩ := h
  refine ⟨env, cs, ω, hs, hk, h.bind.imp fun ws ω1 cs1 H1 l1 k1 h1 vs rv => ?_⟩
  have h1 : Out X.K X.mg E ω1 (M.opt ((o ws cs1).map Wv.dat) cs1) _ := h1
  obtain ⟨z, e, h2⟩ := Out.map_some h1
  exact hr ω1 H1 cs1 vs ws z k1 rv e Q fun ω' H' v' l k r => h2 ω' H' l k v' r
theorem ev_callB {id : String} {x : Str} {r : List V → Hp → VK → Prop} {o : List Wv → List Cell → Option Dt} (hc : CallR X (.builtin id) r) (hr : CallO X.K r o) (hg : Gl X x) (hm : X.mg x = none) (hv : bootBuiltins x = some (.builtin id)) (ha : EVA X E (e :: es) g) (hn : x ≠ "__name__" := by decide) (hdb : (x == ("__debug__" : Str)) = false := by decide)
    (he : starEach (e :: es) X.env = (false, eval e X.env) :: starEach es X.env := by rfl) (hpl : (backTo pos (starEach es X.env)).any (·.1) = false := by rfl) : EV X E (.Call (.Name x p) (e :: es) [] pos) (eCall o g) :=
  PE.imp (pe_callB hc hg hm hv ha hn hdb he hpl) fun _ _ _ h => call_use hr h
theorem ev_callTy {T : String} {x : Str} {r : List V → Hp → VK → Prop} {o : List Wv → List Cell → Option Dt} (hc : CallR X (.type T) r) (hr : CallO X.K r o) (hg : Gl X x) (hm : X.mg x = none) (hv : bootBuiltins x = some (.type T)) (ha : EVA X E (e :: es) g) (hn : x ≠ "__name__" := by decide) (hdb : (x == ("__debug__" : Str)) = false := by decide)
    (he : starEach (e :: es) X.env = (false, eval e X.env) :: starEach es X.env := by rfl) (hpl : (backTo pos (starEach es X.env)).any (·.1) = false := by rfl) : EV X E (.Call (.Name x p) (e :: es) [] pos) (eCall o g) :=
  PE.imp (pe_callTy hc hg hm hv ha hn hdb he hpl) fun _ _ _ h => call_use hr h
theorem CallO.or {K : Frag} {r s : List V → Hp → VK → Prop} {o q : List Wv → List Cell → Option Dt} (h1 : CallO K r o) (h2 : CallO K s q) : CallO K (fun xs H Q => r xs H Q ∨ s xs H Q) (fun ws cs => (o ws cs).or (q ws cs)) := fun ω H cs vs ws z k rv e Q qq => by
  have e : (o ws cs).or (q ws cs) = some z := e
  cases h : o ws cs with
  | some w =>
    rw [h] at e
    exact .inl (h1 ω H cs vs ws z k rv (h.trans e) Q qq)
  | none =>
    rw [h] at e
    exact .inr (h2 ω H cs vs ws z k rv e Q qq)
/-- one datum in, one out -/
def o1 (o : Dt → Option Dt) : List Wv → List Cell → Option Dt
  | [.dat d], _ => o d
  | _, _ => none
def o2 (o : Dt → Dt → Option Dt) : List Wv → List Cell → Option Dt
  | [.dat d, .dat e], _ => o d e
  | _, _ => none
theorem o1_of {o : Dt → Option Dt} {ws : List Wv} {cs : List Cell} {z : Dt} (h : o1 o ws cs = some z) : ∃ d, ws = [.dat d] ∧ o d = some z := by
  unfold o1 at h
  split at h
  · exact ⟨_, rfl, h⟩
  · cases h
theorem o2_of {o : Dt → Dt → Option Dt} {ws : List Wv} {cs : List Cell} {z : Dt} (h : o2 o ws cs = some z) : ∃ d e, ws = [.dat d, .dat e] ∧ o d e = some z := by
  unfold o2 at h
  split at h
  · exact ⟨_, _, rfl, h⟩
  · cases h
theorem RepWs.one {K : Frag} {ω : Wo} {vs : List V} {d : Dt} (h : RepWs K ω vs [.dat d]) : ∃ v, vs = [v] ∧ RepD K ω.Hs v d := by
  cases h with
  | cons h1 h2 => cases h2; exact ⟨_, rfl, h1⟩
theorem RepWs.two {K : Frag} {ω : Wo} {vs : List V} {d e : Dt} (h : RepWs K ω vs [.dat d, .dat e]) : ∃ v u, vs = [v, u] ∧ RepD K ω.Hs v d ∧ RepD K ω.Hs u e := by
  cases h with
  | cons h1 h2 =>
    cases h2 with
    | cons h2 h3 => cases h3; exact ⟨_, _, rfl, h1, h2⟩
def dLen : Dt → Option Dt
  | .tup l => some (.int l.length)
  | .lst l => some (.int l.length)
  | .str s => if szOk s.length = true then some (.int s.length) else none
  | .dic l => some (.int l.length)
  | .scr l => some (.int l.length)
  | _ => none
def cLen : Option Cell → Option Dt
  | some (.lst l) => some (.int l.length)
  | some (.dic l) => some (.int l.length)
  | _ => none
def oLen : List Wv → List Cell → Option Dt
  | [.dat d], _ => dLen d
  | [.cel k], cs => cLen cs[k]?
  | _, _ => none
theorem RepK.len {K : Frag} {H : Hp} : ∀ {vs : List (Key × V)} {ds : List (Key × Dt)}, RepK K H vs ds → vs.length = ds.length
  | [], _, h => by cases h; rfl
  | v :: vs, _, h => by
    cases h with
    | cons h1 h2 => simp [RepK.len h2]
theorem RepWk.len {K : Frag} {ω : Wo} {vs : List (Key × V)} {ws : List (Key × Wv)} (h : RepWk K ω vs ws) : vs.length = ws.length := by
  induction h with
  | nil => rfl
  | cons _ _ ih => simp [ih]
theorem call_len3 : CallR X (.builtin "len") (fun xs H Q => (∃ p ys, xs = [V.ref p] ∧ (SqL X.K H p ys ∨ SqT X.K H p ys) ∧ Q (.int ys.length) H) ∨ ((∃ z, xs = [V.str z] ∧ z.length ≤ sizeLine ∧ Q (.int z.length) H) ∨ (∃ a kvs, xs = [V.ref a] ∧ H a = some (.dK kvs) ∧ Q (.int kvs.length) H))) :=
  CallR.or call_len_seq (CallR.or call_len_str call_lenD)
theorem co_len {K : Frag} : CallO K (fun xs H Q => (∃ p ys, xs = [V.ref p] ∧ (SqL K H p ys ∨ SqT K H p ys) ∧ Q (.int ys.length) H) ∨ ((∃ z, xs = [V.str z] ∧ z.length ≤ sizeLine ∧ Q (.int z.length) H) ∨ (∃ a kvs, xs = [V.ref a] ∧ H a = some (.dK kvs) ∧ Q (.int kvs.length) H))) oLen := fun ω H cs vs ws z k rv e Q q => by
  unfold oLen at e
  split at e
  · obtain ⟨v, rfl, r⟩ := rv.one
    cases r with
    | tup h1 h2 => cases e; exact .inl ⟨_, _, rfl, .inr ((ex_t k.ex h1).sq), by rw [h2.len]; exact q ω H _ (Le.refl _) k (.int _)⟩
    | lst h1 h2 => cases e; exact .inl ⟨_, _, rfl, .inl (SqL.of (k.ex _ _ h1)), by rw [h2.len]; exact q ω H _ (Le.refl _) k (.int _)⟩
    | str s =>
      have e : (if szOk s.length = true then some (Dt.int s.length) else none) = some z := e
      split at e
      · cases e; exact .inr (.inl ⟨s, rfl, szOk_of (by assumption), q ω H _ (Le.refl _) k (.int _)⟩)
      · cases e
    | dic h1 h2 => cases e; exact .inr (.inr ⟨_, _, rfl, k.ex _ _ h1, by rw [h2.len]; exact q ω H _ (Le.refl _) k (.int _)⟩)
    | scr h1 => cases e; exact .inl ⟨_, _, rfl, .inl (ex_l k.ex h1), by rw [List.length_map]; exact q ω H _ (Le.refl _) k (.int _)⟩
    | _ => cases e
  · rename_i cs' j
    cases rv with
    | cons r1 r2 =>
      cases r2
      obtain ⟨a, e1, rfl⟩ := r1
      cases hc : cs[j]? with
      | none => rw [hc] at e; cases e
      | some c =>
        rw [hc] at e
        have qc := k.cell e1 hc
        cases c with
        | lst l => obtain ⟨_, vs, h1, h2⟩ := qc; cases e; exact .inl ⟨_, _, rfl, .inl (SqL.of h1), by rw [h2.len]; exact q ω H _ (Le.refl _) k (.int _)⟩
        | dic l => obtain ⟨_, vs, h1, h2⟩ := qc; cases e; exact .inr (.inr ⟨_, _, rfl, h1, by rw [h2.len]; exact q ω H _ (Le.refl _) k (.int _)⟩)
        | ins C l => cases e
        | dead => cases e
        | lck l => cases e
        | dit b l => cases e
  · cases e
theorem ev_len {x : Str} (hx : x = "len") (hg : Gl X x) (hm : X.mg x = none) (ha : EVA X E (e :: es) g)
    (he : starEach (e :: es) X.env = (false, eval e X.env) :: starEach es X.env := by rfl) (hpl : (backTo pos (starEach es X.env)).any (·.1) = false := by rfl) : EV X E (.Call (.Name x p) (e :: es) [] pos) (eCall oLen g) := by
  subst hx
  exact ev_callB call_len3 co_len hg hm boot_len ha (by decide) (by decide) he hpl
def dAbs : Dt → Option Dt
  | .int i => some (.int (if i < 0 then -i else i))
  | _ => none
def dMax2 : Dt → Dt → Option Dt
  | .int i, .int j => some (.int (if j > i then j else i))
  | _, _ => none
def dMin2 : Dt → Dt → Option Dt
  | .int i, .int j => some (.int (if j < i then j else i))
  | _, _ => none
theorem co_abs {K : Frag} : CallO K (fun xs H Q => ∃ i, xs = [V.int i] ∧ Q (.int (if i < 0 then -i else i)) H) (o1 dAbs) := fun ω H cs vs ws z k rv e Q q => by
  obtain ⟨d, rfl, e⟩ := o1_of e
  obtain ⟨v, rfl, r⟩ := rv.one
  cases d with
  | int i => cases r; cases e; exact ⟨i, rfl, q ω H _ (Le.refl _) k (.int _)⟩
  | _ => cases e
theorem co_min2 {K : Frag} : CallO K (fun xs H Q => ∃ i j, xs = [V.int i, V.int j] ∧ Q (.int (if j < i then j else i)) H) (o2 dMin2) := fun ω H cs vs ws z k rv e Q q => by
  obtain ⟨d, d', rfl, e1⟩ := o2_of e
  obtain ⟨v, u, rfl, r, r'⟩ := rv.two
  unfold dMin2 at e1
  split at e1
  · cases r; cases r'; cases e1; exact ⟨_, _, rfl, q ω H _ (Le.refl _) k (.int _)⟩
  · cases e1
def dInt1 : Dt → Option Dt
  | .int i => some (.int i)
  | .bl k => some (.int (if k then 1 else 0))
  | _ => none
theorem co_int1 {K : Frag} : CallO K (fun xs H Q => (∃ i, xs = [V.int i] ∧ Q (.int i) H) ∨ ∃ k, xs = [V.bl k] ∧ Q (.int (if k then 1 else 0)) H) (o1 dInt1) := fun ω H cs vs ws z k rv e Q q => by
  obtain ⟨d, rfl, e⟩ := o1_of e
  obtain ⟨v, rfl, r⟩ := rv.one
  cases d with
  | int i => cases r; cases e; exact .inl ⟨i, rfl, q ω H _ (Le.refl _) k (.int _)⟩
  | bl i => cases r; cases e; exact .inr ⟨i, rfl, q ω H _ (Le.refl _) k (.int _)⟩
  | _ => cases e
def intsOf : List Dt → Option (List Int)
  | [] => some []
  | .int i :: l => (intsOf l).map (i :: ·)
  | _ :: _ => none
def blsOf : List Dt → Option (List Bool)
  | [] => some []
  | .bl i :: l => (blsOf l).map (i :: ·)
  | _ :: _ => none
theorem RepL.ints {K : Frag} {H : Hp} : ∀ {vs : List V} {ds : List Dt} {ns : List Int}, RepL K H vs ds → intsOf ds = some ns → vs = ns.map V.int
  | [], _, ns, h, e => by cases h; simp [intsOf] at e; subst e; rfl
  | v :: vs, _, ns, h, e => by
    cases h with
    | @cons _ _ d ds h1 h2 =>
      cases d with
      | int i =>
        simp [intsOf] at e
        obtain ⟨ms, e1, rfl⟩ := e
        cases h1
        rw [RepL.ints h2 e1]
        rfl
      | _ => simp [intsOf] at e
theorem RepL.bls {K : Frag} {H : Hp} : ∀ {vs : List V} {ds : List Dt} {ns : List Bool}, RepL K H vs ds → blsOf ds = some ns → vs = ns.map V.bl
  | [], _, ns, h, e => by cases h; simp [blsOf] at e; subst e; rfl
  | v :: vs, _, ns, h, e => by
    cases h with
    | @cons _ _ d ds h1 h2 =>
      cases d with
      | bl i =>
        simp [blsOf] at e
        obtain ⟨ms, e1, rfl⟩ := e
        cases h1
        rw [RepL.bls h2 e1]
        rfl
      | _ => simp [blsOf] at e
def dSum : Dt → Option Dt
  | .lst l => (intsOf l).map fun ns => .int ns.sum
  | _ => none
def dAll : Dt → Option Dt
  | .lst l => (blsOf l).map fun bs => .bl (bs.all id)
  | _ => none
def dAny : Dt → Option Dt
  | .lst l => (blsOf l).map fun bs => .bl (bs.any id)
  | _ => none
theorem co_sum {K : Frag} : CallO K (rSum K) (o1 dSum) := fun ω H cs vs ws z k rv e Q q => by
  obtain ⟨d, rfl, e⟩ := o1_of e
  obtain ⟨v, rfl, r⟩ := rv.one
  cases d with
  | lst l =>
    have e : (intsOf l).map (fun ns => Dt.int ns.sum) = some z := e
    cases h : intsOf l with
    | none => rw [h] at e; cases e
    | some ns =>
      rw [h] at e
      cases e
      cases r with
      | lst h1 h2 => exact ⟨_, ns, rfl, by rw [← h2.ints h]; exact SqL.of (k.ex _ _ h1), q ω H _ (Le.refl _) k (.int _)⟩
  | _ => cases e
theorem co_all {K : Frag} : CallO K (rAll K) (o1 dAll) := fun ω H cs vs ws z k rv e Q q => by
  obtain ⟨d, rfl, e⟩ := o1_of e
  obtain ⟨v, rfl, r⟩ := rv.one
  cases d with
  | lst l =>
    have e : (blsOf l).map (fun bs => Dt.bl (bs.all id)) = some z := e
    cases h : blsOf l with
    | none => rw [h] at e; cases e
    | some ns =>
      rw [h] at e
      cases e
      cases r with
      | lst h1 h2 => exact ⟨_, ns, rfl, by rw [← h2.bls h]; exact SqL.of (k.ex _ _ h1), q ω H _ (Le.refl _) k (.bl _)⟩
  | _ => cases e
def dListOf : Dt → Option Dt
  | .tup l => some (.lst l)
  | .lst l => some (.lst l)
  | _ => none
def dTupOf : Dt → Option Dt
  | .tup l => some (.tup l)
  | .lst l => some (.tup l)
  | _ => none
def cSeq (f : List Dt → Dt) : Option Cell → Option Dt
  | some (.lst l) => (dats l).map f
  | _ => none
def oSeq (o : Dt → Option Dt) (f : List Dt → Dt) : List Wv → List Cell → Option Dt
  | [.dat d], _ => o d
  | [.cel k], cs => cSeq f cs[k]?
  | _, _ => none
theorem oSeq_of {K : Frag} {ω : Wo} {H : Hp} {cs : List Cell} {vs : List V} {ws : List Wv} {z : Dt} {o : Dt → Option Dt} {f : List Dt → Dt} (k : Ok K ω H cs) (rv : RepWs K ω vs ws) (h : oSeq o f ws cs = some z) :
    (∃ v d, vs = [v] ∧ RepD K ω.Hs v d ∧ o d = some z) ∨ ∃ a us ds, vs = [V.ref a] ∧ H a = some (.lst us) ∧ RepL K ω.Hs us ds ∧ z = f ds := by
  unfold oSeq at h
  split at h
  · obtain ⟨v, rfl, r⟩ := rv.one
    exact .inl ⟨v, _, rfl, r, h⟩
  · rename_i cs' j
    cases rv with
    | cons r1 r2 =>
      cases r2
      obtain ⟨a, e1, rfl⟩ := r1
      cases hc : cs[j]? with
      | none => rw [hc] at h; cases h
      | some c =>
        rw [hc] at h
        have qc := k.cell e1 hc
        cases c with
        | lst l =>
          obtain ⟨_, us, h1, h2⟩ := qc
          have h : (dats l).map f = some z := h
          cases hd : dats l with
          | none => rw [hd] at h; cases h
          | some ds =>
            rw [hd] at h
            cases h
            exact .inr ⟨a, us, ds, rfl, h1, h2.dats hd, rfl⟩
        | _ => cases h
  · cases h
theorem co_list {K : Frag} : CallO K (fun xs H Q => ∃ p ys, xs = [V.ref p] ∧ (SqL K H p ys ∨ SqT K H p ys) ∧ ∀ l, H l = none → Q (.ref l) (upd H l (.lst ys))) (oSeq dListOf .lst) := fun ω H cs vs ws z k rv e Q q => by
  rcases oSeq_of k rv e with ⟨v, d, rfl, r, e⟩ | ⟨a, us, ds, rfl, h1, h2, rfl⟩
  · cases r with
    | tup h1 h2 => cases e; exact ⟨_, _, rfl, .inr ((ex_t k.ex h1).sq), froze_use k q fun p hp => rep_lst k hp h2⟩
    | lst h1 h2 => cases e; exact ⟨_, _, rfl, .inl (SqL.of (k.ex _ _ h1)), froze_use k q fun p hp => rep_lst k hp h2⟩
    | _ => cases e
  · exact ⟨_, _, rfl, .inl (SqL.of h1), froze_use k q fun p hp => rep_lst k hp h2⟩
theorem co_tuple {K : Frag} : CallO K (fun xs H Q => ∃ p ys, xs = [V.ref p] ∧ ((SqL K H p ys ∧ ∀ l, H l = none → Q (.ref l) (upd H l (.tup ys))) ∨ (SqT K H p ys ∧ Q (.ref p) H))) (oSeq dTupOf .tup) := fun ω H cs vs ws z k rv e Q q => by
  rcases oSeq_of k rv e with ⟨v, d, rfl, r, e⟩ | ⟨a, us, ds, rfl, h1, h2, rfl⟩
  · cases r with
    | tup h1 h2 => cases e; exact ⟨_, _, rfl, .inr ⟨(ex_t k.ex h1).sq, q ω H _ (Le.refl _) k (.tup h1 h2)⟩⟩
    | lst h1 h2 => cases e; exact ⟨_, _, rfl, .inl ⟨SqL.of (k.ex _ _ h1), froze_use k q fun p hp => rep_tup k hp h2⟩⟩
    | _ => cases e
  · exact ⟨_, _, rfl, .inl ⟨SqL.of h1, froze_use k q fun p hp => rep_tup k hp h2⟩⟩
mutual
theorem noDict_of {K : Frag} {H : Hp} : ∀ (d : PyData) (v : V), Dp K H v d → d.hasDict = false
  | .none, _, _ => rfl
  | .bool _, _, _ => rfl
  | .int _, _, _ => rfl
  | .str _, _, _ => rfl
  | .list xs, _, h => by
    cases h with
    | lst _ h2 => exact noDicts_of xs _ h2
  | .tuple xs, _, h => by
    cases h with
    | tup _ h2 => exact noDicts_of xs _ h2
  | .dict _, _, h => by cases h
theorem noDicts_of {K : Frag} {H : Hp} : ∀ (ds : List PyData) (vs : List V), DpAll K H vs ds → PyData.hasDictAll ds = false
  | [], _, _ => rfl
  | d :: ds, _, h => by
    cases h with
    | cons h1 h2 =>
      show (d.hasDict || PyData.hasDictAll ds) = false
      rw [noDict_of d _ h1, noDicts_of ds _ h2]
      rfl
end
def rRepr (K : Frag) : List V → Hp → VK → Prop := fun xs H Q => ∃ (a : Addr) (d : PyData), xs = [V.ref a] ∧ Dp K H (.ref a) d ∧ d.showable = true ∧ d.depth ≤ 64 ∧ d.shown.length ≤ sizeLine ∧ Q (.str d.shown) H
theorem cr_repr (hg : X.A.guards = some []) (hu : X.A.units + 66 < cLine) : CallR X (.builtin "repr") (rRepr X.K) := by
  intro pins s σ H xs us Q I rx h
  obtain ⟨a, d, rfl, hd, h1, h2, h3, q⟩ := h
  cases rx with
  | cons r0 r1 =>
    cases r1
    obtain rfl := r0
    obtain ⟨as, hr⟩ := Dp.reads I d (.ref a) (.ref a) hd rfl
    refine PySem.repr_of_reads' hr h1 (fun z => ?_) hg (by omega) (fun _ _ e => e) (fun h' u tk hk => ⟨.str d.shown, H, I.kept hk, ⟨u, rfl⟩, q⟩) h3
    rw [noDict_of d _ hd] at z
    cases z
def dRepr0 (x : Dt) : Option Dt := match seqOf x, py x with
  | some _, some d => if (d.showable && decide (d.depth ≤ 64) && szOk d.shown.length) = true then some (.str d.shown) else none
  | _, _ => none
theorem co_repr0 {K : Frag} : CallO K (rRepr K) (o1 dRepr0) := fun ω H cs vs ws z k rv e Q q => by
  obtain ⟨d, rfl, e0⟩ := o1_of e
  obtain ⟨v, rfl, r⟩ := rv.one
  unfold dRepr0 at e0
  split at e0
  · rename_i l d' e1 e2
    split at e0
    · rename_i hh
      simp only [Bool.and_eq_true, decide_eq_true_eq] at hh
      cases e0
      have hd := dp_of d v d' (r.up k) e2
      have ha : ∃ a, v = .ref a := by
        cases d with
        | tup l => cases r with | tup h1 h2 => exact ⟨_, rfl⟩
        | lst l => cases r with | lst h1 h2 => exact ⟨_, rfl⟩
        | _ => cases e1
      obtain ⟨a, rfl⟩ := ha
      exact ⟨a, d', rfl, hd, hh.1.1, hh.1.2, szOk_of hh.2, q ω H _ (Le.refl _) k (.str _)⟩
    · cases e0
  · cases e0
def dReprI : Dt → Option Dt
  | .int i => if decide (i.natAbs.log2 < 1920) = true then some (.str (toString i)) else none
  | _ => none
theorem co_reprI {K : Frag} : CallO K (fun xs H Q => ∃ i, xs = [V.int i] ∧ i.natAbs.log2 < 1920 ∧ Q (.str (toString i)) H) (o1 dReprI) := fun ω H cs vs ws z k rv e Q q => by
  obtain ⟨d, rfl, e⟩ := o1_of e
  obtain ⟨v, rfl, r⟩ := rv.one
  cases d with
  | int i =>
    cases r
    have e : (if decide (i.natAbs.log2 < 1920) = true then some (Dt.str (toString i)) else none) = some z := e
    split at e
    · rename_i h
      cases e
      exact ⟨i, rfl, of_decide_eq_true h, q ω H _ (Le.refl _) k (.str _)⟩
    · cases e
  | _ => cases e
def dRepr (x : Dt) : Option Dt := (dRepr0 x).or (dReprI x)
theorem co_repr {K : Frag} : CallO K (fun xs H Q => rRepr K xs H Q ∨ ∃ i, xs = [V.int i] ∧ i.natAbs.log2 < 1920 ∧ Q (.str (toString i)) H) (o1 dRepr) := by
  have e : o1 dRepr = fun ws cs => (o1 dRepr0 ws cs).or (o1 dReprI ws cs) := by
    funext ws cs
    match ws with
    | [] => rfl
    | [.dat d] => rfl
    | [.cel _] => rfl
    | .dat _ :: _ :: _ => rfl
    | .cel _ :: _ :: _ => rfl
  rw [e]
  exact CallO.or co_repr0 co_reprI
def tyN : Dt → Option String
  | .non => some "NoneType"
  | .bl _ => some "bool"
  | .int _ => some "int"
  | .str _ => some "str"
  | .tup _ => some "tuple"
  | .lst _ => some "list"
  | .dic _ => some "dict"
  | _ => none
def allTy : List String := ["NoneType", "bool", "int", "str", "tuple", "list", "dict"]
def subTy (x y : String) : Bool := x == y || (x == "bool" && y == "int")
theorem subTy_ok : ∀ x ∈ allTy, ∀ y ∈ allTy, kitB x y = some (subTy x y) := by decide +kernel
def isaB (x y : Dt) : Option Bool := match tyN x, y with
  | some n, .op (.ty m) => if allTy.contains m = true then some (subTy n m) else none
  | _, _ => none
def isaL (x : Dt) : List Dt → Option Bool
  | [] => some false
  | y :: l => match isaB x y, isaL x l with
    | some a, some b => some (a || b)
    | _, _ => none
def dIsi : Dt → Dt → Option Dt
  | x, .tup l => match tyN x with
    | some _ => (isaL x l).map .bl
    | none => none
  | x, y => (isaB x y).map .bl
theorem tyX_of {K : Frag} {ω : Wo} {H : Hp} {cs : List Cell} {v : V} {d : Dt} {n : String} (k : Ok K ω H cs) (r : RepD K ω.Hs v d) (e : tyN d = some n) : TyX K H v (.type n) ∧ n ∈ allTy := by
  cases r with
  | non => cases e; exact ⟨.base .non, by decide⟩
  | bl b => cases e; exact ⟨.base (.bl b), by decide⟩
  | int b => cases e; exact ⟨.base (.int b), by decide⟩
  | str b => cases e; exact ⟨.base (.str b), by decide⟩
  | tup h1 h2 =>
    cases e
    refine ⟨?_, by decide⟩
    exact .base (.tup (ex_t k.ex h1).at_)
  | lst h1 h2 => cases e; exact ⟨.base (.lst (k.ex _ _ h1)), by decide⟩
  | dic h1 h2 => cases e; exact ⟨.base (.dK (k.ex _ _ h1)), by decide⟩
  | obj h1 hc h2 => cases e
  | op v => cases e
  | scr h1 => cases e
  | exn h1 => cases e
  | dit h1 => cases e
  | lam h1 h2 => cases e
theorem isaB_of {K : Frag} {ω : Wo} {H : Hp} {cs : List Cell} {v u : V} {x y : Dt} {b : Bool} (k : Ok K ω H cs) (r : RepD K ω.Hs v x) (r' : RepD K ω.Hs u y) (e : isaB x y = some b) : ∃ t c, ClsV u c ∧ TyX K H v t ∧ PySem.W.kitOne K t c = some b := by
  unfold isaB at e
  split at e
  · rename_i n m e1
    split at e
    · rename_i hm
      cases e
      obtain ⟨t1, t2⟩ := tyX_of k r e1
      cases r'
      exact ⟨_, _, .ty m, t1, kit_ty (subTy_ok n t2 m (by simpa using hm))⟩
    · cases e
  · cases e
theorem isaL_of {K : Frag} {ω : Wo} {H : Hp} {cs : List Cell} {v : V} {x : Dt} {n : String} (k : Ok K ω H cs) (r : RepD K ω.Hs v x) (en : tyN x = some n) : ∀ {us : List V} {ys : List Dt} {b : Bool}, RepL K ω.Hs us ys → isaL x ys = some b → ∃ cls, Paired ClsV us cls ∧ PySem.W.kitAny K (.type n) cls = some b
  | [], _, b, h, e => by cases h; cases e; exact ⟨[], .nil, rfl⟩
  | u :: us, _, b, h, e => by
    cases h with
    | @cons _ _ y ys h1 h2 =>
      have one : ∀ b', isaB x y = some b' → ∃ c, ClsV u c ∧ PySem.W.kitOne K (.type n) c = some b' := fun b' e' => by
        unfold isaB at e'
        rw [en] at e'
        split at e'
        · rename_i n' m e1
          cases e1
          split at e'
          · rename_i hm
            cases e'
            cases h1
            exact ⟨_, .ty m, kit_ty (subTy_ok n (tyX_of k r en).2 m (by simpa using hm))⟩
          · cases e'
        · cases e'
      unfold isaL at e
      split at e
      · rename_i b1 b2 hb hl
        cases e
        obtain ⟨c, c1, c2⟩ := one b1 hb
        obtain ⟨cls, q1, q2⟩ := isaL_of k r en h2 hl
        refine ⟨c :: cls, .cons c1 q1, kitAny_cons c2 (fun z => ?_) fun z => ?_⟩
        · subst z
          exact q2
        · subst z
          rfl
      · cases e
theorem call_isi3 : CallR X (.builtin "isinstance") (fun xs H Q => rIsi X.K xs H Q ∨ (rIsiT X.K xs H Q ∨ rIsiK X.K xs H Q)) := CallR.or call_isi (CallR.or call_isiT call_isiK)
theorem co_isi {K : Frag} : CallO K (fun xs H Q => rIsi K xs H Q ∨ (rIsiT K xs H Q ∨ rIsiK K xs H Q)) (o2 dIsi) := fun ω H cs vs ws z k rv e Q q => by
  obtain ⟨x, y, rfl, e1⟩ := o2_of e
  obtain ⟨v, u, rfl, r, r'⟩ := rv.two
  unfold dIsi at e1
  split at e1
  · rename_i l
    split at e1
    · rename_i n en
      cases hb : isaL x l with
      | none => rw [hb] at e1; cases e1
      | some b =>
        rw [hb] at e1
        cases e1
        cases r' with
        | tup h1 h2 =>
          obtain ⟨cls, q1, q2⟩ := isaL_of k r en h2 hb
          have ty := (tyX_of k r en).1
          have h := (ex_t k.ex h1).at_
          exact .inr (.inl ⟨v, _, _, _, cls, b, rfl, h, q1, ty, q2, q ω H _ (Le.refl _) k (.bl _)⟩)
    · cases e1
  · cases hb : isaB x y with
    | none => rw [hb] at e1; cases e1
    | some b =>
      rw [hb] at e1
      cases e1
      obtain ⟨t, c, c1, c2, c3⟩ := isaB_of k r r' hb
      exact .inl ⟨v, u, t, c, b, rfl, c1, c2, c3, q ω H _ (Le.refl _) k (.bl _)⟩
end
end DX
namespace DX
variable [TabT]
open PySem L2
def ItW (n : Nat) (Ys : Nat → List V → Prop) : It := ⟨fun i _ => i < n, fun i H x H' => ∃ T xs, x = .ref T ∧ H T = none ∧ H' = upd H T (.tup xs) ∧ Ys i xs, fun i _ => n ≤ i⟩
theorem turn_wt {P : Program} {w : World} {K : Frag} {elts : List Expr} {kk : Nat} {tpos : Pos} {I : Addr} {fp wr : List Addr} {n : Nat} {Pt : Nat → Array Value → Prop} {Sta : Nat → Heap → Prop} {Mid : Nat → Addr → Heap → Prop} {Ys : Nat → List V → Prop}
    (W : ∀ A : Around, A.handled = none → WalksT P w A I fp wr n Pt Sta Mid) (hI : I ∈ fp) (hobj : ∀ i h, Sta i h → ∀ b ∈ fp, ∃ o, h.get? b = some o ∧ ∀ v, o.data ≠ .cell v)
    (hself : ∀ (A : Around) (i : Nat) (s : Shared) (Q : Value → Shared → Prop) (E : Value → Shared → Prop), Sta i s.heap → Q (.ref I) s → wpAny (model P w) A (pyIter (.ref I)) Q E s) (hP : ∀ i vals, Pt i vals → ∃ xs us, vals = List.toArray us ∧ Vals xs us ∧ Ys i xs ∧ xs.length ≤ sizeLine) : Turn P w K (.Tuple elts kk tpos) (ItW n Ys) fp I (fun i h => Sta i h ∧ i ≤ n) where
  mem := hI
  obj := fun i h st => hobj i h st.1
  keep := fun i h h' st k => ⟨(W { } rfl).frame i h h' st.1 k, st.2⟩
  item := by
    intro X hPr hw hK hc i pins s σ H E J hf st hg
    subst hPr hw hK
    have WA := W X.A (J.ok.hd hc)
    refine WA.item i s _ _ hg st.1 fun T vals h' tk hPt hge hT hM hk => ?_
    refine ⟨_, rfl, WA.go elts kk tpos i T { s with heap := h', toks := tk } _ _ hM fun h'' st' hk' => ?_⟩
    obtain ⟨xs, us, e1, rv, hy, hz⟩ := hP i vals hPt
    obtain ⟨o, ho, oc, m, od⟩ := hT
    have hT2 : h''.get? T = some o := hk' T o (WA.apart i T _ hM) ho
    have new : ObjOk X.prog X.w (upd H T (.tup xs)) h'' T (.tup xs) := ⟨hz, us, rv, o, hT2, oc, m, by rw [od, e1]⟩
    have sub : ∀ b ∈ wr, b ∈ fp := WA.sub
    refine ⟨.ref T, _, J.turnedNew (t' := tk) (ch := wr) (fun b ob hb q => hk' b ob hb (hk b ob hb q)) (fun b hb => hf b (sub b hb)) hge new, rfl, ⟨T, xs, rfl, J.hok.fresh hge, rfl, hy⟩, ⟨st', hg⟩, fun b hb => ?_⟩
    obtain ⟨ob, q, _⟩ := hobj i _ st.1 b hb
    rw [upd_ne (Nat.ne_of_lt (Nat.lt_of_lt_of_le (Heap.lt_size q) hge))]
    exact (hf b hb).1
  done := by
    intro X hPr hw hK hc i pins s σ H E J hf st hg
    subst hPr hw hK
    have WA := W X.A (J.ok.hd hc)
    have e : i = n := Nat.le_antisymm st.2 hg
    subst e
    exact WA.done s _ _ st.1 fun h' tk hk => ⟨rfl, J.turnedL (ch := wr) (t' := tk) hk fun b hb => hf b (WA.sub b hb)⟩
  self := fun A i s Q E st h => hself A i s Q E st.1 h
def signY (z : Str) (i : Nat) (v : V) : Prop := ∃ c, z.cps[i]? = some c ∧ v = .str ⟨#[c]⟩
theorem striter_obj {h : Heap} {it : Addr} {ty : String} {x : Str} {t : Tok} {i : Nat} (st : h.IsStrIter it ty x t i) : ∃ o, h.get? it = some o ∧ ∀ v, o.data ≠ .cell v := by
  obtain ⟨o, ho, hc, hd⟩ := st
  exact ⟨o, ho, fun v z => by rw [hd] at z; cases z⟩
section
variable {X : Cx} {e e2 : Expr} {ta : TA} {p pos tpos : Pos} {elts : List Expr} {kk : Nat}
def iEnumS (ta : TA) : TI := fun σ H R => ta σ H fun vs H1 => ∃ z, vs = [V.str z] ∧ R (ItW z.cps.size fun i xs => ∃ v, signY z i v ∧ xs = [.int (i : Nat), v]) H1
theorem pi_enumS (hg : Gl X "enumerate") (hm : X.mg "enumerate" = none) (ha : PA X [e] ta) (hs : starEach [e] X.env = [(false, eval e X.env)] := by rfl) :
    PI X (.Tuple elts kk tpos) (.Call (.Name "enumerate" p) [e] [] pos) (iEnumS ta) := by
  refine ⟨fun pins s σ H R J h => PyProof.Rows.Call_ (ld_blt J hg hm PyProof.Rows.boot_enumerate (PyProof.Rows.callWith_type1 (thn (ha.run pos pins s σ H _ J h) fun us s1 q => ?_) hs rfl))⟩
  obtain ⟨vs, H1, J1, r1, z, ez, qR⟩ := q
  subst ez
  cases r1 with
  | cons r rr =>
    cases rr
    obtain ⟨t, rfl⟩ := r
    refine call_enumerate_str fun h' he hit hsz hk => wpAny_pyIter_enum he ?_
    have J2 : L2.Inv X pins σ H1 { s1 with heap := h' } := J1.kept (t' := s1.toks) hk
    have hne : s1.heap.objs.size + 1 ≠ s1.heap.objs.size := Nat.succ_ne_self _
    refine ⟨s1.heap.objs.size + 1, [s1.heap.objs.size + 1, s1.heap.objs.size], _, _, H1, rfl, J2, turn_wt (fun A hA => WalksT.enumerateD (Draws.text (A := A.in1) hA s1.heap.objs.size z t) (s1.heap.objs.size + 1) hne (by simpa using hne) (by simp)) (by simp) (fun i h st b hb => ?_) (fun A i s Q E st h => let ⟨⟨_, hq⟩, _⟩ := st; wpAny_pyIter_enum hq h) (fun i vals hp => ?_), ⟨⟨⟨.none, he⟩, hit⟩, Nat.zero_le _⟩, fun b hb => ?_, qR⟩
    · obtain ⟨⟨old, hq⟩, hs⟩ := st
      have e' : b = s1.heap.objs.size + 1 ∨ b = s1.heap.objs.size := by simpa using hb
      rcases e' with y | y <;> rw [y]
      · exact ⟨_, hq, fun v q => nomatch q⟩
      · exact striter_obj hs
    · obtain ⟨t', x, ⟨c, u, hc, rfl⟩, rfl⟩ := hp
      exact ⟨[.int (i : Nat), .str ⟨#[c]⟩], [.int i t', .str ⟨#[c]⟩ u], rfl, .cons ⟨_, rfl⟩ (.cons ⟨_, rfl⟩ .nil), ⟨_, ⟨c, hc, rfl⟩, rfl⟩, by show 2 ≤ sizeLine; decide⟩
    · have hle : s1.heap.objs.size ≤ b := by
        have e' : b = s1.heap.objs.size + 1 ∨ b = s1.heap.objs.size := by simpa using hb
        rcases e' with y | y <;> rw [y]
        · exact Nat.le_succ _
        · exact Nat.le_refl _
      exact J1.fpOk hle (J1.hok.fresh hle)
def iZipS (ta : TA) : TI := fun σ H R => ta σ H fun vs H1 => ∃ y z, vs = [V.str y, V.str z] ∧ R (ItW (min y.cps.size z.cps.size) fun i xs => ∃ u v, signY y i u ∧ signY z i v ∧ xs = [u, v]) H1
theorem pi_zipS (hg : Gl X "zip") (hm : X.mg "zip" = none) (ha : PA X [e, e2] ta)
    (hs : starEach [e, e2] X.env = (false, eval e X.env) :: starEach [e2] X.env := by rfl) (hpl : (backTo pos (starEach [e2] X.env)).any (·.1) = false := by rfl) :
    PI X (.Tuple elts kk tpos) (.Call (.Name "zip" p) [e, e2] [] pos) (iZipS ta) := by
  refine ⟨fun pins s σ H R J h => PyProof.Rows.Call_ (ld_blt J hg hm PyProof.Rows.boot_zip (PyProof.Rows.callWith_type1 (thn (ha.run pos pins s σ H _ J h) fun us s1 q => ?_) hs hpl))⟩
  obtain ⟨vs, H1, J1, r1, y, z, ez, qR⟩ := q
  subst ez
  cases r1 with
  | cons r rr =>
    cases rr with
    | cons r' rr =>
      cases rr
      obtain ⟨t, rfl⟩ := r
      obtain ⟨t', rfl⟩ := r'
      refine zip_begins2 (begins_text y t) (begins_text z t') trivial trivial fun h' hz hTI hTO h1 h2 hsz hk => wpAny_pyIter_zip hz ?_
      have J2 : L2.Inv X pins σ H1 { s1 with heap := h' } := J1.kept (t' := s1.toks) hk
      have S : ZipSep2 (s1.heap.objs.size + 4) (s1.heap.objs.size + 2) (s1.heap.objs.size + 3) s1.heap.objs.size (s1.heap.objs.size + 1) [s1.heap.objs.size] [s1.heap.objs.size + 1] := zip_sep2 (fun b hb => nomatch hb) fun b hb => nomatch hb
      refine ⟨s1.heap.objs.size + 4, _, _, _, H1, rfl, J2, turn_wt (fun A hA => WalksT.zipD2 S (Draws.text (A := A.in1) hA _ y t) (Draws.text (A := A.in1) hA _ z t')) (by simp) (fun i h st b hb => ?_) (fun A i s Q E st h => wpAny_pyIter_zip st.1 h) (fun i vals hp => ?_),
        ⟨⟨hz, hTI, ⟨_, _, hTO⟩, ⟨_, h1, rfl, rfl⟩, ⟨_, h2, rfl, rfl⟩⟩, Nat.zero_le _⟩, fun b hb => ?_, qR⟩
      · obtain ⟨q1, q2, ⟨_, _, q3⟩, q4, q5⟩ := st
        have e' : b = s1.heap.objs.size + 4 ∨ b = s1.heap.objs.size + 2 ∨ b = s1.heap.objs.size + 3 ∨ b = s1.heap.objs.size ∨ b = s1.heap.objs.size + 1 := by simpa using hb
        rcases e' with w | w | w | w | w <;> rw [w]
        · exact ⟨_, q1, fun v q => nomatch q⟩
        · exact ⟨_, q2, fun v q => nomatch q⟩
        · exact ⟨_, q3, fun v q => nomatch q⟩
        · exact striter_obj q4
        · exact striter_obj q5
      · obtain ⟨x1, x2, ⟨c, u, hc, rfl⟩, ⟨c', u', hc', rfl⟩, rfl⟩ := hp
        exact ⟨[.str ⟨#[c]⟩, .str ⟨#[c']⟩], [.str ⟨#[c]⟩ u, .str ⟨#[c']⟩ u'], rfl, .cons ⟨_, rfl⟩ (.cons ⟨_, rfl⟩ .nil), ⟨_, _, ⟨c, hc, rfl⟩, ⟨c', hc', rfl⟩, rfl⟩, by show 2 ≤ sizeLine; decide⟩
      · have hle : s1.heap.objs.size ≤ b := by
          have e' : b = s1.heap.objs.size + 4 ∨ b = s1.heap.objs.size + 2 ∨ b = s1.heap.objs.size + 3 ∨ b = s1.heap.objs.size ∨ b = s1.heap.objs.size + 1 := by simpa using hb
          rcases e' with w | w | w | w | w <;> rw [w]
          · exact Nat.le_add_right _ _
          · exact Nat.le_add_right _ _
          · exact Nat.le_add_right _ _
          · exact Nat.le_refl _
          · exact Nat.le_add_right _ _
        exact J1.fpOk hle (J1.hok.fresh hle)
end
def SqK (k : Bool) (K : Frag) (H : Hp) (a : Addr) (xs : List V) : Prop := match k with
  | true => SqL K H a xs
  | false => SqT K H a xs
def InK (k : Bool) (h : Heap) (a : Addr) (xs : Array Value) : Prop := match k with
  | true => h.IsList a xs
  | false => h.IsTuple a xs
def ItK (k : Bool) (h : Heap) (it a : Addr) (i : Nat) : Prop := match k with
  | true => h.IsListIter it a i
  | false => h.IsTupleIter it a i
def obK (k : Bool) (a : Addr) : Obj := match k with
  | true => { cls := .type "list_iterator", data := .fields #[.ref a, .int 0 0] }
  | false => { cls := .type "tuple_iterator", data := .fields #[.ref a, .int 0 0] }
theorem drawsK {P : Program} {w : World} {A : Around} (hh : A.handled = none) (k : Bool) (it a : Addr) (hne : a ≠ it) (xs : Array Value) : Draws P w A it [it, a] xs.size (fun i v => xs[i]? = some v) (fun i h => ItK k h it a i ∧ InK k h a xs) := by
  cases k with
  | true => exact Draws.list hh it a hne xs
  | false => exact Draws.tuple hh it a hne xs
theorem beginsK (k : Bool) (a : Addr) (xs : Array Value) : Begins (.ref a) (obK k a) fun h => InK k h a xs := by
  cases k with
  | true => exact begins_list a xs
  | false => exact begins_tuple a xs
theorem itK_of {k : Bool} {h : Heap} {it a : Addr} (e : h.get? it = some (obK k a)) : ItK k h it a 0 := by
  cases k <;> exact ⟨_, e, rfl, rfl⟩
theorem itK_obj {k : Bool} {h : Heap} {it a : Addr} {i : Nat} (st : ItK k h it a i) : ∃ o, h.get? it = some o ∧ ∀ v, o.data ≠ .cell v := by
  cases k <;> exact let ⟨o, e, _, d⟩ := st; ⟨o, e, fun v z => by rw [d] at z; cases z⟩
theorem itK_keep {k : Bool} {h h' : Heap} {it a : Addr} {i : Nat} (st : ItK k h it a i) (e : ∀ o, h.get? it = some o → h'.get? it = some o) : ItK k h' it a i := by
  cases k <;> exact let ⟨o, q, r⟩ := st; ⟨o, e o q, r⟩
theorem invK {X : Cx} {pins : List (Addr × Obj)} {σ : L2.St} {H : Hp} {s : Shared} {k : Bool} {a : Addr} {xs : List V} (J : L2.Inv X pins σ H s) (h : SqK k X.K H a xs) : ∃ us : List Value, Vals xs us ∧ InK k s.heap a us.toArray ∧ a < s.heap.objs.size := by
  cases k with
  | true =>
    obtain ⟨us, rv, p, _⟩ := J.list h
    exact ⟨us, rv, p.isList, p.lt⟩
  | false =>
    obtain ⟨us, rv, p, _⟩ := J.tuple h
    obtain ⟨o, ho, _⟩ := id p
    exact ⟨us, rv, p, Heap.lt_size ho⟩
def Itz2 (K : Frag) (k1 k2 : Bool) (a b : Addr) (xs ys : List V) : It :=
  ⟨fun i H => SqK k1 K H a xs ∧ SqK k2 K H b ys ∧ i < min xs.length ys.length, fun i H v H' => ∃ T x y, v = .ref T ∧ H T = none ∧ H' = upd H T (.tup [x, y]) ∧ xs[i]? = some x ∧ ys[i]? = some y, fun i H => SqK k1 K H a xs ∧ SqK k2 K H b ys ∧ i = min xs.length ys.length⟩
theorem turn_zipK {P : Program} {w : World} {K : Frag} {elts : List Expr} {kk : Nat} {tpos : Pos} {k1 k2 : Bool} {a b z TI TO i1 i2 : Addr} {xs ys : List V} (S : ZipSep2 z TI TO i1 i2 [i1, a] [i2, b]) (na : a ≠ i1) (nb : b ≠ i2) :
    Turn P w K (.Tuple elts kk tpos) (Itz2 K k1 k2 a b xs ys) [z, TI, TO, i1, i2] z (fun i h => IsZip h z TI TO .none ∧ IsTupOf2 h TI (.ref i1) (.ref i2) ∧ (∃ p q, IsTupOf2 h TO p q) ∧ ItK k1 h i1 a i ∧ ItK k2 h i2 b i) where
  mem := List.mem_cons_self
  obj := fun i h st c hc => by
    obtain ⟨q1, q2, ⟨_, _, q3⟩, q4, q5⟩ := st
    simp only [List.mem_cons, List.not_mem_nil, or_false] at hc
    rcases hc with e | e | e | e | e <;> rw [e]
    · exact ⟨_, q1, fun v y => nomatch y⟩
    · exact ⟨_, q2, fun v y => nomatch y⟩
    · exact ⟨_, q3, fun v y => nomatch y⟩
    · exact itK_obj q4
    · exact itK_obj q5
  keep := fun i h h' st e => by
    obtain ⟨q1, q2, ⟨p, q, q3⟩, q4, q5⟩ := st
    exact ⟨e z (by simp) _ q1, e TI (by simp) _ q2, ⟨p, q, e TO (by simp) _ q3⟩, itK_keep q4 fun o y => e i1 (by simp) o y, itK_keep q5 fun o y => e i2 (by simp) o y⟩
  item := by
    intro X hPr hw hK hc i pins s σ H E J hf st hg
    subst hPr hw hK
    obtain ⟨q1, q2, q3, q4, q5⟩ := st
    obtain ⟨g1, g2, hi⟩ := hg
    obtain ⟨us, rv, p1, _⟩ := invK J g1
    obtain ⟨us2, rv2, p2, _⟩ := invK J g2
    have hA : X.A.in1.handled = none := J.ok.hd hc
    have W := GoesN.zip2 (elts := elts) (x1 := kk) (pos := tpos) S (drawsK (P := X.prog) (w := X.w) hA k1 i1 a na us.toArray) (drawsK hA k2 i2 b nb us2.toArray)
    have s1 := rv.length
    have s2 := rv2.length
    refine W.goes i s _ _ (by simp only [List.size_toArray]; omega) ⟨q1, q2, q3, ⟨q4, p1⟩, ⟨q5, p2⟩⟩ fun v h' tk Y st' k htk => ?_
    obtain ⟨T, u, u2, rfl, hge, e1, e2, o, ho, oc, m, od⟩ := Y
    obtain ⟨t1, t2, t3, ⟨t4, _⟩, ⟨t5, _⟩⟩ := st'
    have b1 : i < xs.length := by omega
    have b2 : i < ys.length := by omega
    obtain ⟨v1, c1, r1⟩ := rv.get (List.getElem?_eq_getElem b1)
    obtain ⟨v2, c2, r2⟩ := rv2.get (List.getElem?_eq_getElem b2)
    have e1 : us[i]? = some u := by simpa using e1
    have e2 : us2[i]? = some u2 := by simpa using e2
    rw [c1] at e1
    rw [c2] at e2
    cases e1
    cases e2
    have new : ObjOk X.prog X.w (upd H T (.tup [xs[i], ys[i]])) h' T (.tup [xs[i], ys[i]]) := ⟨by show 2 ≤ sizeLine; decide, [u, u2], .cons r1 (.cons r2 .nil), o, ho, oc, m, od⟩
    refine ⟨.ref T, _, J.turnedNew (t' := tk) (ch := [z, TO, i1, i2]) k (fun c hc' => hf c (by simp only [List.mem_cons, List.not_mem_nil, or_false] at hc' ⊢; rcases hc' with y | y | y | y <;> simp [y])) hge new, rfl, ⟨T, xs[i], ys[i], rfl, J.hok.fresh hge, rfl, List.getElem?_eq_getElem b1, List.getElem?_eq_getElem b2⟩, ⟨t1, t2, t3, t4, t5⟩, fun c hc' => ?_⟩
    have old : c < s.heap.objs.size := by
      obtain ⟨_, _, q3⟩ := q3
      obtain ⟨_, q4, _⟩ := itK_obj q4
      obtain ⟨_, q5, _⟩ := itK_obj q5
      simp only [List.mem_cons, List.not_mem_nil, or_false] at hc'
      rcases hc' with y | y | y | y | y <;> rw [y]
      · exact Heap.lt_size q1
      · exact Heap.lt_size q2
      · exact Heap.lt_size q3
      · exact Heap.lt_size q4
      · exact Heap.lt_size q5
    rw [upd_ne (Nat.ne_of_lt (Nat.lt_of_lt_of_le old hge))]
    exact (hf c hc').1
  done := by
    intro X hPr hw hK hc i pins s σ H E J hf st hg
    subst hPr hw hK
    obtain ⟨q1, q2, q3, q4, q5⟩ := st
    obtain ⟨g1, g2, hi⟩ := hg
    obtain ⟨us, rv, p1, _⟩ := invK J g1
    obtain ⟨us2, rv2, p2, _⟩ := invK J g2
    have hA : X.A.in1.handled = none := J.ok.hd hc
    have W := GoesN.zip2 (elts := elts) (x1 := kk) (pos := tpos) S (drawsK (P := X.prog) (w := X.w) hA k1 i1 a na us.toArray) (drawsK hA k2 i2 b nb us2.toArray)
    have s1 := rv.length
    have s2 := rv2.length
    have ei : i = min us.toArray.size us2.toArray.size := by simp only [List.size_toArray]; omega
    subst ei
    exact wpAny_mono (W.stops s (fun s' => L2.Inv X pins σ H s') _ ⟨q1, q2, q3, ⟨q4, p1⟩, ⟨q5, p2⟩⟩ fun h' tk k _ => J.turnedL (ch := [z, TO, i1, i2]) (t' := tk) k fun c hc' => hf c (by simp only [List.mem_cons, List.not_mem_nil, or_false] at hc' ⊢; rcases hc' with y | y | y | y <;> simp [y])) (fun _ _ y => y) fun _ _ y => y
  self := fun A i s Q E st h => wpAny_pyIter_zip st.1 h
section
variable {X : Cx} {e e2 : Expr} {ta : TA} {p pos tpos : Pos} {elts : List Expr} {kk : Nat}
def iZipK (K : Frag) (ta : TA) : TI := fun σ H R => ta σ H fun vs H1 => ∃ k1 k2 a b xs ys, vs = [.ref a, .ref b] ∧ SqK k1 K H1 a xs ∧ SqK k2 K H1 b ys ∧ R (Itz2 K k1 k2 a b xs ys) H1
theorem pi_zipK (hg : Gl X "zip") (hm : X.mg "zip" = none) (ha : PA X [e, e2] ta)
    (hs : starEach [e, e2] X.env = (false, eval e X.env) :: starEach [e2] X.env := by rfl) (hpl : (backTo pos (starEach [e2] X.env)).any (·.1) = false := by rfl) :
    PI X (.Tuple elts kk tpos) (.Call (.Name "zip" p) [e, e2] [] pos) (iZipK X.K ta) := by
  refine ⟨fun pins s σ H R J h => PyProof.Rows.Call_ (ld_blt J hg hm PyProof.Rows.boot_zip (PyProof.Rows.callWith_type1 (thn (ha.run pos pins s σ H _ J h) fun us s1 q => ?_) hs hpl))⟩
  obtain ⟨vs, H1, J1, r1, k1, k2, a, b, xs, ys, ev, g1, g2, qR⟩ := q
  subst ev
  cases r1 with
  | cons r rr =>
    cases rr with
    | cons r' rr =>
      cases rr
      cases r
      cases r'
      obtain ⟨us, rv, p1, l1⟩ := invK J1 g1
      obtain ⟨us2, rv2, p2, l2⟩ := invK J1 g2
      refine zip_begins2 (beginsK k1 a us.toArray) (beginsK k2 b us2.toArray) p1 p2 fun h' hz hTI hTO h1 h2 hsz hk => wpAny_pyIter_zip hz ?_
      have J2 : L2.Inv X pins σ H1 { s1 with heap := h' } := J1.kept (t' := s1.toks) hk
      have S : ZipSep2 (s1.heap.objs.size + 4) (s1.heap.objs.size + 2) (s1.heap.objs.size + 3) s1.heap.objs.size (s1.heap.objs.size + 1) [s1.heap.objs.size, a] [s1.heap.objs.size + 1, b] := zip_sep2 (fun c hc => by rw [List.mem_singleton.mp hc]; exact l1) fun c hc => by rw [List.mem_singleton.mp hc]; exact l2
      refine ⟨s1.heap.objs.size + 4, _, _, _, H1, rfl, J2, turn_zipK (k1 := k1) (k2 := k2) (xs := xs) (ys := ys) S (Nat.ne_of_lt l1) (Nat.ne_of_lt (Nat.lt_succ_of_lt l2)), ⟨hz, hTI, ⟨_, _, hTO⟩, itK_of h1, itK_of h2⟩, fun c hc => ?_, qR⟩
      have hle : s1.heap.objs.size ≤ c := by
        simp only [List.mem_cons, List.not_mem_nil, or_false] at hc
        rcases hc with y | y | y | y | y <;> rw [y]
        · exact Nat.le_add_right _ _
        · exact Nat.le_add_right _ _
        · exact Nat.le_add_right _ _
        · exact Nat.le_refl _
        · exact Nat.le_add_right _ _
      exact J1.fpOk hle (J1.hok.fresh hle)
end
/-- as Le, whatever else is kept -/
structure Lf (ω ω' : Wo) : Prop where
  ex : Ex ω.Hs ω'.Hs
  ad : ω.ad <+: ω'.ad
  tb : ω'.T = ω.T
theorem Le.lf {ω ω' : Wo} (l : Le ω ω') : Lf ω ω' := ⟨l.ex, l.ad, l.tb⟩
structure WOk (K : Frag) (J : It) (ω : Wo) (ws : List Wv) : Prop where
  goes : ∀ i ω' H cs, i < ws.length → Lf ω ω' → Ok K ω' H cs → J.go i H
  stops : ∀ ω' H cs, Lf ω ω' → Ok K ω' H cs → J.stop ws.length H
  yields : ∀ i ω' H cs x H', i < ws.length → Lf ω ω' → Ok K ω' H cs → J.yld i H x H' → ∃ ω'', Le ω' ω'' ∧ Ok K ω'' H' cs ∧ ∃ w, ws[i]? = some w ∧ RepW K ω'' x w
abbrev EvI := En → M (List Wv)
def tEvI (K : Frag) (mg : MG) (E : XK) (f : EvI) : TI := fun σ H R => ∃ env cs ω, StRep K ω σ env ∧ Ok K ω H cs ∧ Out K mg E ω (f env cs) fun ws ω' _ H' => ∀ J, WOk K J ω' ws → R J H'
def EVI (X : Cx) (E : XK) (tg e : Expr) (f : EvI) : Prop := PI X tg e (tEvI X.K X.mg E f)
theorem PI.imp {X : Cx} {tg e : Expr} {t u : TI} (h : PI X tg e t) (i : ∀ σ H R, u σ H R → t σ H R) : PI X tg e u := ⟨fun pins s σ H R I q => h.run pins s σ H R I (i σ H R q)⟩
theorem PI.orr {X : Cx} {tg e : Expr} {t u : TI} (h : PI X tg e t) (g : PI X tg e u) : PI X tg e (fun σ H R => t σ H R ∨ u σ H R) := ⟨fun pins s σ H R I z => z.elim (h.run pins s σ H R I) (g.run pins s σ H R I)⟩
section
variable {K : Frag} {ω : Wo} {a b : Addr} {vs us : List V} {ds es : List Dt}
theorem wok_of {J : It} {n : Nat} {G : Hp → Prop} {Y : Nat → Hp → V → Hp → Prop} {ws : List Wv} (W : Walk J n G Y) (hn : ws.length = n) (hG : ∀ ω' H cs, Lf ω ω' → Ok K ω' H cs → G H)
    (hY : ∀ i ω' H cs x H', i < n → Lf ω ω' → Ok K ω' H cs → Y i H x H' → ∃ ω'', Le ω' ω'' ∧ Ok K ω'' H' cs ∧ ∃ w, ws[i]? = some w ∧ RepW K ω'' x w) : WOk K J ω ws := by
  subst hn
  exact ⟨fun i ω' H cs hi l k => W.goes i H hi (hG ω' H cs l k), fun ω' H cs l k => W.stops H (hG ω' H cs l k), fun i ω' H cs x H' hi l k y => hY i ω' H cs x H' hi l k (W.yields i H x H' hi (hG ω' H cs l k) y)⟩
theorem map_dat_get {ds : List Dt} {i : Nat} {d : Dt} (h : ds[i]? = some d) : (ds.map Wv.dat)[i]? = some (.dat d) := by simp [h]
theorem RepL.at {H : Hp} (r : RepL K H vs ds) {i : Nat} {x : V} (h : vs[i]? = some x) : ∃ d, ds[i]? = some d ∧ RepD K H x d := by
  have hi : i < ds.length := by
    rw [← r.len]
    exact (List.getElem?_eq_some_iff.mp h).1
  obtain ⟨v, e1, r1⟩ := r.get (List.getElem?_eq_getElem hi)
  rw [h] at e1
  cases e1
  exact ⟨_, List.getElem?_eq_getElem hi, r1⟩
theorem wok_list (h : ω.Hs a = some (.lst vs)) (r : RepL K ω.Hs vs ds) : WOk K (Itl K a) ω (ds.map .dat) :=
  wok_of walk_list (by simp [r.len]) (fun ω' H cs l k => SqL.of (k.ex _ _ (l.ex _ _ h))) fun i ω' H cs x H' hi l k y => by
    obtain ⟨rfl, y⟩ := y
    obtain ⟨d, e1, r1⟩ := r.at y
    exact ⟨ω', Le.refl _, k, _, map_dat_get e1, RepD.mono l.ex _ _ r1⟩
theorem wok_scr {ns : List Int} (h : SqL K ω.Hs a (ns.map V.int)) : WOk K (Itl K a) ω (ns.map fun i => .dat (.int i)) :=
  wok_of walk_list (by simp) (fun ω' H cs l k => ex_l k.ex (ex_l l.ex h)) fun i ω' H cs x H' hi l k y => by
    obtain ⟨rfl, y⟩ := y
    rw [List.getElem?_map] at y
    cases e : ns[i]? with
    | none => rw [e] at y; cases y
    | some z =>
      rw [e] at y
      cases y
      exact ⟨ω', Le.refl _, k, .dat (.int z), by simp [e], .int z⟩
theorem wok_tup (h : TupAt K ω.Hs a vs) (r : RepL K ω.Hs vs ds) : WOk K (Itt K a) ω (ds.map .dat) :=
  wok_of walk_tup (by simp [r.len]) (fun ω' H cs l k => (ex_t k.ex (ex_t l.ex h)).sq) fun i ω' H cs x H' hi l k y => by
    obtain ⟨rfl, y⟩ := y
    obtain ⟨d, e1, r1⟩ := r.at y
    exact ⟨ω', Le.refl _, k, _, map_dat_get e1, RepD.mono l.ex _ _ r1⟩
def signs (z : Str) : List Wv := z.cps.toList.map fun c => .dat (.str ⟨#[c]⟩)
theorem signs_get {z : Str} {i c : Nat} (h : z.cps[i]? = some c) : (signs z)[i]? = some (.dat (.str ⟨#[c]⟩)) := by
  unfold signs
  rw [List.getElem?_map, Array.getElem?_toList, h]
  rfl
theorem wok_str {z : Str} : WOk K (Its z) ω (signs z) :=
  wok_of walk_str (by simp [signs]) (fun _ _ _ _ _ => trivial) fun i ω' H cs x H' hi l k y => by
    obtain ⟨rfl, c, e1, rfl⟩ := y
    exact ⟨ω', Le.refl _, k, _, signs_get e1, RepD.str _⟩
def rangeW (lo : Int) (n : Nat) : List Wv := (List.range n).map fun (i : Nat) => .dat (.int (lo + i))
theorem wok_range {lo : Int} {n : Nat} : WOk K (Itr lo n) ω (rangeW lo n) :=
  wok_of walk_range (by simp [rangeW]) (fun _ _ _ _ _ => trivial) fun i ω' H cs x H' hi l k y => by
    obtain ⟨rfl, rfl⟩ := y
    exact ⟨ω', Le.refl _, k, .dat (.int (lo + (i : Nat))), by simp [rangeW, hi], RepD.int _⟩
/-- new pairs -/
theorem pair_use {ω' : Wo} {H : Hp} {cs : List Cell} {T : Addr} {xs : List V} {zs : List Dt} (k : Ok K ω' H cs) (hT : H T = none) (r : RepL K ω'.Hs xs zs) : ∃ ω'', Le ω' ω'' ∧ Ok K ω'' (upd H T (.tup xs)) cs ∧ RepW K ω'' (.ref T) (.dat (.tup zs)) :=
  ⟨ω'.froze T (.tup xs), Le.froze k hT, k.froze hT, rep_tup k hT r⟩
theorem RepL.two {H : Hp} {x y : V} {d e : Dt} (h1 : RepD K H x d) (h2 : RepD K H y e) : RepL K H [x, y] [d, e] := .cons h1 (.cons h2 .nil)
def enumW (ds : List Dt) : List Wv := ds.mapIdx fun i d => .dat (.tup [.int (i : Nat), d])
theorem wok_enum (h : ω.Hs a = some (.lst vs)) (r : RepL K ω.Hs vs ds) : WOk K (Ite K a) ω (enumW ds) :=
  wok_of (walk_enum (xs := vs)) (by simp [enumW, r.len]) (fun ω' H cs l k => SqL.of (k.ex _ _ (l.ex _ _ h))) fun i ω' H cs x H' hi l k y => by
    obtain ⟨T, x, z, rfl, hT, rfl, e1, e2⟩ := y
    cases e1
    obtain ⟨d, e3, r1⟩ := r.at e2
    obtain ⟨ω'', l1, k1, r2⟩ := pair_use k hT (RepL.two (RepD.int (i : Nat)) (RepD.mono l.ex _ _ r1))
    exact ⟨ω'', l1, k1, _, by simp [enumW, e3], r2⟩
def signD (z : Str) : List Dt := z.cps.toList.map fun c => .str ⟨#[c]⟩
theorem signD_get {z : Str} {i c : Nat} (h : z.cps[i]? = some c) : (signD z)[i]? = some (.str ⟨#[c]⟩) := by
  unfold signD
  rw [List.getElem?_map, Array.getElem?_toList, h]
  rfl
theorem wok_enumS {z : Str} : WOk K (ItW z.cps.size fun i xs => ∃ v, signY z i v ∧ xs = [.int (i : Nat), v]) ω (enumW (signD z)) := by
  have e : (enumW (signD z)).length = z.cps.size := by simp [enumW, signD]
  refine ⟨fun i ω' H cs hi l k => by rw [e] at hi; exact hi, fun ω' H cs l k => by rw [e]; exact Nat.le_refl _, fun i ω' H cs x H' hi l k y => ?_⟩
  obtain ⟨T, xs, rfl, hT, rfl, v, ⟨c, hc, rfl⟩, rfl⟩ := y
  obtain ⟨ω'', l1, k1, r2⟩ := pair_use k hT (RepL.two (RepD.int (i : Nat)) (RepD.str (⟨#[c]⟩ : Str)))
  exact ⟨ω'', l1, k1, _, by simp [enumW, signD_get hc], r2⟩
def zipW (ds es : List Dt) : List Wv := List.zipWith (fun d e => .dat (.tup [d, e])) ds es
theorem zipW_get {i : Nat} {d e : Dt} (h1 : ds[i]? = some d) (h2 : es[i]? = some e) : (zipW ds es)[i]? = some (.dat (.tup [d, e])) := by
  unfold zipW
  rw [List.getElem?_zipWith, h1, h2]
theorem wok_zipK {k1 k2 : Bool} (h : ∀ ω' H cs, Lf ω ω' → Ok K ω' H cs → SqK k1 K H a vs) (r : RepL K ω.Hs vs ds) (h' : ∀ ω' H cs, Lf ω ω' → Ok K ω' H cs → SqK k2 K H b us) (r' : RepL K ω.Hs us es) : WOk K (Itz2 K k1 k2 a b vs us) ω (zipW ds es) := by
  have e : (zipW ds es).length = min vs.length us.length := by simp [zipW, r.len, r'.len]
  refine ⟨fun i ω' H cs hi l k => ?_, fun ω' H cs l k => ?_, fun i ω' H cs x H' hi l k y => ?_⟩
  · rw [e] at hi
    exact ⟨h _ _ _ l k, h' _ _ _ l k, hi⟩
  · rw [e]
    exact ⟨h _ _ _ l k, h' _ _ _ l k, rfl⟩
  · obtain ⟨T, x, z, rfl, hT, rfl, e1, e2⟩ := y
    obtain ⟨d, e3, r1⟩ := r.at e1
    obtain ⟨e, e4, r2⟩ := r'.at e2
    obtain ⟨ω'', l1, k1, r3⟩ := pair_use k hT (RepL.two (RepD.mono l.ex _ _ r1) (RepD.mono l.ex _ _ r2))
    exact ⟨ω'', l1, k1, _, zipW_get e3 e4, r3⟩
theorem wok_zipS {y z : Str} : WOk K (ItW (min y.cps.size z.cps.size) fun i xs => ∃ u v, signY y i u ∧ signY z i v ∧ xs = [u, v]) ω (zipW (signD y) (signD z)) := by
  have e : (zipW (signD y) (signD z)).length = min y.cps.size z.cps.size := by simp [zipW, signD]
  refine ⟨fun i ω' H cs hi l k => by rw [e] at hi; exact hi, fun ω' H cs l k => by rw [e]; exact Nat.le_refl _, fun i ω' H cs x H' hi l k q => ?_⟩
  obtain ⟨T, xs, rfl, hT, rfl, u, v, ⟨c, hc, rfl⟩, ⟨c', hc', rfl⟩, rfl⟩ := q
  obtain ⟨ω'', l1, k1, r2⟩ := pair_use k hT (RepL.two (RepD.str (⟨#[c]⟩ : Str)) (RepD.str (⟨#[c']⟩ : Str)))
  exact ⟨ω'', l1, k1, _, zipW_get (signD_get hc) (signD_get hc'), r2⟩
end
section
variable {X : Cx} {E : XK} {tg e e2 : Expr} {f : Ev} {g : EvA} {p pos tpos : Pos} {elts : List Expr} {kk : Nat}
def asSeq : Wv → M (List Wv)
  | .dat (.lst l) => M.ret (l.map .dat)
  | .dat (.tup l) => M.ret (l.map .dat)
  | .dat (.str s) => M.ret (signs s)
  | .dat (.scr l) => M.ret (l.map fun i => .dat (.int i))
  | _ => M.bad
def iSeq (f : Ev) : EvI := fun env => M.bind (f env) asSeq
def kindS : Wv → Nat
  | .dat (.lst _) => 0
  | .dat (.scr _) => 0
  | .dat (.tup _) => 1
  | _ => 2
def kindR : R Wv → Nat
  | .ok w _ => kindS w
  | _ => 0
theorem ei_seq (ha : EV X E e f) : EVI X E tg e (iSeq f) :=
  PI.imp (PI.orr (pi_list ha) (PI.orr (pi_tup ha) (pi_str ha))) fun σ H R ⟨env, cs, ω, hs, hk, h⟩ => by
    have hb := h.bind
    have key : ∀ (kd : Nat), kindR (f env cs) = kd → ∀ {w cs1}, f env cs = .ok w cs1 → kindS w = kd := fun kd q w cs1 e => by
      rw [e] at q
      exact q
    match hkd : kindR (f env cs) with
    | 0 =>
      refine .inl ⟨env, cs, ω, hs, hk, hb.impE fun w ω1 cs1 H1 e1 l1 k1 h1 v rv => ?_⟩
      have q := key 0 hkd e1
      cases w with
      | cel k => cases q
      | dat d =>
        cases d with
        | lst l =>
          cases (show RepD X.K ω1.Hs v (.lst l) from rv) with
          | lst h2 h3 => exact ⟨_, rfl, ⟨_, SqL.of (k1.ex _ _ h2)⟩, h1.now k1 _ (wok_list h2 h3)⟩
        | scr l =>
          cases (show RepD X.K ω1.Hs v (.scr l) from rv) with
          | scr h2 => exact ⟨_, rfl, ⟨_, ex_l k1.ex h2⟩, h1.now k1 _ (wok_scr h2)⟩
        | _ => cases q
    | 1 =>
      refine .inr (.inl ⟨env, cs, ω, hs, hk, hb.impE fun w ω1 cs1 H1 e1 l1 k1 h1 v rv => ?_⟩)
      have q := key 1 hkd e1
      cases w with
      | cel k => cases q
      | dat d =>
        cases d with
        | tup l =>
          cases (show RepD X.K ω1.Hs v (.tup l) from rv) with
          | tup h2 h3 => exact ⟨_, rfl, ⟨_, (ex_t k1.ex h2).sq⟩, h1.now k1 _ (wok_tup h2 h3)⟩
        | _ => cases q
    | n + 2 =>
      refine .inr (.inr ⟨env, cs, ω, hs, hk, hb.impE fun w ω1 cs1 H1 e1 l1 k1 h1 v rv => ?_⟩)
      have q := key (n + 2) hkd e1
      cases w with
      | cel k => exact (show False from h1).elim
      | dat d =>
        cases d with
        | str s =>
          cases (show RepD X.K ω1.Hs v (.str s) from rv)
          exact ⟨s, rfl, h1.now k1 _ wok_str⟩
        | lst l => cases q
        | tup l => cases q
        | scr l => cases q
        | _ => exact (show False from h1).elim
def okR (i : Int) : Bool := decide (-4611686018427387904 ≤ i) && decide (i < 4611686018427387904)
theorem okR_of {i : Int} (h : okR i = true) : -(2 ^ 62) ≤ i ∧ i < 2 ^ 62 := by
  unfold okR at h
  simp only [Bool.and_eq_true, decide_eq_true_eq] at h
  exact ⟨by omega, by omega⟩
def asR1 : List Wv → M (List Wv)
  | [.dat (.int j)] => if okR j = true then M.ret (rangeW 0 j.toNat) else M.bad
  | _ => M.bad
def asR2 : List Wv → M (List Wv)
  | [.dat (.int i), .dat (.int j)] => if (okR i && okR j) = true then M.ret (rangeW i (j - i).toNat) else M.bad
  | _ => M.bad
def iRg1 (g : EvA) : EvI := fun env => M.bind (g env) asR1
def iRg2 (g : EvA) : EvI := fun env => M.bind (g env) asR2
theorem ei_range1 (hg : Gl X "range") (hm : X.mg "range" = none) (ha : EVA X E [e] g) (hs : starEach [e] X.env = [(false, eval e X.env)] := by rfl) : EVI X E tg (.Call (.Name "range" p) [e] [] pos) (iRg1 g) :=
  PI.imp (pi_range1 hg hm ha hs) fun σ H R ⟨env, cs, ω, hs, hk, h⟩ => ⟨env, cs, ω, hs, hk, h.bind.imp fun ws ω1 cs1 H1 l1 k1 h1 vs rv => by
    unfold asR1 at h1
    split at h1
    · obtain ⟨v, rfl, r⟩ := rv.one
      cases r
      split at h1
      · rename_i j hj
        exact ⟨_, rfl, (okR_of hj).1, (okR_of hj).2, h1.now k1 _ wok_range⟩
      · exact (show False from h1).elim
    · exact (show False from h1).elim⟩
def asEnum : List Wv → M (List Wv)
  | [.dat (.lst l)] => M.ret (enumW l)
  | [.dat (.str s)] => M.ret (enumW (signD s))
  | _ => M.bad
def asZip : List Wv → M (List Wv)
  | [.dat (.lst l), .dat (.lst m)] => M.ret (zipW l m)
  | [.dat (.tup l), .dat (.tup m)] => M.ret (zipW l m)
  | [.dat (.lst l), .dat (.tup m)] => M.ret (zipW l m)
  | [.dat (.tup l), .dat (.lst m)] => M.ret (zipW l m)
  | [.dat (.str l), .dat (.str m)] => M.ret (zipW (signD l) (signD m))
  | _ => M.bad
def iEnumE (g : EvA) : EvI := fun env => M.bind (g env) asEnum
def iZipE (g : EvA) : EvI := fun env => M.bind (g env) asZip
def fstStr : List Wv → Bool
  | .dat (.str _) :: _ => true
  | _ => false
def fstStrR : R (List Wv) → Bool
  | .ok w _ => fstStr w
  | _ => false
theorem ei_enum (hg : Gl X "enumerate") (hm : X.mg "enumerate" = none) (ha : EVA X E [e] g) (hs : starEach [e] X.env = [(false, eval e X.env)] := by rfl) : EVI X E (.Tuple elts kk tpos) (.Call (.Name "enumerate" p) [e] [] pos) (iEnumE g) :=
  PI.imp (PI.orr (pi_enum hg hm ha hs) (pi_enumS hg hm ha hs)) fun σ H R ⟨env, cs, ω, hs, hk, h⟩ => by
    have hb := h.bind
    cases hkd : fstStrR (g env cs) with
    | false =>
      refine .inl ⟨env, cs, ω, hs, hk, hb.impE fun ws ω1 cs1 H1 e1 l1 k1 h1 vs rv => ?_⟩
      rw [e1] at hkd
      unfold asEnum at h1
      split at h1
      · obtain ⟨v, rfl, r⟩ := rv.one
        cases r with
        | lst h2 h3 => exact ⟨_, _, rfl, SqL.of (k1.ex _ _ h2), h1.now k1 _ (wok_enum h2 h3)⟩
      · cases hkd
      · exact (show False from h1).elim
    | true =>
      refine .inr ⟨env, cs, ω, hs, hk, hb.impE fun ws ω1 cs1 H1 e1 l1 k1 h1 vs rv => ?_⟩
      rw [e1] at hkd
      unfold asEnum at h1
      split at h1
      · cases hkd
      · obtain ⟨v, rfl, r⟩ := rv.one
        cases r
        exact ⟨_, rfl, h1.now k1 _ wok_enumS⟩
      · exact (show False from h1).elim
theorem ei_zip (hg : Gl X "zip") (hm : X.mg "zip" = none) (ha : EVA X E [e, e2] g) (hs : starEach [e, e2] X.env = (false, eval e X.env) :: starEach [e2] X.env := by rfl) (hpl : (backTo pos (starEach [e2] X.env)).any (·.1) = false := by rfl) :
    EVI X E (.Tuple elts kk tpos) (.Call (.Name "zip" p) [e, e2] [] pos) (iZipE g) :=
  PI.imp (PI.orr (pi_zipK hg hm ha hs hpl) (pi_zipS hg hm ha hs hpl)) fun σ H R ⟨env, cs, ω, hs, hk, h⟩ => by
    have hb := h.bind
    cases hkd : fstStrR (g env cs) with
    | false =>
      refine .inl ⟨env, cs, ω, hs, hk, hb.impE fun ws ω1 cs1 H1 e1 l1 k1 h1 vs rv => ?_⟩
      rw [e1] at hkd
      unfold asZip at h1
      split at h1
      · obtain ⟨v, u, rfl, r, r'⟩ := rv.two
        cases r with
        | lst h2 h3 =>
          cases r' with
          | lst h4 h5 => exact ⟨true, true, _, _, _, _, rfl, SqL.of (k1.ex _ _ h2), SqL.of (k1.ex _ _ h4), h1.now k1 _ (wok_zipK (fun _ _ _ l k => SqL.of (k.ex _ _ (l.ex _ _ h2))) h3 (fun _ _ _ l k => SqL.of (k.ex _ _ (l.ex _ _ h4))) h5)⟩
      · obtain ⟨v, u, rfl, r, r'⟩ := rv.two
        cases r with
        | tup h2 h3 =>
          cases r' with
          | tup h4 h5 => exact ⟨false, false, _, _, _, _, rfl, (ex_t k1.ex h2).sq, (ex_t k1.ex h4).sq, h1.now k1 _ (wok_zipK (fun _ _ _ l k => (ex_t k.ex (ex_t l.ex h2)).sq) h3 (fun _ _ _ l k => (ex_t k.ex (ex_t l.ex h4)).sq) h5)⟩
      · obtain ⟨v, u, rfl, r, r'⟩ := rv.two
        cases r with
        | lst h2 h3 =>
          cases r' with
          | tup h4 h5 => exact ⟨true, false, _, _, _, _, rfl, SqL.of (k1.ex _ _ h2), (ex_t k1.ex h4).sq, h1.now k1 _ (wok_zipK (fun _ _ _ l k => SqL.of (k.ex _ _ (l.ex _ _ h2))) h3 (fun _ _ _ l k => (ex_t k.ex (ex_t l.ex h4)).sq) h5)⟩
      · obtain ⟨v, u, rfl, r, r'⟩ := rv.two
        cases r with
        | tup h2 h3 =>
          cases r' with
          | lst h4 h5 => exact ⟨false, true, _, _, _, _, rfl, (ex_t k1.ex h2).sq, SqL.of (k1.ex _ _ h4), h1.now k1 _ (wok_zipK (fun _ _ _ l k => (ex_t k.ex (ex_t l.ex h2)).sq) h3 (fun _ _ _ l k => SqL.of (k.ex _ _ (l.ex _ _ h4))) h5)⟩
      · cases hkd
      · exact (show False from h1).elim
    | true =>
      refine .inr ⟨env, cs, ω, hs, hk, hb.impE fun ws ω1 cs1 H1 e1 l1 k1 h1 vs rv => ?_⟩
      rw [e1] at hkd
      unfold asZip at h1
      split at h1
      · cases hkd
      · cases hkd
      · cases hkd
      · cases hkd
      · obtain ⟨v, u, rfl, r, r'⟩ := rv.two
        cases r; cases r'
        exact ⟨_, _, rfl, h1.now k1 _ wok_zipS⟩
      · exact (show False from h1).elim
end
end DX
namespace DX
variable [TabT]
open PySem L2
section
variable {X : Cx} {E : XK} {tg e : Expr} {pos : Pos}
abbrev Tg := Wv → En → Option En
abbrev Tgs := List Dt → En → Option En
/-- alike but at the slots ts -/
def Agr (ts : List Nat) (σ σ' : L2.St) : Prop := σ'.length = σ.length ∧ ∀ i, i ∉ ts → σ'[i]? = σ[i]?
def tEvG (K : Frag) (t : Tg) (ts : List Nat) : TG := fun v σ H Q => ∃ env cs ω w env', StRep K ω σ env ∧ Ok K ω H cs ∧ RepW K ω v w ∧ t w env = some env' ∧ ∀ σ', StRep K ω σ' env' → Agr ts σ σ' → Q σ' H
def tEvGs (K : Frag) (t : Tgs) (ts : List Nat) : TGs := fun vs σ H Q => ∃ env cs ω ds env', StRep K ω σ env ∧ Ok K ω H cs ∧ RepL K ω.Hs vs ds ∧ t ds env = some env' ∧ ∀ σ', StRep K ω σ' env' → Agr ts σ σ' → Q σ' H
def GV (X : Cx) (tg : Expr) (t : Tg) (ts : List Nat) : Prop := PG X tg (tEvG X.K t ts)
def GVs (X : Cx) (es : List Expr) (t : Tgs) (ts : List Nat) : Prop := PGs X es (tEvGs X.K t ts)
theorem PG.imp {t u : TG} (h : PG X tg t) (i : ∀ v σ H Q, u v σ H Q → t v σ H Q) : PG X tg u := ⟨fun pins s σ H v w Q I r q => h.run pins s σ H v w Q I r (i v σ H Q q)⟩
theorem PGs.imp {es : List Expr} {t u : TGs} (h : PGs X es t) (i : ∀ v σ H Q, u v σ H Q → t v σ H Q) : PGs X es u := ⟨fun pins s σ H v w Q I r q => h.run pins s σ H v w Q I r (i v σ H Q q)⟩
def tName (i : Nat) : Tg := fun w env => some (env.set i (some w))
theorem gv_name {i : Nat} {x : Str} (hN : X.N.Nodup) (hi : X.N[i]? = some x) (hx : Loc X.env.scope x) (hf : X.fn x = true ∨ X.env.scope.names.lookup x = some .local := by first | exact .inl rfl | exact .inr rfl | assumption) : GV X (.Name x pos) (tName i) [i] :=
  PG.imp (pg_name hN hi hx hf) fun v σ H Q ⟨env, cs, ω, w, env', hs, hk, hr, e, q⟩ => by
    cases e
    exact q _ (hs.set i hr) ⟨by simp, fun j hj => List.getElem?_set_ne (fun z => hj (by simp [z]))⟩
def tgNil : Tgs := fun ds env => match ds with
  | [] => some env
  | _ => none
def tgCons (t : Tg) (u : Tgs) : Tgs := fun ds env => match ds with
  | d :: ds => (t (.dat d) env).bind fun env' => u ds env'
  | [] => none
theorem gvs_nil : GVs X [] tgNil [] := PGs.imp pgs_nil fun v σ H Q ⟨env, cs, ω, ds, env', hs, hk, hr, e, q⟩ => by
  cases ds with
  | nil =>
    cases hr
    cases e
    exact ⟨rfl, q σ hs ⟨rfl, fun _ _ => rfl⟩⟩
  | cons _ _ => cases e
theorem gvs_cons {es : List Expr} {t : Tg} {u : Tgs} {ts us : List Nat} (h1 : GV X e t ts) (h2 : GVs X es u us) (hs : (assignEach (e :: es) X.env).map (·.2) = assign e X.env :: (assignEach es X.env).map (·.2) := by rfl) : GVs X (e :: es) (tgCons t u) (ts ++ us) :=
  PGs.imp (pgs_cons h1 h2 hs) fun v σ H Q ⟨env, cs, ω, ds, env', hs, hk, hr, e, q⟩ => by
    cases ds with
    | nil => cases e
    | cons d ds =>
      cases hr with
      | cons r1 r2 =>
        have e : (t (.dat d) env).bind (fun env' => u ds env') = some env' := e
        cases e1 : t (.dat d) env with
        | none => rw [e1] at e; cases e
        | some env1 =>
          rw [e1] at e
          exact ⟨_, _, rfl, env, cs, ω, .dat d, env1, hs, hk, r1, e1, fun σ1 hs1 a1 => ⟨env1, cs, ω, ds, env', hs1, hk, r2, e, fun σ2 hs2 a2 => q σ2 hs2 ⟨a2.1.trans a1.1, fun i hi => (a2.2 i fun z => hi (List.mem_append_right _ z)).trans (a1.2 i fun z => hi (List.mem_append_left _ z))⟩⟩⟩
def tTupG (n : Nat) (u : Tgs) : Tg := fun w env => match w with
  | .dat (.tup ds) => if ds.length = n then u ds env else none
  | _ => none
theorem gv_tup {es : List Expr} {k : Nat} {u : Tgs} {n : Nat} {ts : List Nat} (hc : X.calm = true) (h : GVs X es u ts) (hn : (assignEach es X.env).length = n := by rfl) (hst : (assignEach es X.env).findIdx? (·.1) = none := by rfl) : GV X (.Tuple es k pos) (tTupG n u) ts :=
  PG.imp (pg_tup hc h hn hst) fun v σ H Q ⟨env, cs, ω, w, env', hs, hk, hr, e, q⟩ => by
    cases w with
    | cel j => cases e
    | dat d =>
      cases d with
      | tup ds =>
        have e : (if ds.length = n then u ds env else none) = some env' := e
        split at e
        · rename_i hl
          cases (show RepD X.K ω.Hs v (.tup ds) from hr) with
          | tup h1 h2 => exact ⟨_, _, rfl, (ex_t hk.ex h1).sq, h2.len.trans hl, env, cs, ω, ds, env', hs, hk, h2, e, q⟩
        · cases e
      | _ => cases e
def wipeE (env : En) : List Nat → En
  | [] => env
  | v :: vs => (wipeE env vs).set v none
theorem StRep.wipe {K : Frag} {ω : Wo} {σ : St} {env : En} (h : StRep K ω σ env) : ∀ vs : List Nat, StRep K ω (wipe σ vs) (wipeE env vs)
  | [] => h
  | v :: vs => by
    have ih := StRep.wipe h vs
    refine ⟨by simp [L2.wipe, wipeE, ih.len], fun i w e => ?_⟩
    unfold wipeE at e
    unfold L2.wipe
    by_cases hv : v = i
    · subst hv
      by_cases hl : v < (wipeE env vs).length
      · rw [List.getElem?_set_self hl] at e; cases e
      · rw [List.getElem?_eq_none (by simpa using hl)] at e; cases e
    · rw [List.getElem?_set_ne hv] at e ⊢
      exact ih.get i w e
/-- what raises is of no use within a comprehension -/
def M.nx {α : Type} (m : M α) : M α := fun cs => match m cs with
  | .ok a cs' => .ok a cs'
  | _ => .bad
theorem Out.nx {K : Frag} {mg : MG} {α : Type} {ω : Wo} {m : M α} {cs : List Cell} {F : α → Wo → List Cell → Hp → Prop} (h : Out K mg E ω (M.nx m cs) F) : Out K mg E0 ω (m cs) F := by
  unfold M.nx at h
  cases e : m cs with
  | ok a cs' => rw [e] at h; exact h
  | exc x cs' => rw [e] at h; exact (show False from h).elim
  | bad => rw [e] at h; exact (show False from h).elim
def loopC (t : Tg) (p : EvT) (f : Ev) (env : En) : List Wv → M (List Wv)
  | [] => M.ret []
  | w :: ws => M.bind (M.opt (t w env)) fun env' => M.bind (M.nx (p env')) fun b => if b = true then M.bind (M.nx (f env')) fun y => M.bind (loopC t p f env ws) fun ys => M.ret (y :: ys) else loopC t p f env ws
def fLc (g : EvI) (t : Tg) (p : EvT) (f : Ev) (vs : List Nat) : EvF := fun env => M.bind (g env) fun ws => if szOk ws.length = true then loopC t p f (wipeE env vs) ws else M.bad
def EVTs (X : Cx) (E : XK) (ifs : List Expr) (f : EvT) : Prop := PTs X ifs (tEvT X.K X.mg E f)
theorem PTs.imp {ifs : List Expr} {t u : TT} (h : PTs X ifs t) (i : ∀ σ H Q, u σ H Q → t σ H Q) : PTs X ifs u := ⟨fun pins s σ H Q I q => h.run pins s σ H Q I (i σ H Q q)⟩
def tYesE : EvT := fun _ => M.ret true
theorem ets_nil : EVTs X E [] tYesE := PTs.imp pts_nil fun σ H Q ⟨env, cs, ω, hs, hk, h⟩ => h.now hk
theorem ets_one {c : Expr} {p : EvT} (h : EVT X E c p) : EVTs X E [c] p := pts_one h
/-- the world with one more object that stays -/
def Wo.keep (ω : Wo) (p : Addr) (o : HO) : Wo := ⟨ω.Hs, ω.ad, ω.T, upd ω.fr p o⟩
def Wo.back (ω : Wo) (fr : Hp) : Wo := ⟨ω.Hs, ω.ad, ω.T, fr⟩
theorem RepW.fr {K : Frag} {ω : Wo} {v : V} {w : Wv} (r : RepW K ω v w) (fr : Hp) : RepW K (ω.back fr) v w := by cases w <;> exact r
theorem RepWs.fr {K : Frag} {ω : Wo} {vs : List V} {ws : List Wv} (r : RepWs K ω vs ws) (fr : Hp) : RepWs K (ω.back fr) vs ws := by
  induction r with
  | nil => exact .nil
  | cons h1 _ ih => exact .cons (h1.fr fr) ih
theorem RepWk.fr {K : Frag} {ω : Wo} {vs : List (Key × V)} {ws : List (Key × Wv)} (r : RepWk K ω vs ws) (fr : Hp) : RepWk K (ω.back fr) vs ws := by
  induction r with
  | nil => exact .nil
  | cons h1 _ ih => exact .cons (h1.fr fr) ih
theorem RepWt.fr {K : Frag} {ω : Wo} {vs : List (List Key × V)} {ws : List (List Key × Wv)} (r : RepWt K ω vs ws) (fr : Hp) : RepWt K (ω.back fr) vs ws := by
  induction r with
  | nil => exact .nil
  | cons h1 _ ih => exact .cons (h1.fr fr) ih
theorem RepWf.fr {K : Frag} {ω : Wo} {vs : List (Str × V)} {ws : List (Str × Wv)} (r : RepWf K ω vs ws) (fr : Hp) : RepWf K (ω.back fr) vs ws := by
  induction r with
  | nil => exact .nil
  | cons h1 _ ih => exact .cons (h1.fr fr) ih
theorem StRep.fr {K : Frag} {ω : Wo} {σ : St} {env : En} (h : StRep K ω σ env) (fr : Hp) : StRep K (ω.back fr) σ env := ⟨h.len, fun i w e => let ⟨v, e1, r⟩ := h.get i w e; ⟨v, e1, r.fr fr⟩⟩
theorem wipe_get {σ : L2.St} {i : Nat} : ∀ {vs : List Nat}, i ∈ vs → i < σ.length → (L2.wipe σ vs)[i]? = some none
  | [], h, _ => absurd h (by simp)
  | v :: vs, h, hl => by
    unfold L2.wipe
    by_cases hv : v = i
    · subst hv
      exact List.getElem?_set_self (by rw [L2.wipe_length]; exact hl)
    · rw [List.getElem?_set_ne hv]
      exact wipe_get ((List.mem_cons.mp h).resolve_left (Ne.symm hv)) hl
theorem wipe_agr {σ σ' : L2.St} {ts vs : List Nat} (a : Agr ts (L2.wipe σ vs) σ') (h : ∀ i ∈ ts, i ∈ vs) : L2.wipe σ' vs = L2.wipe σ vs := by
  have hl : σ'.length = σ.length := a.1.trans (L2.wipe_length _ _)
  apply List.ext_getElem?
  intro i
  by_cases hi : i ∈ vs
  · by_cases hlt : i < σ.length
    · rw [wipe_get hi hlt, wipe_get hi (by rw [hl]; exact hlt)]
    · rw [List.getElem?_eq_none (by rw [L2.wipe_length, hl]; omega), List.getElem?_eq_none (by rw [L2.wipe_length]; omega)]
  · rw [L2.wipe_out hi]
    exact a.2 i fun z => hi (h i z)
section
variable {K : Frag} {mg : MG} {ω ω2 : Wo} {H : Hp} {cs : List Cell} {p : Addr} {o o' : HO} {fr0 : Hp}
theorem Ok.keep (k : Ok K ω H cs) (hp : H p = none) (hpl : FrO o := by exact True.intro) : Ok K (ω.keep p o) (upd H p o) cs := by
  refine ⟨k.ex.out (k.ex.back hp), k.len, k.nd, fun i a c e1 e2 => ?_, k.tab.ext (Ex.new hp), k.frx.both, fun a u e => ?_, k.nt, fun a u e => ?_, fun a oo vs e => Ex.new hp _ _ (k.lk a oo vs e)⟩
  · have q := k.cel i a c e1 e2
    obtain ⟨u, hu⟩ := k.there (List.mem_of_getElem? e1)
    have ne : a ≠ p := ne_of_none hu hp
    cases c with
    | lst ws => obtain ⟨⟨h0, h3⟩, vs, h1, h2⟩ := q; exact ⟨⟨h0, by show upd _ _ _ a = none; rw [upd_ne ne]; exact h3⟩, vs, by rw [upd_ne ne]; exact h1, h2.fr _⟩
    | dic ws =>
      obtain ⟨⟨h0, h3⟩, vs, h1, h2⟩ := q
      refine ⟨⟨h0, by show upd _ _ _ a = none; rw [upd_ne ne]; exact h3⟩, vs, by rw [upd_ne ne]; exact h1, ?_⟩
      exact RepWk.fr h2 _
    | ins C ws =>
      obtain ⟨⟨⟨h0, h3⟩, hc⟩, dx, vs, h1, h2⟩ := q
      refine ⟨⟨⟨h0, by show upd _ _ _ a = none; rw [upd_ne ne]; exact h3⟩, hc⟩, dx, vs, by rw [upd_ne ne]; exact h1, ?_⟩
      exact RepWf.fr h2 _
    | dead => exact q
    | lck ws =>
      obtain ⟨⟨h0, h3⟩, oo, vs, ht, h1, h2⟩ := q
      refine ⟨⟨h0, by show upd _ _ _ a = none; rw [upd_ne ne]; exact h3⟩, oo, vs, ht, by rw [upd_ne ne]; exact h1, ?_⟩
      exact RepWk.fr h2 _
    | dit b ws =>
      obtain ⟨⟨h0, h3⟩, vs, h1, h2⟩ := q
      exact ⟨⟨h0, by show upd _ _ _ a = none; rw [upd_ne ne]; exact h3⟩, vs, h1.mono (fun _ z => z) (fun u z => by rw [upd_ne ne]; exact z), RepWt.fr h2 _⟩
  · by_cases h : a = p
    · rw [h]
      exact k.ex.back hp
    · have e : upd ω.fr p o a = some u := e
      rw [upd_ne h] at e
      exact k.dj a u e
  · have e : upd ω.fr p o a = some u := e
    by_cases h : a = p
    · rw [h, upd_same] at e
      cases e
      exact hpl
    · rw [upd_ne h] at e
      exact k.nf a u e
theorem Ok.back (k : Ok K ω2 H cs) (sub : ∀ a o, fr0 a = some o → ω2.fr a = some o) : Ok K (ω2.back fr0) H cs := by
  refine ⟨k.ex, k.len, k.nd, fun i a c e1 e2 => ?_, k.tab, fun a o e => k.frx a o (sub a o e), fun a o e => k.dj a o (sub a o e), k.nt, fun a o e => k.nf a o (sub a o e), k.lk⟩
  have q := k.cel i a c e1 e2
  have none' : ω2.fr a = none → fr0 a = none := fun z => by
    cases e : fr0 a with
    | none => rfl
    | some u => rw [sub a u e] at z; cases z
  cases c with
  | lst ws => obtain ⟨⟨h0, h3⟩, vs, h1, h2⟩ := q; exact ⟨⟨h0, none' h3⟩, vs, h1, h2.fr _⟩
  | dic ws => obtain ⟨⟨h0, h3⟩, vs, h1, h2⟩ := q; exact ⟨⟨h0, none' h3⟩, vs, h1, RepWk.fr h2 _⟩
  | ins C ws => obtain ⟨⟨⟨h0, h3⟩, hc⟩, dx, vs, h1, h2⟩ := q; exact ⟨⟨⟨h0, none' h3⟩, hc⟩, dx, vs, h1, RepWf.fr h2 _⟩
  | dead => exact q
  | lck ws => obtain ⟨⟨h0, h3⟩, oo, vs, ht, h1, h2⟩ := q; exact ⟨⟨h0, none' h3⟩, oo, vs, ht, h1, RepWk.fr h2 _⟩
  | dit b ws => obtain ⟨⟨h0, h3⟩, vs, h1, h2⟩ := q; exact ⟨⟨h0, none' h3⟩, vs, h1.mono (fun _ z => z) (fun _ z => z), RepWt.fr h2 _⟩
/-- the kept object at p is changed -/
theorem tabs_swap {T : List (Addr × Str)} {xs : List V} (t : LamX.Tabs T H) (hp : H p = some (.lst xs)) : LamX.Tabs T (upd H p o') := fun q hq => by
  obtain ⟨ps, h1, h2, h3⟩ := t q hq
  have ne : ∀ {b u}, H b = some u → HO.lst xs ≠ u → b ≠ p := fun {b u} e d z => by
    rw [z, hp] at e
    exact d (Option.some.inj e)
  refine ⟨ps, by rw [upd_ne (ne h1 (fun z => by cases z))]; exact h1, h2, fun pos cv hc => ?_⟩
  obtain ⟨c, e1, e2⟩ := h3 pos cv hc
  exact ⟨c, e1, by rw [upd_ne (ne e2 (fun z => by unfold LamX.CodeO at z; cases z))]; exact e2⟩
theorem Ok.swap {xs : List V} (k : Ok K ω H cs) (hp : ω.fr p = some (.lst xs)) (hf : ω.fr = upd fr0 p (.lst xs)) (hpl : FrO o' := by exact True.intro) : Ok K (ω.back (upd fr0 p o')) (upd H p o') cs := by
  have hs := k.dj p _ hp
  have hH := k.frx p _ hp
  refine ⟨k.ex.out hs, k.len, k.nd, fun i a c e1 e2 => ?_, tabs_swap k.tab hH, fun a u e => ?_, fun a u e => ?_, k.nt, fun a u e => ?_, fun a oo vs e => by
    have ne : a ≠ p := fun z => by
      have q := k.lk a oo vs e
      rw [z, hH] at q
      cases q
    rw [upd_ne ne]
    exact k.lk a oo vs e⟩
  · have q := k.cel i a c e1 e2
    have ne : a ≠ p := fun z => by
      subst z
      cases c with
      | lst ws => obtain ⟨⟨h0, h3⟩, _⟩ := q; rw [hp] at h3; cases h3
      | dic ws => obtain ⟨⟨h0, h3⟩, _⟩ := q; rw [hp] at h3; cases h3
      | ins C ws => obtain ⟨⟨⟨h0, h3⟩, _⟩, _⟩ := q; rw [hp] at h3; cases h3
      | dead => obtain ⟨u, hu⟩ := q; rw [hs] at hu; cases hu
      | lck ws => obtain ⟨⟨h0, h3⟩, _⟩ := q; rw [hp] at h3; cases h3
      | dit b ws => obtain ⟨⟨h0, h3⟩, _⟩ := q; rw [hp] at h3; cases h3
    have e : upd fr0 p o' a = ω.fr a := by rw [upd_ne ne, hf, upd_ne ne]
    cases c with
    | lst ws => obtain ⟨⟨h0, h3⟩, vs, h1, h2⟩ := q; exact ⟨⟨h0, e.trans h3⟩, vs, by rw [upd_ne ne]; exact h1, h2.fr _⟩
    | dic ws => obtain ⟨⟨h0, h3⟩, vs, h1, h2⟩ := q; exact ⟨⟨h0, e.trans h3⟩, vs, by rw [upd_ne ne]; exact h1, RepWk.fr h2 _⟩
    | ins C ws => obtain ⟨⟨⟨h0, h3⟩, hc⟩, dx, vs, h1, h2⟩ := q; exact ⟨⟨⟨h0, e.trans h3⟩, hc⟩, dx, vs, by rw [upd_ne ne]; exact h1, RepWf.fr h2 _⟩
    | dead => exact q
    | lck ws => obtain ⟨⟨h0, h3⟩, oo, vs, ht, h1, h2⟩ := q; exact ⟨⟨h0, e.trans h3⟩, oo, vs, ht, by rw [upd_ne ne]; exact h1, RepWk.fr h2 _⟩
    | dit b ws => obtain ⟨⟨h0, h3⟩, vs, h1, h2⟩ := q; exact ⟨⟨h0, e.trans h3⟩, vs, h1.mono (fun _ z => z) (fun u z => by rw [upd_ne ne]; exact z), RepWt.fr h2 _⟩
  · by_cases h : a = p
    · subst h
      have e : upd fr0 a o' a = some u := e
      rw [upd_same] at e ⊢
      exact e
    · have e : upd fr0 p o' a = some u := e
      rw [upd_ne h] at e ⊢
      exact k.frx a u (by rw [hf, upd_ne h]; exact e)
  · by_cases h : a = p
    · rw [h]; exact hs
    · have e : upd fr0 p o' a = some u := e
      rw [upd_ne h] at e
      exact k.dj a u (by rw [hf, upd_ne h]; exact e)
  · have e : upd fr0 p o' a = some u := e
    by_cases h : a = p
    · rw [h, upd_same] at e
      cases e
      exact hpl
    · rw [upd_ne h] at e
      exact k.nf a u (by rw [hf, upd_ne h]; exact e)
def hide (H : Hp) (p : Addr) : Hp := fun b => if b = p then none else H b
theorem hide_ne {H : Hp} {p b : Addr} (h : b ≠ p) : hide H p b = H b := if_neg h
theorem hide_same {H : Hp} {p : Addr} : hide H p p = none := if_pos rfl
theorem upd_hide {H : Hp} {p : Addr} {o : HO} (h : H p = some o) : upd (hide H p) p o = H := by
  funext b
  by_cases hb : b = p
  · rw [hb, upd_same, h]
  · rw [upd_ne hb, hide_ne hb]
/-- the kept object at p is no longer looked at -/
def Plain : HO → Prop
  | .tbl _ => False
  | .ext _ => False
  | .frz _ _ => False
  | _ => True
theorem Ok.drop {o : HO} (k : Ok K ω H cs) (hp : ω.fr p = some o) (hf : ω.fr = upd fr0 p o) (h0 : fr0 p = none) (hpl : Plain o := by exact True.intro) : Ok K (ω.back fr0) (hide H p) cs := by
  have hs := k.dj p _ hp
  have hH := k.frx p _ hp
  have fe : ∀ {a}, a ≠ p → fr0 a = ω.fr a := fun {a} h => by rw [hf, upd_ne h]
  refine ⟨fun a u e => ?_, k.len, k.nd, fun i a c e1 e2 => ?_, fun q hq => ?_, fun a u e => ?_, fun a u e => ?_, k.nt, fun a u e => ?_, fun a oo vs e => by
    have ne : a ≠ p := fun z => by
      have q := k.lk a oo vs e
      rw [z, hH] at q
      cases q
      exact hpl
    rw [hide_ne ne]
    exact k.lk a oo vs e⟩
  · rw [hide_ne (fun z => by rw [z, show (ω.back fr0).Hs p = none from hs] at e; cases e)]
    exact k.ex a u e
  · have q := k.cel i a c e1 e2
    have ne : a ≠ p := fun z => by
      subst z
      cases c with
      | lst ws => obtain ⟨⟨h0, h3⟩, _⟩ := q; rw [hp] at h3; cases h3
      | dic ws => obtain ⟨⟨h0, h3⟩, _⟩ := q; rw [hp] at h3; cases h3
      | ins C ws => obtain ⟨⟨⟨h0, h3⟩, _⟩, _⟩ := q; rw [hp] at h3; cases h3
      | dead => obtain ⟨u, hu⟩ := q; rw [hs] at hu; cases hu
      | lck ws => obtain ⟨⟨h0, h3⟩, _⟩ := q; rw [hp] at h3; cases h3
      | dit b ws => obtain ⟨⟨h0, h3⟩, _⟩ := q; rw [hp] at h3; cases h3
    cases c with
    | lst ws => obtain ⟨⟨h0, h3⟩, vs, h1, h2⟩ := q; exact ⟨⟨h0, (fe ne).trans h3⟩, vs, by rw [hide_ne ne]; exact h1, h2.fr _⟩
    | dic ws => obtain ⟨⟨h0, h3⟩, vs, h1, h2⟩ := q; exact ⟨⟨h0, (fe ne).trans h3⟩, vs, by rw [hide_ne ne]; exact h1, RepWk.fr h2 _⟩
    | ins C ws => obtain ⟨⟨⟨h0, h3⟩, hc⟩, dx, vs, h1, h2⟩ := q; exact ⟨⟨⟨h0, (fe ne).trans h3⟩, hc⟩, dx, vs, by rw [hide_ne ne]; exact h1, RepWf.fr h2 _⟩
    | dead => exact q
    | lck ws => obtain ⟨⟨h0, h3⟩, oo, vs, ht, h1, h2⟩ := q; exact ⟨⟨h0, (fe ne).trans h3⟩, oo, vs, ht, by rw [hide_ne ne]; exact h1, RepWk.fr h2 _⟩
    | dit b ws => obtain ⟨⟨h0, h3⟩, vs, h1, h2⟩ := q; exact ⟨⟨h0, (fe ne).trans h3⟩, vs, h1.mono (fun _ z => z) (fun u z => by rw [hide_ne ne]; exact z), RepWt.fr h2 _⟩
  · obtain ⟨ps, h1, h2, h3⟩ := k.tab q hq
    have ne : ∀ {b u}, H b = some u → o ≠ u → b ≠ p := fun {b u} e d z => by
      rw [z, hH] at e
      exact d (Option.some.inj e)
    refine ⟨ps, by rw [hide_ne (ne h1 (fun z => by rw [z] at hpl; exact hpl))]; exact h1, h2, fun pos cv hc => ?_⟩
    obtain ⟨c, e1, e2⟩ := h3 pos cv hc
    exact ⟨c, e1, by rw [hide_ne (ne e2 (fun z => by rw [z] at hpl; unfold LamX.CodeO at hpl; exact hpl))]; exact e2⟩
  · have ne : a ≠ p := fun z => by
      have e : fr0 a = some u := e
      rw [z, h0] at e
      cases e
    rw [hide_ne ne]
    exact k.frx a u (by rw [← fe ne]; exact e)
  · have ne : a ≠ p := fun z => by
      have e : fr0 a = some u := e
      rw [z, h0] at e
      cases e
    exact k.dj a u (by rw [← fe ne]; exact e)
  · have ne : a ≠ p := fun z => by
      have e : fr0 a = some u := e
      rw [z, h0] at e
      cases e
    exact k.nf a u (by rw [← fe ne]; exact e)
theorem Out.under {α : Type} {r : R α} {F : α → Wo → List Cell → Hp → Prop} (h : Out K mg E ω r F) (l : Le ω (ω2.back fr0)) (sub : ∀ a o, fr0 a = some o → ω2.fr a = some o) : Out K mg E ω2 r (fun a ω' cs' H' => F a (ω'.back fr0) cs' H') := by
  have le : ∀ {ω'}, Le ω2 ω' → Le ω (ω'.back fr0) := fun {ω'} l2 => ⟨l.ex.trans l2.ex, l.ad.trans l2.ad, l2.tb.trans l.tb, l.fr⟩
  cases r with
  | ok a cs => exact fun ω' H' l2 k2 => h _ H' (le l2) (k2.back fun a o e => by rw [l2.fr]; exact sub a o e)
  | exc x cs => exact fun C ω' H' m l2 k2 => h C (ω'.back fr0) H' m (le l2) (k2.back fun a o e => by rw [l2.fr]; exact sub a o e)
  | bad => exact h
end
/-- a comprehension with one clause: what it computes is what its reading asks -/
theorem lc_use {fi : EvI} {t : Tg} {ts : List Nat} {p : EvT} {f : Ev} {own : List (Str × Nat)} (hsub : ∀ i ∈ ts, i ∈ own.map (·.2)) {σ : L2.St} {H : Hp} {Q : VK} (hh : tEvF X.K X.mg E (fLc fi t p f (own.map (·.2))) σ H Q) :
    tLc (tEvI X.K X.mg E fi) (tEvG X.K t ts) (tEvT X.K X.mg E0 p) (tEv X.K X.mg E0 f) (own.map (·.2)) σ H Q := by
  obtain ⟨env, cs, ω, hst, hk, h⟩ := hh
  refine ⟨env, cs, ω, hst, hk, h.bind.imp fun ws ω1 cs1 H1 l1 k1 h1 J wk D hD => ?_⟩
  split at h1
  · rename_i hz
    have hz := szOk_of hz
    have frD : ω1.fr D = none := k1.frx.back hD
    have hw : StRep X.K ω1 (L2.wipe σ (own.map (·.2))) (wipeE env (own.map (·.2))) := (hst.mono l1).wipe _
    refine ⟨fun i m Hx => m = ws.length - i ∧ i ≤ ws.length ∧ ∃ (ωi : Wo) (csi : List Cell) (aV : List V) (aW : List Wv), ωi.fr = upd ω1.fr D (.lst aV) ∧ Le ω1 (ωi.back ω1.fr) ∧ Ok X.K ωi Hx csi ∧ RepWs X.K ωi aV aW ∧ aW.length ≤ i ∧
        Out X.K X.mg E (ωi.back ω1.fr) (loopC t p f (wipeE env (own.map (·.2))) (ws.drop i) csi) (fun ys ω' _ H' => ∀ q vs, H' q = none → RepWs X.K ω' vs (aW ++ ys) → Q (.ref q) (upd H' q (.lst vs))),
      ⟨_, rfl, Nat.zero_le _, ω1.keep D (.lst []), cs1, [], [], rfl, Le.refl _, k1.keep hD, .nil, Nat.le_refl _, by rw [List.drop_zero]; exact h1⟩, ?_⟩
    rintro i m Hx ⟨rfl, hi, ωi, csi, aV, aW, hfr, lb, kI, rA, hal, hO⟩
    have sub : ∀ {ω' : Wo}, Le ωi ω' → ∀ a o, ω1.fr a = some o → ω'.fr a = some o := fun {ω'} l a o e => by
      rw [l.fr, hfr, upd_ne (ne_of_none e frD)]
      exact e
    have lf : Lf ω1 ωi := ⟨lb.ex, lb.ad, lb.tb⟩
    by_cases hlt : i < ws.length
    · refine .inr ⟨wk.goes i ωi Hx csi hlt lf kI, fun Hn => ∃ m', m' < ws.length - i ∧ (m' = ws.length - (i + 1) ∧ i + 1 ≤ ws.length ∧ ∃ (ωj : Wo) (csj : List Cell) (bV : List V) (bW : List Wv), ωj.fr = upd ω1.fr D (.lst bV) ∧ Le ω1 (ωj.back ω1.fr) ∧ Ok X.K ωj Hn csj ∧ RepWs X.K ωj bV bW ∧ bW.length ≤ i + 1 ∧
          Out X.K X.mg E (ωj.back ω1.fr) (loopC t p f (wipeE env (own.map (·.2))) (ws.drop (i + 1)) csj) (fun ys ω' _ H' => ∀ q vs, H' q = none → RepWs X.K ω' vs (bW ++ ys) → Q (.ref q) (upd H' q (.lst vs)))), fun Hn h => h, fun x Hy y => ?_⟩
      obtain ⟨ω2, l2, k2, w, ew, rw'⟩ := wk.yields i ωi Hx csi x Hy hlt lf kI y
      have ed : ws.drop i = w :: ws.drop (i + 1) := by
        obtain ⟨_, e⟩ := List.getElem?_eq_some_iff.mp ew
        rw [← e]
        exact List.drop_eq_getElem_cons hlt
      rw [ed] at hO
      have hO2 := Out.le (ω := ωi.back ω1.fr) (ω' := ω2.back ω1.fr) ⟨l2.ex, l2.ad, l2.tb, rfl⟩ hO
      obtain ⟨env', et, hO3⟩ := Out.opt hO2.bind
      have k2b : Ok X.K (ω2.back ω1.fr) Hy csi := k2.back (sub l2)
      have hO4 := hO3.now k2b
      have l12 : Le ω1 (ω2.back ω1.fr) := ⟨lb.ex.trans l2.ex, lb.ad.trans l2.ad, l2.tb.trans lb.tb, rfl⟩
      have hw2 : StRep X.K ω2 (L2.wipe σ (own.map (·.2))) (wipeE env (own.map (·.2))) := (hw.mono l12).fr ω2.fr
      refine ⟨_, csi, ω2, w, env', hw2, k2, rw', et, fun σ2 hs2 ag => ⟨wipe_agr ag hsub, ?_⟩⟩
      refine ⟨env', csi, ω2, hs2, k2, (Out.nx (hO4.bind.under (Le.refl _) (sub l2))).imp fun b ω3 cs3 H3 l3 k3 hO5 => ?_⟩
      have l23 := l2.trans l3
      have adv : ∀ {ωj : Wo}, Le ωi ωj → Le ω1 (ωj.back ω1.fr) := fun {ωj} l => ⟨lb.ex.trans l.ex, lb.ad.trans l.ad, l.tb.trans lb.tb, rfl⟩
      cases b with
      | false =>
        refine ⟨_, by omega, rfl, hlt, ω3, cs3, aV, aW, l23.fr.trans hfr, adv l23, k3, ?_, by omega, hO5⟩
        exact (rA.mono l23)
      | true =>
        refine ⟨env', cs3, ω3, hs2.mono l3, k3, (Out.nx (Out.under (ω2 := ω3) (Out.bind hO5) (Le.refl _) (sub l23))).imp fun yv ω4 cs4 H4 l4 k4 hO6 v rv => ?_⟩
        have l24 := l23.trans l4
        have frE : ω4.fr = upd ω1.fr D (.lst aV) := l24.fr.trans hfr
        have hD4 : ω4.fr D = some (.lst aV) := by rw [frE, upd_same]
        have rA4 := rA.mono l24
        refine ⟨aV, k4.frx _ _ hD4, by rw [rA.len]; omega, _, by omega, rfl, hlt, ω4.back (upd ω1.fr D (.lst (aV ++ [v]))), cs4, aV ++ [v], aW ++ [yv], rfl, (show Le ω1 (ω4.back ω1.fr) from adv l24), k4.swap hD4 frE, (rA4.app (.cons rv .nil)).fr _, by simp; omega, ?_⟩
        refine (Out.bind (show Out X.K X.mg E (ω4.back ω1.fr) (M.bind _ _ cs4) _ from hO6)).imp fun ys ω5 cs5 H5 l5 k5 hO7 => ?_
        intro q vs hq rv'
        exact hO7.now k5 q vs hq (by simpa using rv')
    · have e : i = ws.length := by omega
      subst e
      refine .inl ⟨wk.stops ωi Hx csi lf kI, ?_⟩
      rw [List.drop_length] at hO
      have hfD : ωi.fr D = some (.lst aV) := by rw [hfr, upd_same]
      have hDx : Hx D = some (.lst aV) := kI.frx D _ hfD
      have kd : Ok X.K (ωi.back ω1.fr) (hide Hx D) csi := kI.drop hfD hfr frD
      have z := hO.now kd D aV hide_same (by simpa using rA.fr ω1.fr)
      rw [upd_hide hDx] at z
      exact z
  · exact (show False from h1).elim
/-- THE RULE of a comprehension with one clause -/
theorem ef_lc {elt iter : Expr} {ifs : List Expr} {scope : Scope} {own : List (Str × Nat)} {fi : EvI} {t : Tg} {ts : List Nat} {p : EvT} {f : Ev} (hc : X.calm = true) (hN : X.N.Nodup) (hi : EVI X E tg iter fi) (ok : BlkOk X.N X.env.scope scope own)
    (hg : ∀ (s : Shared) (H : Hp) (C : Addr) (cl : List (Str × Addr)) (fp : List Addr), GV (X.blk s H scope (compEnvC scope cl C X.env) fp) tg t ts)
    (ht : ∀ (s : Shared) (H : Hp) (C : Addr) (cl : List (Str × Addr)) (fp : List Addr), EVTs (X.blk s H scope (compEnvC scope cl C X.env) fp) E0 ifs p)
    (he : ∀ (s : Shared) (H : Hp) (C : Addr) (cl : List (Str × Addr)) (fp : List Addr), EV (X.blk s H scope (compEnvC scope cl C X.env) fp) E0 elt f)
    (hsub : ∀ i ∈ ts, i ∈ own.map (·.2)) (hs : ∀ x, foldedSetIterable iter X.env x = pure x := by intro _; rfl) :
    EVF X E (.ListComp elt [⟨tg, iter, ifs, 0⟩] scope pos) (fLc fi t p f (own.map (·.2))) := by
  exact PE.imp (pe_lc (g := tEvG X.K t ts) (tt := tEvT X.K X.mg E0 p) (te := tEv X.K X.mg E0 f) hc hN hi ok hg ht he hs) fun _ _ _ h => lc_use hsub h
/-- a new list, frozen at once | made a cell -/
def eOfF (f : EvF) : Ev := fun env => M.bind (f env) fun ws => M.bind (mDats ws) fun ds => M.ret (.dat (.lst ds))
def mCell (c : Cell) : M Wv := fun cs => .ok (.cel cs.length) (cs ++ [c])
def eCelF (f : EvF) : Ev := fun env => M.bind (f env) fun ws => mCell (.lst ws)
theorem data_use {f : EvF} {σ : L2.St} {H : Hp} {Q : VK} (h : tEv X.K X.mg E (eOfF f) σ H Q) : tEvF X.K X.mg E f σ H Q := by
  obtain ⟨env, cs, ω, hs, hk, h⟩ := h
  refine ⟨env, cs, ω, hs, hk, h.bind.imp fun ws ω1 cs1 H1 l1 k1 h1 p vs hp rv => ?_⟩
  obtain ⟨ds, e, h2⟩ := h1.mDats
  exact h2 _ _ (Le.froze k1 hp) (k1.froze hp) _ (rep_lst k1 hp (rv.dats e))
theorem cell_use {f : EvF} {σ : L2.St} {H : Hp} {Q : VK} (h : tEv X.K X.mg E (eCelF f) σ H Q) : tEvF X.K X.mg E f σ H Q := by
  obtain ⟨env, cs, ω, hs, hk, h⟩ := h
  refine ⟨env, cs, ω, hs, hk, h.bind.imp fun ws ω1 cs1 H1 l1 k1 h1 p vs hp rv => ?_⟩
  have h1 : Out X.K X.mg E ω1 (.ok (Wv.cel cs1.length) (cs1 ++ [Cell.lst ws])) _ := h1
  have hc : CellAt X.K (ω1.more p) (upd H1 p (.lst vs)) p (.lst ws) := ⟨⟨k1.ex.back hp, k1.frx.back hp⟩, vs, upd_same, rv.mono Le.more⟩
  refine h1 _ _ Le.more (k1.more hp hc) _ ⟨p, ?_, rfl⟩
  show (ω1.ad ++ [p])[cs1.length]? = some p
  rw [k1.len, List.getElem?_append_right (Nat.le_refl _)]
  simp
theorem ev_ofF {e : Expr} {f : EvF} (h : EVF X E e f) : EV X E e (eOfF f) := PE.imp h fun _ _ _ h => data_use h
theorem ev_celF {e : Expr} {f : EvF} (h : EVF X E e f) : EV X E e (eCelF f) := PE.imp h fun _ _ _ h => cell_use h
end
end DX
namespace DX
variable [TabT]
open PySem L2
inductive Fl where
  | nx (env : En) | rt (w : Wv) | bk (env : En) | ct (env : En)
abbrev Sv := En → M Fl
def EndAt (K : Frag) (D : Ends) (fl : Fl) (ω : Wo) (H : Hp) : Prop := match fl with
  | .nx env => ∀ σ, StRep K ω σ env → D.nx σ H
  | .rt w => ∀ v, RepW K ω v w → D.rt v H
  | .bk env => ∀ σ, StRep K ω σ env → D.bk σ H
  | .ct env => ∀ σ, StRep K ω σ env → D.ct σ H
def tEvS (K : Frag) (mg : MG) (E : XK) (f : Sv) : TS := fun D σ H => ∃ env cs ω, StRep K ω σ env ∧ Ok K ω H cs ∧ Out K mg E ω (f env cs) fun fl ω' _ H' => EndAt K D fl ω' H'
def SV (X : Cx) (E : XK) (e : Stmt) (f : Sv) : Prop := PS X e (tEvS X.K X.mg E f)
def SVs (X : Cx) (E : XK) (e : List Stmt) (f : Sv) : Prop := PSs X e (tEvS X.K X.mg E f)
section
variable {X : Cx} {E : XK} {tg e : Expr} {st : Stmt} {rest : List Stmt} {pos : Pos}
def sNil : Sv := fun env => M.ret (.nx env)
def sSeq (f g : Sv) : Sv := fun env => M.bind (f env) fun fl => match fl with
  | .nx env' => g env'
  | .rt w => M.ret (.rt w)
  | .bk env' => M.ret (.bk env')
  | .ct env' => M.ret (.ct env')
theorem svs_nil : SVs X E [] sNil := PSs.imp pss_nil fun D σ H ⟨env, cs, ω, hs, hk, h⟩ => h.now hk σ hs
theorem svs_cons {f g : Sv} (h1 : SV X E st f) (h2 : SVs X E rest g) : SVs X E (st :: rest) (sSeq f g) := PSs.imp (pss_cons h1 h2) fun D σ H ⟨env, cs, ω, hs, hk, h⟩ =>
  ⟨env, cs, ω, hs, hk, h.bind.imp fun fl ω1 cs1 H1 l1 k1 h1 => by
    cases fl with
    | nx env' => exact fun σ' hs' => ⟨env', cs1, ω1, hs', k1, h1⟩
    | rt w => exact h1.now k1
    | bk env' => exact h1.now k1
    | ct env' => exact h1.now k1⟩
theorem svs_one {f : Sv} (h1 : SV X E st f) : SVs X E [st] f := pss_one h1
def sRet (f : Ev) : Sv := fun env => M.bind (f env) fun w => M.ret (.rt w)
theorem sv_ret {f : Ev} (h : EV X E e f) : SV X E (.Return (some e) pos) (sRet f) := PS.imp (ps_ret h) fun D σ H ⟨env, cs, ω, hs, hk, h⟩ =>
  ⟨env, cs, ω, hs, hk, h.bind.imp fun w ω1 cs1 H1 l1 k1 h1 v rv => h1.now k1 v rv⟩
def sRetN : Sv := fun _ => M.ret (.rt (.dat .non))
def sBreak : Sv := fun env => M.ret (.bk env)
def sCont : Sv := fun env => M.ret (.ct env)
def sExpr (f : Ev) : Sv := fun env => M.bind (f env) fun _ => M.ret (.nx env)
theorem sv_expr {f : Ev} (h : EV X E e f) (hs : swapsWith e none pos.line X.env = pure false := by rfl) : SV X E (.Expr e pos) (sExpr f) := PS.imp (ps_expr h hs) fun D σ H ⟨env, cs, ω, hs, hk, h⟩ =>
  ⟨env, cs, ω, hs, hk, h.bind.imp fun w ω1 cs1 H1 l1 k1 h1 v rv => h1.now k1 σ (hs.mono l1)⟩
def sIf (c : EvT) (f g : Sv) : Sv := fun env => M.bind (c env) fun b => if b = true then f env else g env
theorem sv_if {c : Expr} {a b : List Stmt} {fc : EvT} {f g : Sv} (hc : EVT X E c fc) (ha : SVs X E a f) (hb : SVs X E b g) : SV X E (.If c a b pos) (sIf fc f g) := PS.imp (ps_if hc ha hb) fun D σ H ⟨env, cs, ω, hs, hk, h⟩ =>
  ⟨env, cs, ω, hs, hk, h.bind.imp fun b ω1 cs1 H1 l1 k1 h1 => by
    cases b with
    | true => exact ⟨env, cs1, ω1, hs.mono l1, k1, h1⟩
    | false => exact ⟨env, cs1, ω1, hs.mono l1, k1, h1⟩⟩
def sSet (i : Nat) (f : Ev) : Sv := fun env => M.bind (f env) fun w => M.ret (.nx (env.set i (some w)))
theorem set_use {i : Nat} {f : Ev} {σ : L2.St} {H : Hp} {D : Ends} (h : tEvS X.K X.mg E (sSet i f) D σ H) : tAsg (tEv X.K X.mg E f) (gName i) D σ H :=
  let ⟨env, cs, ω, hs, hk, h⟩ := h
  ⟨env, cs, ω, hs, hk, h.bind.imp fun w ω1 cs1 H1 l1 k1 h1 v rv => h1.now k1 _ ((hs.mono l1).set i rv)⟩
theorem sv_set {i : Nat} {x : Str} {f : Ev} {pos' : Pos} (hN : X.N.Nodup) (hi : X.N[i]? = some x) (hx : Loc X.env.scope x) (he : EV X E e f) (hs : swapsWith e (some (.Name x pos')) pos.line X.env = pure false := by rfl) (hf : X.fn x = true ∨ X.env.scope.names.lookup x = some .local := by first | exact .inl rfl | exact .inr rfl | assumption) :
    SV X E (.Assign [.Name x pos'] e pos) (sSet i f) := PS.imp (ps_set hN hi hx he hs hf) fun D σ H h => set_use h
def sAsg (t : Tg) (f : Ev) : Sv := fun env => M.bind (f env) fun w => M.bind (M.opt (t w env)) fun env' => M.ret (.nx env')
theorem sv_asg {t : Tg} {ts : List Nat} {f : Ev} (he : EV X E e f) (hg : GV X tg t ts) (hs : swapsWithSole [tg] e pos.line X.env = pure false := by rfl) (hw : swappedStores [tg] e X.env = pure none := by rfl)
    (h1 : (assignEach [tg] X.env).map (·.2) = [assign tg X.env] := by rfl) : SV X E (.Assign [tg] e pos) (sAsg t f) := PS.imp (ps_asg he hg hs hw h1) fun D σ H ⟨env, cs, ω, hs, hk, h⟩ =>
  ⟨env, cs, ω, hs, hk, h.bind.imp fun w ω1 cs1 H1 l1 k1 h1 v rv => by
    obtain ⟨env', e, h2⟩ := Out.opt h1.bind
    exact ⟨env, cs1, ω1, w, env', hs.mono l1, k1, rv, e, fun σ' hs' _ => (h2.now k1).now k1 σ' hs'⟩⟩
theorem sv_setLc {elt iter : Expr} {ifs : List Expr} {scope : Scope} {own : List (Str × Nat)} {fi : EvI} {t : Tg} {ts : List Nat} {p : EvT} {f : Ev} {i : Nat} {y : Str} {py lpos : Pos} (g : EvF → Ev)
    (hgu : ∀ (f : EvF) (σ : L2.St) (H : Hp) (Q : VK), tEv X.K X.mg E (g f) σ H Q → tEvF X.K X.mg E f σ H Q)
    (hc : X.calm = true) (hN : X.N.Nodup) (hy : X.N[i]? = some y) (hyl : X.env.scope.names.lookup y = some .local) (hsw : swapsWith (.ListComp elt [⟨tg, iter, ifs, 0⟩] scope lpos) (some (.Name y py)) pos.line X.env = pure true)
    (hi : EVI X E tg iter fi) (ok : BlkOk X.N X.env.scope scope own)
    (hg : ∀ (s : Shared) (H : Hp) (C : Addr) (cl : List (Str × Addr)) (fp : List Addr), GV (X.blk s H scope (compEnvC scope cl C X.env) fp) tg t ts)
    (ht : ∀ (s : Shared) (H : Hp) (C : Addr) (cl : List (Str × Addr)) (fp : List Addr), EVTs (X.blk s H scope (compEnvC scope cl C X.env) fp) E0 ifs p)
    (he : ∀ (s : Shared) (H : Hp) (C : Addr) (cl : List (Str × Addr)) (fp : List Addr), EV (X.blk s H scope (compEnvC scope cl C X.env) fp) E0 elt f)
    (hsub : ∀ i ∈ ts, i ∈ own.map (·.2)) (hs : ∀ x, foldedSetIterable iter X.env x = pure x := by intro _; rfl) :
    SV X E (.Assign [.Name y py] (.ListComp elt [⟨tg, iter, ifs, 0⟩] scope lpos) pos) (sSet i (g (fLc fi t p f (own.map (·.2))))) :=
  PS.imp (ps_setLc (g := tEvG X.K t ts) (tt := tEvT X.K X.mg E0 p) (te := tEv X.K X.mg E0 f) hc hN hy hyl hsw hi ok hg ht he hs) fun D σ H h => by
    have h2 : tAsg (tEv X.K X.mg E (g (fLc fi t p f (own.map (·.2))))) (gName i) D σ H := set_use h
    exact lc_use hsub (hgu _ _ _ _ h2)
def sPar (i j : Nat) (g : EvA) : Sv := fun env => M.bind (g env) fun ws => match ws with
  | [a, b] => M.ret (.nx ((env.set i (some a)).set j (some b)))
  | _ => M.bad
theorem RepWs.two' {K : Frag} {ω : Wo} {vs : List V} {a b : Wv} (h : RepWs K ω vs [a, b]) : ∃ u v, vs = [u, v] ∧ RepW K ω u a ∧ RepW K ω v b := by
  cases h with
  | cons h1 h2 => cases h2 with
    | cons h2 h3 => cases h3; exact ⟨_, _, rfl, h1, h2⟩
theorem sv_par {i j : Nat} {x y : Str} {a b : Expr} {g : EvA} {px py pt : Pos} {kt k2 pt2} (hc : X.calm = true) (hN : X.N.Nodup) (hi : X.N[i]? = some x) (hj : X.N[j]? = some y) (hij : i ≠ j)
    (hx : X.env.scope.names.lookup x = some .local) (hy : X.env.scope.names.lookup y = some .local) (ha : EVA X E [a, b] g)
    (hw : swappedStores [.Tuple [.Name x px, .Name y py] kt pt] (.Tuple [a, b] k2 pt2) X.env = pure (some [x, y]))
    (hs : swapsWithSole [.Tuple [.Name x px, .Name y py] kt pt] (.Tuple [a, b] k2 pt2) pos.line X.env = pure false := by rfl) :
    SV X E (.Assign [.Tuple [.Name x px, .Name y py] kt pt] (.Tuple [a, b] k2 pt2) pos) (sPar i j g) := PS.imp (ps_par hc hN hi hj hij hx hy ha hw hs) fun D σ H ⟨env, cs, ω, hs, hk, h⟩ =>
  ⟨env, cs, ω, hs, hk, h.bind.imp fun ws ω1 cs1 H1 l1 k1 h1 vs rv => by
    match ws, h1, rv with
    | [a, b], h1, rv =>
      obtain ⟨u, v, e, q1, q2⟩ := rv.two'
      exact ⟨u, v, e, h1.now k1 _ (((hs.mono l1).set i q1).set j q2)⟩
    | [], h1, rv => exact (show False from h1).elim
    | [_], h1, rv => exact (show False from h1).elim
    | _ :: _ :: _ :: _, h1, rv => exact (show False from h1).elim⟩
def sPar3 (i j l : Nat) (g : EvA) : Sv := fun env => M.bind (g env) fun ws => match ws with
  | [a, b, c] => M.ret (.nx (((env.set i (some a)).set j (some b)).set l (some c)))
  | _ => M.bad
def sRaise (x : Str) : Sv := fun _ cs => .exc ⟨x, []⟩ cs
theorem sv_raise {x : Str} (hc : X.calm = true) (tk : Takes X fun cls d _ H => E cls d H) {C : Addr} (hm : X.mg x = some (.ref C)) (he : PMk X e fun _ H Q => Q (.ref C) none H) : SV X E (.Raise (some e) none pos) (sRaise x) :=
  PS.imp (ps_raise hc tk he) fun D σ H ⟨env, cs, ω, hs, hk, h⟩ => (show ∀ C ω' H', X.mg x = some (.ref C) → Le ω ω' → Ok X.K ω' H' cs → E (.ref C) none H' from h) C ω H hm (Le.refl ω) hk
def loopS (t : Tg) (b : Sv) : List Wv → En → M Fl
  | [], env => M.ret (.nx env)
  | w :: ws, env => M.bind (M.opt (t w env)) fun env' => M.bind (b env') fun fl => match fl with
    | .nx e => loopS t b ws e
    | .ct e => loopS t b ws e
    | .bk e => M.ret (.nx e)
    | .rt w => M.ret (.rt w)
def sFor (fi : EvI) (t : Tg) (b : Sv) : Sv := fun env => M.bind (fi env) fun ws => loopS t b ws env
theorem sv_for {iter : Expr} {body : List Stmt} {fi : EvI} {t : Tg} {ts : List Nat} {b : Sv} (hp : PassesOwn (model X.prog X.w) X.A X.env X.xe) (hc : X.calm = true) (hi : EVI X E tg iter fi) (hg : GV X tg t ts) (hb : SVs X E body b)
    (hs : ∀ x, foldedSetIterable iter X.env x = pure x := by intro _; rfl) : SV X E (.For tg iter body [] pos) (sFor fi t b) := PS.imp (ps_for hp hc hi hg hb hs) fun D σ H ⟨env, cs, ω, hst, hk, h⟩ =>
  ⟨env, cs, ω, hst, hk, h.bind.imp fun ws ω1 cs1 H1 l1 k1 h1 J wk => by
    refine ⟨fun i m σx Hx => m = ws.length - i ∧ i ≤ ws.length ∧ ∃ (ωi : Wo) (csi : List Cell) (envi : En), Lf ω1 ωi ∧ Ok X.K ωi Hx csi ∧ StRep X.K ωi σx envi ∧ Out X.K X.mg E ωi (loopS t b (ws.drop i) envi csi) fun fl ω' _ H' => EndAt X.K D fl ω' H',
      ⟨_, rfl, Nat.zero_le _, ω1, cs1, env, (Le.refl ω1).lf, k1, hst.mono l1, by rw [List.drop_zero]; exact h1⟩, ?_⟩
    rintro i m σx Hx ⟨rfl, hi, ωi, csi, envi, lf, kI, sI, hO⟩
    by_cases hlt : i < ws.length
    · refine .inr ⟨wk.goes i ωi Hx csi hlt lf kI, fun σn Hn => ∃ m', m' < ws.length - i ∧ (m' = ws.length - (i + 1) ∧ i + 1 ≤ ws.length ∧ ∃ (ωj : Wo) (csj : List Cell) (envj : En), Lf ω1 ωj ∧ Ok X.K ωj Hn csj ∧ StRep X.K ωj σn envj ∧ Out X.K X.mg E ωj (loopS t b (ws.drop (i + 1)) envj csj) fun fl ω' _ H' => EndAt X.K D fl ω' H'),
        fun σ' H' z => z, fun x Hy y => ?_⟩
      obtain ⟨ω2, l2, k2, w, ew, rw'⟩ := wk.yields i ωi Hx csi x Hy hlt lf kI y
      have ed : ws.drop i = w :: ws.drop (i + 1) := by
        obtain ⟨_, e⟩ := List.getElem?_eq_some_iff.mp ew
        rw [← e]
        exact List.drop_eq_getElem_cons hlt
      rw [ed] at hO
      obtain ⟨env', et, hO3⟩ := Out.opt (Out.le l2 hO).bind
      refine ⟨envi, csi, ω2, w, env', sI.mono l2, k2, rw', et, fun σ2 hs2 _ => ⟨env', csi, ω2, hs2, k2, (hO3.now k2).bind.imp fun fl ω3 cs3 H3 l3 k3 hO5 => ?_⟩⟩
      have lf3 : Lf ω1 ω3 := ⟨lf.ex.trans (l2.trans l3).ex, lf.ad.trans (l2.trans l3).ad, (l2.trans l3).tb.trans lf.tb⟩
      cases fl with
      | nx e => exact fun σ' hs' => ⟨_, by omega, rfl, hlt, ω3, cs3, e, lf3, k3, hs', hO5⟩
      | ct e => exact fun σ' hs' => ⟨_, by omega, rfl, hlt, ω3, cs3, e, lf3, k3, hs', hO5⟩
      | bk e => exact fun σ' hs' => hO5.now k3 σ' hs'
      | rt w => exact fun v rv => hO5.now k3 v rv
    · have e : i = ws.length := by omega
      subst e
      refine .inl ⟨wk.stops ωi Hx csi lf kI, ?_⟩
      rw [List.drop_length] at hO
      exact hO.now kI σx sI⟩
def loopW (c : EvT) (b : Sv) : Nat → En → M Fl
  | 0, _ => M.bad
  | n + 1, env => M.bind (c env) fun k => if k = true then M.bind (b env) fun fl => match fl with
      | .nx e => loopW c b n e
      | .ct e => loopW c b n e
      | .bk e => M.ret (.nx e)
      | .rt w => M.ret (.rt w)
    else M.ret (.nx env)
/-- the bound is read off the slots and the cells -/
def sWhile (μ : En → List Cell → Nat) (c : EvT) (b : Sv) : Sv := fun env cs => loopW c b (μ env cs) env cs
theorem sv_while {c : Expr} {body : List Stmt} {fc : EvT} {b : Sv} (μ : En → List Cell → Nat) (hp : PassesOwn (model X.prog X.w) X.A X.env X.xe) (hc : EVT X E c fc) (hb : SVs X E body b) : SV X E (.While c body [] pos) (sWhile μ fc b) := PS.imp (ps_while hp hc hb) fun D σ H ⟨env, cs, ω, hst, hk, h⟩ => by
  refine ⟨fun m σx Hx => ∃ (ωi : Wo) (csi : List Cell) (envi : En), Ok X.K ωi Hx csi ∧ StRep X.K ωi σx envi ∧ Out X.K X.mg E ωi (loopW fc b m envi csi) fun fl ω' _ H' => EndAt X.K D fl ω' H', ⟨μ env cs, ω, cs, env, hk, hst, h⟩, ?_⟩
  rintro m σx Hx ⟨ωi, csi, envi, kI, sI, hO⟩
  cases m with
  | zero => exact (show False from hO).elim
  | succ n =>
    refine ⟨envi, csi, ωi, sI, kI, (Out.bind hO).imp fun k ω1 cs1 H1 l1 k1 h1 => ?_⟩
    cases k with
    | false => exact h1.now k1 σx (sI.mono l1)
    | true =>
      refine ⟨fun σn Hn => ∃ (ωi : Wo) (csi : List Cell) (envi : En), Ok X.K ωi Hn csi ∧ StRep X.K ωi σn envi ∧ Out X.K X.mg E ωi (loopW fc b n envi csi) fun fl ω' _ H' => EndAt X.K D fl ω' H', fun σ' H' z => ⟨n, Nat.lt_succ_self _, z⟩, ?_⟩
      refine ⟨envi, cs1, ω1, sI.mono l1, k1, (Out.bind h1).imp fun fl ω2 cs2 H2 l2 k2 h2 => ?_⟩
      cases fl with
      | nx e => exact fun σ' hs' => ⟨ω2, cs2, e, k2, hs', h2⟩
      | ct e => exact fun σ' hs' => ⟨ω2, cs2, e, k2, hs', h2⟩
      | bk e => exact fun σ' hs' => h2.now k2 σ' hs'
      | rt w => exact fun v rv => h2.now k2 v rv
end
end DX
namespace DX
variable [TabT]
open PySem PySem.Spec PyProof.Rows L2
abbrev Fn := List Wv → M Wv
def startE (n : Nat) (ws : List Wv) : En := ws.map some ++ List.replicate (n - ws.length) none
def fin : Fl → M Wv
  | .rt w => M.ret w
  | .nx _ => M.ret (.dat .non)
  | _ => M.bad
def fnOf (n : Nat) (b : Sv) : Fn := fun ws => M.bind (b (startE n ws)) fin
theorem RepWs.at {K : Frag} {ω : Wo} {vs : List V} {ws : List Wv} (r : RepWs K ω vs ws) : ∀ {i : Nat} {w : Wv}, ws[i]? = some w → ∃ v, vs[i]? = some v ∧ RepW K ω v w := by
  induction r with
  | nil => intro i w e; simp at e
  | cons h1 _ ih =>
    intro i w e
    cases i with
    | zero => simp at e; subst e; exact ⟨_, rfl, h1⟩
    | succ i => simp at e; simpa using ih e
theorem startRep {K : Frag} {ω : Wo} {N : List Str} {vs : List V} {ws : List Wv} (r : RepWs K ω vs ws) : StRep K ω (L2.start N vs) (startE N.length ws) := by
  have hl := r.len
  refine ⟨by simp [L2.start, startE, hl], fun i w e => ?_⟩
  unfold startE at e
  unfold L2.start
  by_cases hi : i < ws.length
  · rw [List.getElem?_append_left (by simpa using hi), List.getElem?_map] at e
    cases q : ws[i]? with
    | none => rw [q] at e; cases e
    | some w' =>
      rw [q] at e
      cases e
      obtain ⟨v, e1, r1⟩ := r.at q
      exact ⟨v, by rw [List.getElem?_append_left (by simp; omega), List.getElem?_map, e1]; rfl, r1⟩
  · rw [List.getElem?_append_right (by simp; omega), List.getElem?_replicate] at e
    split at e <;> cases e
structure FnG (P : Program) (w : World) (K : Frag) (mg : MG) (base : Heap) (gd : Bool) (k : Nat) (f : Addr) (fd : FuncData) (ps : List Str) (m : Fn) : Prop where
  run : ∀ (A : Around) (outer : List Env) (s : Shared) (H : Hp) (args : Args) (us : List Value) (vs : List V) (Q : VK) (E : XK) (ω : Wo) (cs : List Cell) (ws : List Wv), Room k A → (gd = true → A.guards = some []) → Env0 P w K mg base A outer s H → BindsTo s fd args (ps.zip us) → Vals vs us →
    ws.length = ps.length → Ok K ω H cs → RepWs K ω vs ws → Out K mg E ω (m ws cs) (fun w ω' _ H' => ∀ v, RepW K ω' v w → Q v H') → codeAny (model P w) A (.call (.ref f) args) (CR (L2.CX P w) outer P w H s Q E) s
theorem FnG.mono {P : Program} {w : World} {K : Frag} {mg : MG} {base : Heap} {gd : Bool} {j k : Nat} {f : Addr} {fd : FuncData} {ps : List Str} {m : Fn} (F : FnG P w K mg base gd j f fd ps m) (h : j ≤ k) : FnG P w K mg base gd k f fd ps m :=
  ⟨fun A outer s H args us vs Q E ω cs ws hr => F.run A outer s H args us vs Q E ω cs ws (hr.mono h)⟩
theorem fng_of {P : Program} {w : World} {K : Frag} {mg : MG} {base : Heap} {gd : Bool} {k : Nat} {x qual : Str} {st : Stmt} {f : Addr} {fd : FuncData} {N ps : List Str} {b : Sv} (F : Fun K x qual st f fd) (S : FnScope N ps (defScope st))
    (hb : ∀ (cdv : Value) (A : Around) (outer : List Env) (s : Shared) (H : Hp) (E : XK), fd.code = cdv → Room k (A.deeper (envOfC qual (defScope st) s.heap.objs.size f cdv)) → (gd = true → A.guards = some []) → SVs (cxOf (L2.CX P w) P w K mg base N qual (defScope st) f cdv A outer s H E) E (defBody st) b) :
    FnG P w K mg base gd (k + 1) f fd ps (fnOf N.length b) := by
  refine ⟨fun A outer s H args us vs Q E ω cs ws hr hgd e0 bt r hl hk rw' hO => ?_⟩
  obtain ⟨oc, od, kV, doc, pm, an, cdv, ct, osl, rfl, lk, hcd⟩ := F.ex
  refine LamX.run_ofS (N := N) lk hcd S hr e0 bt r (rw'.len.trans hl) fun hr2 => ⟨_, hb cdv A outer s H E rfl hr2 hgd, startE N.length ws, cs, ω, startRep rw', hk, ?_⟩
  refine (Out.bind hO).imp fun fl ω1 cs1 H1 l1 k1 h1 => ?_
  cases fl with
  | nx env => exact fun _ _ => h1.now k1 .non .non
  | rt w => exact fun v rv => h1.now k1 v rv
  | bk env => exact (show False from h1).elim
  | ct env => exact (show False from h1).elim
section
variable {X : Cx} {E : XK} {gd : Bool} {k : Nat} {f : Addr} {fd : FuncData} {ps ks : List Str} {m : Fn} {x : Str} {p pos : Pos} {e : Expr} {es : List Expr} {g g2 : EvA} {kws : List Keyword}
theorem pass_never {X : Cx} : Passes (L2.CX X.prog X.w) X E0 := fun _ _ _ _ _ _ _ ⟨_, _, _, _, _, _, _, _, _, _, _, _, h⟩ => h.elim
def eFn (n : Nat) (m : Fn) (g : EvA) : Ev := fun env => M.bind (g env) fun ws => if ws.length = n then m ws else M.bad
theorem run_g {args : List Value} {kw : List (Str × Value)} {ω : Wo} {cs : List Cell} {ws : List Wv} {pins : List (Addr × Obj)} {σ : L2.St} {H : Hp} {s : Shared} {Q : VK} {us : List Value} {vs : List V} (F : FnG X.prog X.w X.K X.mg X.base gd k f fd ps m) (hr : Room k X.A) (hgd : gd = true → X.A.guards = some []) (hx : Passes (L2.CX X.prog X.w) X E)
    (hb : BindsTo s fd ⟨args, kw⟩ (ps.zip us)) (I : Inv X pins σ H s) (r : Vals vs us) (hl : ws.length = ps.length) (hk : Ok X.K ω H cs) (rw' : RepWs X.K ω vs ws) (h : Out X.K X.mg E ω (m ws cs) (fun w ω' _ H' => ∀ v, RepW X.K ω' v w → Q v H')) :
    wpAny (model X.prog X.w) X.A (call (.ref f) args kw) (EP X pins σ Q) X.xe s := by
  refine wpAny_call (codeAny_mono (F.run X.A X.stack s H ⟨args, kw⟩ us vs Q E ω cs ws hr hgd I.env0 hb r hl hk rw' h) fun r s' hq => ?_)
  cases r with
  | error e => exact hx pins σ H s e s' I hq
  | ok fl =>
    cases fl with
    | ret u => exact I.after hq
    | next => exact False.elim hq
    | brk => exact False.elim hq
    | cont => exact False.elim hq
theorem ev_callF (F : FnG X.prog X.w X.K X.mg X.base gd k f fd ps m) (hr : Room k X.A) (hgd : gd = true → X.A.guards = some []) (hx : Passes (L2.CX X.prog X.w) X E) (hg : Gl X x) (hm : X.mg x = some (.ref f)) (hkp : PySem.W.keepIn X.K (.ref f) = true) (hb : L2.Binds X.K fd ps [])
    (ha : EVA X E (e :: es) g) (hdb : (x == ("__debug__" : Str)) = false := by decide) (he : starEach (e :: es) X.env = (false, eval e X.env) :: starEach es X.env := by rfl) (hpl : (backTo pos (starEach es X.env)).any (·.1) = false := by rfl) :
    EV X E (.Call (.Name x p) (e :: es) [] pos) (eFn ps.length m g) := by
  refine ⟨fun pins s σ H Q I h => ?_⟩
  obtain ⟨env, cs, ω, hs, hk, h⟩ := h
  refine wpAny_Call_Name_kw (ld_glob I hg hm ?_ hdb)
  refine PySem.W.callWith_K (h₀ := X.base) I.ok.mod.kin hkp (thn (ha.run pos pins s σ H (fun vs H1 => ∃ ω1 cs1 ws, Ok X.K ω1 H1 cs1 ∧ RepWs X.K ω1 vs ws ∧ Out X.K X.mg E ω1 ((if ws.length = ps.length then m ws else M.bad) cs1) (fun w ω' _ H' => ∀ v, RepW X.K ω' v w → Q v H')) I ⟨env, cs, ω, hs, hk, h.bind.imp fun ws ω1 cs1 H1 l1 k1 h1 vs rv => ⟨ω1, cs1, ws, k1, rv, h1⟩⟩) fun us s1 ⟨vs, H1, I1, r, ω1, cs1, ws, k1, rv, h1⟩ => ⟨I1.kIn, ?_⟩) he hpl
  split at h1
  · rename_i hl
    exact run_g F hr hgd hx (by have q := hb s1 us I1.kIn (by rw [List.append_nil, ← r.length, rv.len]; exact hl); rwa [List.append_nil] at q) I1 r hl k1 rv h1
  · exact (show False from h1).elim
theorem PK.imp {kws : List Keyword} {t u : TA} (h : PK X kws t) (i : ∀ σ H Q, u σ H Q → t σ H Q) : PK X kws u := ⟨fun pos pins s σ H Q I q => h.run pos pins s σ H Q I (i σ H Q q)⟩
def pickL {α : Type} (π : List Nat) (xs : List α) : List α := π.filterMap fun i => xs[i]?
def eFnP (n : Nat) (π : List Nat) (m : Fn) (g : EvA) : Ev := fun env => M.bind (g env) fun ws => if ws.length = n ∧ (pickL π ws).length = n then m (pickL π ws) else M.bad
end
end DX
namespace DX
variable [TabT]
open PySem PySem.Spec PyProof.Rows L2
section
variable {X : Cx} {E : XK} {a b c e : Expr} {es : List Expr} {pos p apos cpos : Pos} {f g h : Ev} {ga : EvA}
def snap (cs : List Cell) : Wv → Option PyData
  | .dat d => py d
  | .cel k => match cs[k]? with
    | some (.lst ws) => ((dats ws).bind pys).map .list
    | _ => none
theorem snap_of {K : Frag} {ω : Wo} {H : Hp} {cs : List Cell} {v : V} {w : Wv} {q : PyData} (k : Ok K ω H cs) (r : RepW K ω v w) (e : snap cs w = some q) : Dp K H v q := by
  cases w with
  | dat d => exact dp_of d v q (RepD.mono k.ex d v r) e
  | cel i =>
    obtain ⟨a, e1, rfl⟩ := r
    unfold snap at e
    dsimp only at e
    cases hc : cs[i]? with
    | none => rw [hc] at e; cases e
    | some c =>
      rw [hc] at e
      have qc := k.cell e1 hc
      cases c with
      | lst ws =>
        obtain ⟨_, vs, h1, h2⟩ := qc
        have e : ((dats ws).bind pys).map PyData.list = some q := e
        cases hd : dats ws with
        | none => rw [hd] at e; cases e
        | some ds =>
          rw [hd] at e
          have e : (pys ds).map PyData.list = some q := e
          cases hp : pys ds with
          | none => rw [hp] at e; cases e
          | some ps =>
            rw [hp] at e
            cases e
            exact .lst (SqL.of h1) (dps_of ds vs ps (RepL.mono k.ex ds vs (h2.dats hd)) hp)
      | dic l => cases e
      | ins C l => cases e
      | dead => cases e
      | lck l => cases e
      | dit b l => cases e
def eqS : Wv → Wv → Option Bool
  | .dat (.int i), .dat (.int j) => some (i == j)
  | .dat (.str i), .dat (.str j) => some (i == j)
  | .dat (.bl i), .dat (.bl j) => some (i == j)
  | _, _ => none
def eqL (x y : Wv) (cs : List Cell) : Option Bool := match snap cs x, snap cs y with
  | some p, some q => if (SeqAt.shaped p && SeqAt.shaped q) = true then some (PyData.eqv p q) else none
  | _, _ => none
def eqB (x y : Wv) (cs : List Cell) : Option Bool := match eqS x y with
  | some b => some b
  | none => eqL x y cs
def eqC (neg : Bool) (x y : Wv) (cs : List Cell) : Option Dt := (eqB x y cs).map fun b => .bl (if neg then !b else b)
theorem eqL_of {x y : Wv} {cs : List Cell} {b : Bool} (h : eqL x y cs = some b) : ∃ p q, snap cs x = some p ∧ snap cs y = some q ∧ SeqAt.shaped p = true ∧ SeqAt.shaped q = true ∧ b = PyData.eqv p q := by
  unfold eqL at h
  split at h
  · rename_i p q e1 e2
    split at h
    · rename_i hh
      simp only [Bool.and_eq_true] at hh
      exact ⟨p, q, e1, e2, hh.1, hh.2, (Option.some.inj h).symm⟩
    · cases h
  · cases h
def eEqC (neg : Bool) (f g : Ev) : Ev := fun env => M.bind (f env) fun x => M.bind (g env) fun y => fun cs => M.opt ((eqC neg x y cs).map .dat) cs
def rEqN (K : Frag) (neg : Bool) : R2 := fun x y H Q => (if neg then rNe x y H Q else rEq x y H Q) ∨ (if neg then rNeD K x y H Q else rEqD K x y H Q)
theorem eqB_use {K : Frag} {ω : Wo} {H : Hp} {cs : List Cell} {neg : Bool} {u v : V} {x y : Wv} {b : Bool} {Q : VK} (k : Ok K ω H cs) (ru : RepW K ω u x) (rv : RepW K ω v y) (e : eqB x y cs = some b) (q : Q (.bl (if neg then !b else b)) H) : rEqN K neg u v H Q := by
  unfold eqB at e
  split at e
  · rename_i b' e1
    cases e
    have key : scal u v = true ∧ b = decide (u = v) := by
      unfold eqS at e1
      split at e1
      · rename_i i j
        cases (show RepD K ω.Hs u (.int i) from ru)
        cases (show RepD K ω.Hs v (.int j) from rv)
        cases e1
        exact ⟨rfl, dec_int.symm⟩
      · rename_i i j
        cases (show RepD K ω.Hs u (.str i) from ru)
        cases (show RepD K ω.Hs v (.str j) from rv)
        cases e1
        exact ⟨rfl, dec_str.symm⟩
      · rename_i i j
        cases (show RepD K ω.Hs u (.bl i) from ru)
        cases (show RepD K ω.Hs v (.bl j) from rv)
        cases e1
        exact ⟨rfl, dec_bl.symm⟩
      · cases e1
    obtain ⟨h1, rfl⟩ := key
    cases neg with
    | true => exact .inl ⟨h1, q⟩
    | false => exact .inl ⟨h1, q⟩
  · obtain ⟨p, p', e1, e2, s1, s2, rfl⟩ := eqL_of e
    cases neg with
    | true => exact .inr ⟨p, p', snap_of k ru e1, snap_of k rv e2, s1, s2, q⟩
    | false => exact .inr ⟨p, p', snap_of k ru e1, snap_of k rv e2, s1, s2, q⟩
theorem eqC_use {neg : Bool} {σ : L2.St} {H : Hp} {Q : VK} (hh : tEv X.K X.mg E (eEqC neg f g) σ H Q) : tOp (rEqN X.K neg) (tEv X.K X.mg E f) (tEv X.K X.mg E g) σ H Q := by
  obtain ⟨env, cs, ω, hs, hk, h⟩ := hh
  refine ⟨env, cs, ω, hs, hk, h.bind.imp fun x ω1 cs1 H1 l1 k1 h1 u ru => ⟨env, cs1, ω1, hs.mono l1, k1, h1.bind.imp fun y ω2 cs2 H2 l2 k2 h2 v rv => ?_⟩⟩
  obtain ⟨z, e, h3⟩ := Out.map_some (show Out X.K X.mg E ω2 (M.opt ((eqC neg x y cs2).map Wv.dat) cs2) _ from h2)
  unfold eqC at e
  cases hb : eqB x y cs2 with
  | none => rw [hb] at e; cases e
  | some b =>
    rw [hb] at e
    cases e
    exact eqB_use k2 (ru.mono l2) rv hb (h3.now k2 _ (RepD.bl _))
theorem op_eqN (hu : X.A.units + 64 < cLine) : OpR X (compareOp .Eq) (rEqN X.K false) := OpR.or op_eq (op_eqD hu)
theorem op_neN (hu : X.A.units + 64 < cLine) : OpR X (compareOp .NotEq) (rEqN X.K true) := OpR.or op_ne (op_neD hu)
theorem ev_eqC (hu : X.A.units + 64 < cLine) (ha : EV X E a f) (hb : EV X E b g) : EV X E (.Compare a [.Eq] [b] pos) (eEqC false f g) := PE.imp (pe_cmpR (op_eqN hu) ha hb (nomark _)) fun _ _ _ h => eqC_use (neg := false) h
theorem et_eqC (hu : X.A.units + 64 < cLine) (ha : EV X E a f) (hb : EV X E b g) : EVT X E (.Compare a [.Eq] [b] pos) (tCmpE (eEqC false f g)) := PT.imp (pt_cmpR (op_eqN hu) ha hb (nomark _)) fun _ _ _ h => tEv_test (fun _ _ _ h => eqC_use (neg := false) h) h
theorem et_neC (hu : X.A.units + 64 < cLine) (ha : EV X E a f) (hb : EV X E b g) : EVT X E (.Compare a [.NotEq] [b] pos) (tCmpE (eEqC true f g)) := PT.imp (pt_cmpR (op_neN hu) ha hb (nomark _)) fun _ _ _ h => tEv_test (fun _ _ _ h => eqC_use (neg := true) h) h
theorem Ok.setCell {K : Frag} {ω : Wo} {H : Hp} {cs : List Cell} {i : Nat} {a : Addr} {o o' : HO} {c : Cell} (k : Ok K ω H cs) (e : ω.ad[i]? = some a) (hn : ω.Hs a = none ∧ ω.fr a = none) (ho : H a = some o) (hp : (∀ ps, o ≠ .tbl ps) ∧ ∀ b q, o ≠ LamX.CodeO b q) (hc : CellAt K ω (upd H a o') a c) (hz : ∀ u v, o ≠ .frz u v := by intro u v z; cases z) : Ok K ω (upd H a o') (cs.set i c) := by
  refine ⟨fun b u hb => ?_, by rw [List.length_set]; exact k.len, k.nd, fun j b c' e1 e2 => ?_, fun q hq => ?_, fun b u hb => ?_, k.dj, k.nt, k.nf, fun b oo vs e => by
    have ne : b ≠ a := fun z => by
      have q := k.lk b oo vs e
      rw [z, ho] at q
      cases q
      exact hz _ _ rfl
    rw [upd_ne ne]
    exact k.lk b oo vs e⟩
  · rw [upd_ne (ne_of_none hb hn.1)]
    exact k.ex b u hb
  · by_cases hj : i = j
    · subst hj
      rw [e] at e1
      cases e1
      have hl : i < cs.length := by
        rw [k.len]
        exact (List.getElem?_eq_some_iff.mp e).1
      rw [List.getElem?_set_self hl] at e2
      cases e2
      exact hc
    · rw [List.getElem?_set_ne hj] at e2
      have q := k.cel j b c' e1 e2
      have ne : b ≠ a := fun z => by
        subst z
        obtain ⟨h1, g1⟩ := List.getElem?_eq_some_iff.mp e
        obtain ⟨h2, g2⟩ := List.getElem?_eq_some_iff.mp e1
        exact hj ((List.getElem_inj k.nd).mp (g1.trans g2.symm))
      exact q.mono (Le.refl ω) id fun u z => by rw [upd_ne ne]; exact z
  · obtain ⟨ps, h1, h2, h3⟩ := k.tab q hq
    have ne : ∀ {b u}, H b = some u → o ≠ u → b ≠ a := fun {b u} e d z => by
      rw [z, ho] at e
      exact d (Option.some.inj e)
    refine ⟨ps, by rw [upd_ne (ne h1 (hp.1 _))]; exact h1, h2, fun pos cv hc => ?_⟩
    obtain ⟨c, e1, e2⟩ := h3 pos cv hc
    exact ⟨c, e1, by rw [upd_ne (ne e2 (hp.2 _ _))]; exact e2⟩
  · rw [upd_ne (ne_of_none hb hn.2)]
    exact k.frx b u hb
theorem lst_plain {xs : List V} : (∀ ps, HO.lst xs ≠ .tbl ps) ∧ ∀ b q, HO.lst xs ≠ LamX.CodeO b q := ⟨fun ps z => (nomatch z), fun b q z => by unfold LamX.CodeO at z; cases z⟩
theorem dK_plain {xs : List (Key × V)} : (∀ ps, HO.dK xs ≠ .tbl ps) ∧ ∀ b q, HO.dK xs ≠ LamX.CodeO b q := ⟨fun ps z => (nomatch z), fun b q z => by unfold LamX.CodeO at z; cases z⟩
def MethO (K : Frag) (mg : MG) (E : XK) (r : V → List V → Hp → VK → Prop) (o : Wv → List Wv → M Wv) : Prop := ∀ (ω : Wo) (H : Hp) (cs : List Cell) (v : V) (x : Wv) (vs : List V) (ws : List Wv), Ok K ω H cs → RepW K ω v x → RepWs K ω vs ws →
  ∀ Q : VK, Out K mg E ω (o x ws cs) (fun w ω' _ H' => ∀ v, RepW K ω' v w → Q v H') → r v vs H Q
def okStr (x : Wv) (_ : List Cell) : Bool := match x with
  | .dat (.str _) => true
  | _ => false
def okLst (x : Wv) (cs : List Cell) : Bool := match x with
  | .cel k => match cs[k]? with
    | some (.lst _) => true
    | _ => false
  | _ => false
def TyO (K : Frag) (T : String) (ok : Wv → List Cell → Bool) : Prop := ∀ (ω : Wo) (H : Hp) (cs : List Cell) (v : V) (x : Wv), Ok K ω H cs → RepW K ω v x → ok x cs = true → tyV K T v H
theorem ty_lst {K : Frag} : TyO K "list" okLst := fun ω H cs v x k r e => by
  cases x with
  | dat d => cases e
  | cel i =>
    obtain ⟨a, e1, rfl⟩ := r
    unfold okLst at e
    dsimp only at e
    cases hc : cs[i]? with
    | none => rw [hc] at e; cases e
    | some c =>
      rw [hc] at e
      have q := k.cell e1 hc
      cases c with
      | lst ws => obtain ⟨_, vs, h1, _⟩ := q; exact .inl ⟨rfl, vs, SqL.of h1⟩
      | dic l => cases e
      | ins C l => cases e
      | dead => cases e
      | lck l => cases e
      | dit b l => cases e
def eMeth (ok : Wv → List Cell → Bool) (o : Wv → List Wv → M Wv) (f : Ev) (g : EvA) : Ev := fun env => M.bind (f env) fun x => fun cs => if ok x cs = true then M.bind (g env) (fun ws => o x ws) cs else .bad
theorem meth_use {T : String} {ok : Wv → List Cell → Bool} {o : Wv → List Wv → M Wv} {r : V → List V → Hp → VK → Prop} (ht : TyO X.K T ok) (hr : MethO X.K X.mg E r o) {σ : L2.St} {H : Hp} {Q : VK} (hh : tEv X.K X.mg E (eMeth ok o f ga) σ H Q) : tBM X.K T r (tEv X.K X.mg E f) (tEvA X.K X.mg E ga) σ H Q := by
  obtain ⟨env, cs, ω, hs, hk, h⟩ := hh
  refine ⟨env, cs, ω, hs, hk, h.bind.imp fun x ω1 cs1 H1 l1 k1 h1 v rv => ?_⟩
  have h1 : Out X.K X.mg E ω1 (if ok x cs1 = true then M.bind (ga env) (fun ws => o x ws) cs1 else .bad) _ := h1
  split at h1
  · rename_i hok
    exact ⟨ht ω1 H1 cs1 v x k1 rv hok, env, cs1, ω1, hs.mono l1, k1, h1.bind.imp fun ws ω2 cs2 H2 l2 k2 h2 vs rvs => hr ω2 H2 cs2 v x vs ws k2 (rv.mono l2) rvs Q h2⟩
  · exact (show False from h1).elim
theorem ev_bm {T id : String} {name : Str} {ok : Wv → List Cell → Bool} {o : Wv → List Wv → M Wv} {r : V → List V → Hp → VK → Prop} (pa : PlainAttrs T) (slot : Slot T name id) (hty : typeOf (.builtin id) = pure (.type "method_descriptor")) (hm : MtR X id r) (ht : TyO X.K T ok) (hr : MethO X.K X.mg E r o) (ho : EV X E a f) (ha : EVA X E (e :: es) ga)
    (hbase : attributeBase a name X.env (eval a X.env) = eval a X.env := by rfl)
    (hfew : ((backTo cpos (starEach (e :: es) X.env)).all (fun x => !x.1) && (backToKw cpos (keywordEach [] X.env)).all (fun x => x.1.isSome)
      && decide ((e :: es).length + ([] : List Keyword).length + (if ([] : List Keyword).isEmpty then 0 else 1) < 30)) = true := by rfl)
    (hline : (apos.endLine == cpos.line) = true := by rfl) (hs : starEach (e :: es) X.env = (false, eval e X.env) :: starEach es X.env := by rfl) (hplain : (backTo cpos (starEach es X.env)).any (·.1) = false := by rfl) :
    EV X E (.Call (.Attribute a name apos) (e :: es) [] cpos) (eMeth ok o f ga) := PE.imp (pe_bm pa slot hty hm ho ha hbase hfew hline hs hplain) fun _ _ _ h => meth_use ht hr h
def oStr1 (k : Str → Str → Option Dt) (x : Wv) (ws : List Wv) : M Wv := match x, ws with
  | .dat (.str a), [.dat (.str b)] => M.opt ((k a b).map .dat)
  | _, _ => M.bad
def strsOf : List Dt → Option (List Str)
  | [] => some []
  | .str s :: l => (strsOf l).map (s :: ·)
  | _ => none
def kJoin (a : Str) (ds : List Dt) : Option Dt := (strsOf ds).bind fun ys => if decide ((ys.map (·.length)).sum + ys.length * a.length ≤ 16777216) = true then some (.str (Txt.join a ys)) else none
def oJoin (x : Wv) (ws : List Wv) : M Wv := match x, ws with
  | .dat (.str a), [.dat (.lst ds)] => M.opt ((kJoin a ds).map .dat)
  | .dat (.str a), [.dat (.tup ds)] => M.opt ((kJoin a ds).map .dat)
  | _, _ => M.bad
def oAppend (x : Wv) (ws : List Wv) : M Wv := fun cs => match x, ws with
  | .cel k, [w] => match cs[k]? with
    | some (.lst l) => if decide (l.length < 16777216) = true then .ok (.dat .non) (cs.set k (.lst (l ++ [w]))) else .bad
    | _ => .bad
  | _, _ => .bad
theorem RepWs.one' {K : Frag} {ω : Wo} {vs : List V} {w : Wv} (h : RepWs K ω vs [w]) : ∃ v, vs = [v] ∧ RepW K ω v w := by
  cases h with
  | cons h1 h2 => cases h2; exact ⟨_, rfl, h1⟩
theorem Out.okk {K : Frag} {mg : MG} {E : XK} {α : Type} {ω : Wo} {F : α → Wo → List Cell → Hp → Prop} {a : α} {cs : List Cell} {H : Hp} (h : Out K mg E ω (.ok a cs) F) (k : Ok K ω H cs) : F a ω cs H := h ω H (Le.refl ω) k
theorem mo_append : MethO X.K X.mg E rAppend oAppend := fun ω H cs v x vs ws ok rx rs Q h => by
  unfold oAppend at h
  split at h
  · rename_i x ws i w
    cases hc : cs[i]? with
    | none => rw [hc] at h; exact (show False from h).elim
    | some c =>
      rw [hc] at h
      obtain ⟨a, e1, rfl⟩ := rx
      have q := ok.cell e1 hc
      cases c with
      | lst l =>
        have h : Out X.K X.mg E ω (if decide (l.length < 16777216) = true then R.ok (Wv.dat Dt.non) (cs.set i (Cell.lst (l ++ [w]))) else R.bad) _ := h
        split at h
        · rename_i hl
          have hl := of_decide_eq_true hl
          obtain ⟨hn, xs, h1, h2⟩ := q
          obtain ⟨u, rfl, r1⟩ := rs.one'
          have r3 : RepWs X.K ω (xs ++ [u]) (l ++ [w]) := h2.app (.cons r1 .nil)
          exact ⟨a, xs, u, rfl, rfl, h1, by rw [sizeLine_eq, h2.len]; exact hl, h.okk (ok.setCell e1 hn h1 lst_plain ⟨hn, _, upd_same, r3⟩) _ (.non)⟩
        · exact (show False from h).elim
      | dic l => exact (show False from h).elim
      | ins C l => exact (show False from h).elim
      | dead => exact (show False from h).elim
      | lck l => exact (show False from h).elim
      | dit b l => exact (show False from h).elim
  · exact (show False from h).elim
def oPopAt (x : Wv) (ws : List Wv) : M Wv := fun cs => match x, ws with
  | .cel k, [.dat (.int i)] => match cs[k]? with
    | some (.lst l) => if (decide (-9223372036854775808 ≤ i) && decide (i < 9223372036854775808)) = true then match seqIndex? i l.length with
      | some j => match l[j]? with
        | some w => .ok w (cs.set k (.lst (l.eraseIdx j)))
        | none => .bad
      | none => .bad
      else .bad
    | _ => .bad
  | _, _ => .bad
theorem RepWs.erase {K : Frag} {ω : Wo} {vs : List V} {ws : List Wv} (r : RepWs K ω vs ws) : ∀ j : Nat, RepWs K ω (vs.eraseIdx j) (ws.eraseIdx j) := by
  induction r with
  | nil => intro j; exact .nil
  | cons h1 h2 ih =>
    intro j
    cases j with
    | zero => exact h2
    | succ j => exact .cons h1 (ih j)
theorem mo_popAt : MethO X.K X.mg E rPopAt oPopAt := fun ω H cs v x vs ws ok rx rs Q h => by
  unfold oPopAt at h
  split at h
  · rename_i x ws i z
    cases hc : cs[i]? with
    | none => rw [hc] at h; exact (show False from h).elim
    | some c =>
      rw [hc] at h
      obtain ⟨a, e1, rfl⟩ := rx
      have q := ok.cell e1 hc
      cases c with
      | lst l =>
        dsimp only at h
        split at h
        · rename_i hz
          simp only [Bool.and_eq_true] at hz
          obtain ⟨hn, xs, h1, h2⟩ := q
          obtain ⟨u, rfl, r1⟩ := rs.one
          cases r1
          cases hj : seqIndex? z l.length with
          | none => rw [hj] at h; exact (show False from h).elim
          | some j =>
            rw [hj] at h
            dsimp only at h
            cases hw : l[j]? with
            | none => rw [hw] at h; exact (show False from h).elim
            | some w =>
              rw [hw] at h
              obtain ⟨y, hy, r2⟩ := h2.at hw
              refine ⟨a, xs, z, j, y, rfl, rfl, h1, of_decide_eq_true hz.1, of_decide_eq_true hz.2, by rw [h2.len]; exact hj, hy, ?_⟩
              exact h.okk (ok.setCell e1 hn h1 lst_plain ⟨hn, _, upd_same, h2.erase j⟩) _ r2
        · exact (show False from h).elim
      | dic l => exact (show False from h).elim
      | ins C l => exact (show False from h).elim
      | dead => exact (show False from h).elim
      | lck l => exact (show False from h).elim
      | dit b l => exact (show False from h).elim
  · exact (show False from h).elim
theorem ev_append (ho : EV X E a f) (ha : EVA X E [e] ga) (hbase : attributeBase a "append" X.env (eval a X.env) = eval a X.env := by rfl)
    (hfew : ((backTo cpos (starEach [e] X.env)).all (fun x => !x.1) && (backToKw cpos (keywordEach [] X.env)).all (fun x => x.1.isSome) && decide (([e] : List Expr).length + ([] : List Keyword).length + (if ([] : List Keyword).isEmpty then 0 else 1) < 30)) = true := by rfl)
    (hline : (apos.endLine == cpos.line) = true := by rfl) (hs : starEach [e] X.env = (false, eval e X.env) :: starEach [] X.env := by rfl) :
    EV X E (.Call (.Attribute a "append" apos) [e] [] cpos) (eMeth okLst oAppend f ga) :=
  ev_bm PySem.F.plainAttrs_list PySem.F.slot_list_append PySem.F.type_list_append mt_append ty_lst mo_append ho ha hbase hfew hline hs rfl
theorem ev_popAt (ho : EV X E a f) (ha : EVA X E [e] ga) (hbase : attributeBase a "pop" X.env (eval a X.env) = eval a X.env := by rfl)
    (hfew : ((backTo cpos (starEach [e] X.env)).all (fun x => !x.1) && (backToKw cpos (keywordEach [] X.env)).all (fun x => x.1.isSome) && decide (([e] : List Expr).length + ([] : List Keyword).length + (if ([] : List Keyword).isEmpty then 0 else 1) < 30)) = true := by rfl)
    (hline : (apos.endLine == cpos.line) = true := by rfl) (hs : starEach [e] X.env = (false, eval e X.env) :: starEach [] X.env := by rfl) :
    EV X E (.Call (.Attribute a "pop" apos) [e] [] cpos) (eMeth okLst oPopAt f ga) :=
  ev_bm PySem.F.plainAttrs_list PySem.F.slot_list_pop PySem.F.type_list_pop mt_popAt ty_lst mo_popAt ho ha hbase hfew hline hs rfl
def putW {α : Type} (l : List (Key × α)) (k : Key) (w : α) : List (Key × α) := if (l.any fun p => decide (p.1 = k)) = true then l.map (fun p => if p.1 = k then (p.1, w) else p) else l ++ [(k, w)]
theorem RepWk.any {K : Frag} {ω : Wo} {vs : List (Key × V)} {ws : List (Key × Wv)} (r : RepWk K ω vs ws) (k : Key) : (vs.any fun p => decide (p.1 = k)) = ws.any fun p => decide (p.1 = k) := by
  induction r with
  | nil => rfl
  | cons _ _ ih => simp only [List.any_cons, ih]
theorem RepWk.map {K : Frag} {ω : Wo} {k : Key} {v : V} {w : Wv} {vs : List (Key × V)} {ws : List (Key × Wv)} (r : RepWk K ω vs ws) (h : RepW K ω v w) : RepWk K ω (vs.map fun p => if p.1 = k then (p.1, v) else p) (ws.map fun p => if p.1 = k then (p.1, w) else p) := by
  induction r with
  | nil => exact .nil
  | @cons k' v' vs' w' ws' h1 _ ih =>
    simp only [List.map_cons]
    by_cases e : k' = k
    · simp only [e, if_true]
      exact .cons h ih
    · simp only [e, if_false]
      exact .cons h1 ih
theorem RepWk.app {K : Frag} {ω : Wo} {vs us : List (Key × V)} {ws zs : List (Key × Wv)} (r : RepWk K ω vs ws) (q : RepWk K ω us zs) : RepWk K ω (vs ++ us) (ws ++ zs) := by
  induction r with
  | nil => exact q
  | cons h1 _ ih => exact .cons h1 ih
theorem RepWk.put {K : Frag} {ω : Wo} {k : Key} {v : V} {w : Wv} {vs : List (Key × V)} {ws : List (Key × Wv)} (r : RepWk K ω vs ws) (h : RepW K ω v w) : RepWk K ω (putK vs k v) (putW ws k w) := by
  unfold putK putW
  rw [r.any k]
  split
  · exact r.map h
  · exact r.app (.cons h .nil)
def mPut (x y w : Wv) : M Unit := fun cs => match x, y with
  | .cel k, .dat y => match cs[k]?, keyOf y with
    | some (.dic l), some key => if decide (l.length < 16777216) = true then .ok () (cs.set k (.dic (putW l key w))) else .bad
    | _, _ => .bad
  | _, _ => .bad
def sPut (fo fi fv : Ev) : Sv := fun env => M.bind (fv env) fun w => M.bind (fo env) fun x => M.bind (fi env) fun y => M.bind (mPut x y w) fun _ => M.ret (.nx env)
theorem sv_put {o i value : Expr} {fo fi fv : Ev} {pos' : Pos} (hu : X.A.units + 1 < cLine) (ho : EV X E o fo) (hi : EV X E i fi) (hv : EV X E value fv) (hs : swapsWith value (some (.Subscript o i pos')) pos.line X.env = pure false := by rfl) :
    SV X E (.Assign [.Subscript o i pos'] value pos) (sPut fo fi fv) := PS.imp (ps_dput hu ho hi hv hs) fun D σ H ⟨env, cs, ω, hst, hk, h⟩ =>
  ⟨env, cs, ω, hst, hk, h.bind.imp fun w ω1 cs1 H1 l1 k1 h1 v rv => ⟨env, cs1, ω1, hst.mono l1, k1, h1.bind.imp fun x ω2 cs2 H2 l2 k2 h2 u ru => ⟨env, cs2, ω2, hst.mono (l1.trans l2), k2, h2.bind.imp fun y ω3 cs3 H3 l3 k3 h3 t rt => by
    have h4 := h3.bind
    unfold mPut at h4
    split at h4
    · rename_i x y j d
      split at h4
      · rename_i l key hc hkey
        split at h4
        · rename_i hl
          have hl := of_decide_eq_true hl
          obtain ⟨a, e1, rfl⟩ := (ru.mono l3)
          obtain ⟨hn, xs, q1, q2⟩ := k3.cell e1 hc
          have et := keyOf_rep rt hkey
          subst et
          have rv3 : RepW X.K ω3 v w := rv.mono (l2.trans l3)
          have z := h4.okk (k3.setCell e1 hn q1 dK_plain ⟨hn, _, upd_same, q2.put (k := key) rv3⟩)
          exact ⟨a, _, rfl, DPut.k q1 (by rw [sizeLine_eq, q2.len]; exact hl), (z.now (k3.setCell e1 hn q1 dK_plain ⟨hn, _, upd_same, q2.put (k := key) rv3⟩)) σ (hst.mono ((l1.trans l2).trans l3))⟩
        · exact (show False from h4).elim
      · exact (show False from h4).elim
    · exact (show False from h4).elim⟩⟩⟩
end
end DX
namespace DX
open PySem PySem.Spec PyProof.Rows L2
variable [TabT]
section
variable {X : Cx} {E : XK} {e : Expr} {pos : Pos} {f : Ev}
def EVP (X : Cx) (E : XK) (pos : Pos) (ks : List (Option Expr)) (vs : List Expr) (l : List (Key × Ev)) : Prop := PPs X pos ks vs (l.map fun q => ((fun _ H Q => Q (kV q.1) H : TE), tEv X.K X.mg E q.2))
theorem ep_nil : EVP X E pos [] [] [] := pps_nil
theorem ep_str {ks : List (Option Expr)} {vs : List Expr} {l : List (Key × Ev)} {s : Str} {j : Nat} {p : Pos} (h : EV X E e f) (r : EVP X E pos ks vs l) : EVP X E pos (some (.Constant (.str s) j p) :: ks) (e :: vs) ((.inr s, f) :: l) := pps_cons pe_str h r
def mVals : List (Key × Ev) → En → M (List (Key × Wv))
  | [], _ => M.ret []
  | (k, f) :: l, env => M.bind (f env) fun w => M.bind (mVals l env) fun r => M.ret ((k, w) :: r)
theorem pairs_use {K : Frag} {mg : MG} {σ : L2.St} {env : En} : ∀ (l : List (Key × Ev)) {ω : Wo} {H : Hp} {cs : List Cell} {G : List (Key × Wv) → Wo → List Cell → Hp → Prop} {R : List (V × V) → Hp → Prop}, StRep K ω σ env → Ok K ω H cs → Out K mg E ω (mVals l env cs) G →
    (∀ kws ω' cs' H', Le ω ω' → Ok K ω' H' cs' → kws.map (·.1) = l.map (·.1) → G kws ω' cs' H' → ∀ vs, RepWk K ω' vs kws → R (vs.map fun q => (kV q.1, q.2)) H') → tPairs (l.map fun q => ((fun _ H Q => Q (kV q.1) H : TE), tEv K mg E q.2)) σ H R
  | [], ω, H, cs, G, R, hs, hk, h, hr => hr [] ω cs H (Le.refl _) hk rfl (h.now hk) [] .nil
  | (k, f) :: l, ω, H, cs, G, R, hs, hk, h, hr => by
    refine ⟨env, cs, ω, hs, hk, (Out.bind h).imp fun w ω1 cs1 H1 l1 k1 h1 v rv => ?_⟩
    refine pairs_use l (hs.mono l1) k1 (Out.bind h1) fun kws ω2 cs2 H2 l2 k2 hk2 h2 vs rvs => ?_
    exact hr ((k, w) :: kws) ω2 cs2 H2 (l1.trans l2) k2 (by simp [hk2]) (h2.now k2) ((k, v) :: vs) (.cons (rv.mono l2) rvs)
theorem putK_newk {vs : List (Key × V)} {k : Key} {v : V} (h : k ∉ vs.map (·.1)) : putK vs k v = vs ++ [(k, v)] := by
  unfold putK
  have e : (vs.any fun q => decide (q.1 = k)) = false := by
    rw [List.any_eq_false]
    intro q hq
    simp only [decide_eq_true_eq]
    exact fun z => h (List.mem_map.mpr ⟨q, hq, z⟩)
  rw [e]
  rfl
theorem merge_nodup : ∀ (vs acc : List (Key × V)), ((acc ++ vs).map (·.1)).Nodup → mergeK acc vs = acc ++ vs
  | [], acc, _ => by simp [mergeK]
  | (k, v) :: vs, acc, h => by
    have nk : k ∉ acc.map (·.1) := fun z => by
      rw [List.map_append, List.nodup_append] at h
      exact h.2.2 k z k (by simp) rfl
    show mergeK (putK acc k v) vs = _
    rw [putK_newk nk, merge_nodup vs (acc ++ [(k, v)]) (by simpa using h)]
    simp
def keysOk (l : List (Key × Ev)) : Bool := decide ((l.map (·.1)).Nodup)
theorem RepWk.keys {K : Frag} {ω : Wo} {vs : List (Key × V)} {ws : List (Key × Wv)} (r : RepWk K ω vs ws) : vs.map (·.1) = ws.map (·.1) := by
  induction r with
  | nil => rfl
  | cons _ _ ih => simp [ih]
abbrev EvK := En → M (List (Key × Wv))
/-- a new dict -/
def tEvK (K : Frag) (mg : MG) (E : XK) (f : EvK) : TE := fun σ H Q => ∃ env cs ω, StRep K ω σ env ∧ Ok K ω H cs ∧ Out K mg E ω (f env cs) fun ws ω' _ H' => ∀ p vs, H' p = none → RepWk K ω' vs ws → Q (.ref p) (upd H' p (.dK vs))
theorem hide_upd {H : Hp} {p : Addr} {o : HO} : upd (hide H p) p o = upd H p o := by
  funext b
  by_cases hb : b = p
  · rw [hb, upd_same, upd_same]
  · rw [upd_ne hb, upd_ne hb, hide_ne hb]
theorem Out.underH {K : Frag} {mg : MG} {ω ω2 : Wo} {fr0 : Hp} {α : Type} {r : R α} {F : α → Wo → List Cell → Hp → Prop} (h : Out K mg E ω r F) (l : Le ω (ω2.back fr0)) (sub : ∀ a o, fr0 a = some o → ω2.fr a = some o) : Out K mg E ω2 r (fun a ω' cs' H' => ∀ H'', Ok K (ω'.back fr0) H'' cs' → F a (ω'.back fr0) cs' H'') := by
  have le : ∀ {ω'}, Le ω2 ω' → Le ω (ω'.back fr0) := fun {ω'} l2 => ⟨l.ex.trans l2.ex, l.ad.trans l2.ad, l2.tb.trans l.tb, l.fr⟩
  cases r with
  | ok a cs => exact fun ω' H' l2 k2 H'' k'' => h _ H'' (le l2) k''
  | exc x cs => exact fun C ω' H' m l2 k2 => h C (ω'.back fr0) H' m (le l2) (k2.back fun a o e => by rw [l2.fr]; exact sub a o e)
  | bad => exact h
theorem ek_dict {ks : List (Option Expr)} {vs : List Expr} {l : List (Key × Ev)} (h : EVP X E pos ks vs l) (hall : ks.all (·.isSome) = true) (hl : ks.length = vs.length) (h0 : ks ≠ []) (h15 : ks.length ≤ 15) (hl15 : l.length ≤ 15) (hn : keysOk l = true) : PE X (.Dict ks vs pos) (tEvK X.K X.mg E (mVals l)) :=
  PE.imp (pe_disp h hall hl h0 h15) fun σ H Q ⟨env, cs, ω, hs, hk, h⟩ p hp => by
    have hkp := hk.keep (o := .dK []) hp
    have fp : ω.fr p = none := hk.frx.back hp
    refine pairs_use l (hs.fr _ : StRep X.K (ω.keep p (.dK [])) σ env) hkp (Out.underH (ω := ω) (ω2 := ω.keep p (.dK [])) (fr0 := ω.fr) h (Le.refl _) fun a o e => by show upd _ _ _ a = _; rw [upd_ne (ne_of_none e fp)]; exact e) fun kws ω3 cs3 H3 l3 k3 hkk h3 vs rv => ?_
    have e3 : ω3.fr = upd ω.fr p (.dK []) := l3.fr
    have hfp : ω3.fr p = some (.dK []) := by rw [e3, upd_same]
    have hH : H3 p = some (.dK []) := k3.frx p _ hfp
    have kd := k3.drop hfp e3 fp
    have nd : (vs.map (·.1)).Nodup := by
      rw [rv.keys, hkk]
      exact of_decide_eq_true hn
    refine ⟨hH, vs, rfl, ?_, ?_⟩
    · have := rv.len
      have h2 := congrArg List.length hkk
      simp only [List.length_map] at h2
      omega
    · rw [merge_nodup vs [] (by simpa using nd)]
      have z := h3 (hide H3 p) kd p vs hide_same (rv.fr ω.fr)
      rw [hide_upd] at z
      simpa using z
def datK : List (Key × Wv) → Option (List (Key × Dt))
  | [] => some []
  | (k, .dat d) :: l => (datK l).map ((k, d) :: ·)
  | (_, .cel _) :: _ => none
theorem RepWk.datK {K : Frag} {ω : Wo} : ∀ {vs : List (Key × V)} {ws : List (Key × Wv)} {ds : List (Key × Dt)}, RepWk K ω vs ws → datK ws = some ds → RepK K ω.Hs vs ds
  | _, [], _, h, e => by cases h; cases e; exact .nil
  | _, (k, .dat d) :: ws, _, h, e => by
    cases h with
    | cons h1 h2 =>
      have e : (DX.datK ws).map ((k, d) :: ·) = some _ := e
      cases q : DX.datK ws with
      | none => rw [q] at e; cases e
      | some es =>
        rw [q] at e
        cases e
        exact .cons h1 (h2.datK q)
  | _, (k, .cel _) :: ws, _, h, e => by cases e
def eDicC (l : List (Key × Ev)) : Ev := fun env => M.bind (mVals l env) fun ws => mCell (.dic ws)
def eDic (l : List (Key × Ev)) : Ev := fun env => M.bind (mVals l env) fun ws => M.bind (M.opt (datK ws)) fun ds => M.ret (.dat (.dic ds))
theorem ev_dicC {ks : List (Option Expr)} {vs : List Expr} {l : List (Key × Ev)} (h : EVP X E pos ks vs l) (hall : ks.all (·.isSome) = true := by rfl) (hl : ks.length = vs.length := by rfl) (h0 : ks ≠ [] := by exact List.cons_ne_nil _ _) (h15 : ks.length ≤ 15 := by decide) (hl15 : l.length ≤ 15 := by exact of_decide_eq_true rfl) (hn : keysOk l = true := by decide +kernel) :
    EV X E (.Dict ks vs pos) (eDicC l) := PE.imp (ek_dict h hall hl h0 h15 hl15 hn) fun σ H Q ⟨env, cs, ω, hs, hk, h⟩ => ⟨env, cs, ω, hs, hk, h.bind.imp fun ws ω1 cs1 H1 l1 k1 h1 p vs hp rv => by
      have h1 : Out X.K X.mg E ω1 (.ok (Wv.cel cs1.length) (cs1 ++ [Cell.dic ws])) _ := h1
      have hc : CellAt X.K (ω1.more p) (upd H1 p (.dK vs)) p (.dic ws) := ⟨⟨k1.ex.back hp, k1.frx.back hp⟩, vs, upd_same, rv.mono Le.more⟩
      refine h1 _ _ Le.more (k1.more hp hc) _ ⟨p, ?_, rfl⟩
      show (ω1.ad ++ [p])[cs1.length]? = some p
      rw [k1.len, List.getElem?_append_right (Nat.le_refl _)]
      simp⟩
theorem RepK.mono' {K : Frag} {H H' : Hp} (e : Ex H H') {ds : List (Key × Dt)} {vs : List (Key × V)} (h : RepK K H vs ds) : RepK K H' vs ds := RepK.mono e ds vs h
theorem ev_dic {ks : List (Option Expr)} {vs : List Expr} {l : List (Key × Ev)} (h : EVP X E pos ks vs l) (hall : ks.all (·.isSome) = true := by rfl) (hl : ks.length = vs.length := by rfl) (h0 : ks ≠ [] := by exact List.cons_ne_nil _ _) (h15 : ks.length ≤ 15 := by decide) (hl15 : l.length ≤ 15 := by exact of_decide_eq_true rfl) (hn : keysOk l = true := by decide +kernel) :
    EV X E (.Dict ks vs pos) (eDic l) := PE.imp (ek_dict h hall hl h0 h15 hl15 hn) fun σ H Q ⟨env, cs, ω, hs, hk, h⟩ => ⟨env, cs, ω, hs, hk, h.bind.imp fun ws ω1 cs1 H1 l1 k1 h1 p vs hp rv => by
      obtain ⟨ds, e, h2⟩ := Out.opt h1.bind
      exact (h2.now k1) _ _ (Le.froze k1 hp) (k1.froze hp) _ (.dic upd_same ((rv.datK e).mono' (Le.froze (o := HO.dK vs) k1 hp).ex))⟩
theorem ev_dic0C : EV X E (.Dict [] [] pos) (fun _ => mCell (.dic [])) := PE.imp pe_dnewK fun σ H Q ⟨env, cs, ω, hs, hk, h⟩ p hp => by
  have h : Out X.K X.mg E ω (.ok (Wv.cel cs.length) (cs ++ [Cell.dic []])) _ := h
  have hc : CellAt X.K (ω.more p) (upd H p (.dK [])) p (.dic []) := ⟨⟨hk.ex.back hp, hk.frx.back hp⟩, [], upd_same, .nil⟩
  refine h _ _ Le.more (hk.more hp hc) _ ⟨p, ?_, rfl⟩
  show (ω.ad ++ [p])[cs.length]? = some p
  rw [hk.len, List.getElem?_append_right (Nat.le_refl _)]
  simp
end
theorem Ok.extN {K : Frag} {ω : Wo} {H H1 : Hp} {cs : List Cell} (k : Ok K ω H cs) (e : LamX.ExtN H H1) (t : LamX.Tabs TabT.T H1) : Ok K ω H1 cs := by
  have nt : ∀ {o : HO}, NoTbl o → ∀ ps, o ≠ .tbl ps := fun {o} h ps z => by rw [z] at h; exact h
  refine ⟨fun a o h => e a o (k.ex a o h) (nt (k.nt a o h)), k.len, k.nd, fun i a c e1 e2 => ?_, t, fun a o h => e a o (k.frx a o h) (nt (k.nf a o h).nt), k.dj, k.nt, k.nf, fun a oo vs h => e a _ (k.lk a oo vs h) (fun ps z => nomatch z)⟩
  have q := k.cel i a c e1 e2
  cases c with
  | lst ws => obtain ⟨h0, vs, h1, h2⟩ := q; exact ⟨h0, vs, e a _ h1 (fun ps z => nomatch z), h2⟩
  | dic ws => obtain ⟨h0, vs, h1, h2⟩ := q; exact ⟨h0, vs, e a _ h1 (fun ps z => nomatch z), h2⟩
  | ins C ws => obtain ⟨h0, dx, vs, h1, h2⟩ := q; exact ⟨h0, dx, vs, e a _ h1 (fun ps z => nomatch z), h2⟩
  | dead => exact q
  | lck ws => obtain ⟨h0, oo, vs, ht, h1, h2⟩ := q; exact ⟨h0, oo, vs, ht, e a _ h1 (fun ps z => nomatch z), h2⟩
  | dit b ws =>
    obtain ⟨h0, vs, h1, h2⟩ := q
    refine ⟨h0, vs, ?_, h2⟩
    rcases h1 with ⟨z, h1⟩ | ⟨z, o, ht, h1⟩
    · exact .inl ⟨z, e a _ h1 (fun ps z => nomatch z)⟩
    · exact .inr ⟨z, o, ht, e a _ h1 (fun ps z => nomatch z)⟩
def mCaught (L : List (Str × Addr)) (m : M Wv) : M Wv := fun cs => match m cs with
  | .ok _ cs' => .ok (.dat .non) cs'
  | .exc x cs' => match L.lookup x.nm with
    | some C => .ok (.dat (.exn C x.fs)) cs'
    | none => .bad
  | .bad => .bad
def eCaught (L : List (Str × Addr)) (f : Ev) : Ev := fun env => mCaught L (f env)
end DX
namespace DX
open PySem PySem.Spec PyProof.Rows L2
variable [TabT]
section
variable {X : Cx} {pins : List (Addr × Obj)} {σ : L2.St} {H : Hp} {s : Shared}
theorem Takes.len {W : WX} (tk : Takes X W) : Takes X (fun cls d σ H => σ.length = X.N.length → W cls d σ H) := fun u s' ⟨a, B, sI, pins, σ, H, cls, d, e, I, nb, up, sky, na, os, ag, w⟩ => tk u s' ⟨a, B, sI, pins, σ, H, cls, d, e, I, nb, up, sky, na, os, ag, w I.len⟩
end
end DX
namespace DX
open PySem PySem.Spec PyProof.Rows L2
theorem caller_guards : callerA.guards = some [] := rfl
/-- from an abstract heap in which only the tables and, perhaps, the script are looked at -/
theorem law_core [TabT] {P : Program} {w : World} {K : Frag} {mg mb : MG} {k : Nat} {fa a : Addr} {cs : List (Addr × Addr)} {fd : FuncData} {x : Str} {m : Fn} {s1 : Shared} {vs : List Value} {ns : List Int} {H : Hp}
    (KX : K.In s1.heap) (nsG : s1.heap.Ns mainGlobals mg) (nsB : s1.heap.Ns builtinsNs mb) (hbb : ∀ x : Str, x ≠ "__name__" → mb x = bootBuiltins x) (hlim : s1.heap.NoLimit) (hgen : s1.gens = #[])
    (tabO : ∀ p ∈ cs, s1.heap.get? p.2 = some { cls := .none, data := .fields #[] }) (tabK : ∀ p ∈ cs, K.lookup p.2 = none) (codeO : ∀ p ∈ cs, PySem.W.CodeHd s1.heap p.1 p.2)
    (hbm : ∃ (bm : Addr) (ob : Obj), mg "__builtins__" = some (.ref bm) ∧ bm ≠ builtinsNs ∧ s1.heap.get? bm = some ob ∧ ob.cls = .type "module" ∧ ob.dict = some builtinsNs ∧ ob.data = .plain)
    (obA : s1.heap.get? a = some { cls := .type "list", data := .seq vs.toArray }) (hr : Room k callerA) (hTT : ∀ p ∈ TabT.T, p.1 ∈ cs.map (·.2))
    (F : ∀ base : Heap, K.In base → base.Ns mainGlobals mg → (∀ p ∈ cs, LamX.TabB base mg p.1 p.2) → FnG P w K mg base true k fa fd [x] m) (bindA : ∀ (s : Shared) (u : Value), BindsTo s fd ⟨[u], []⟩ [(x, u)])
    (hm : ∃ cs', m [.dat (.scr ns)] [] = .ok (.dat (.bl true)) cs')
    (tabH : ∀ p ∈ cs, H p.2 = some (.tbl #[])) (onlyH : ∀ b, H b = none ∨ b ∈ cs.map (·.2) ∨ ∃ o xs, H b = some (.frz o (.lst xs))) (seqH : SqL K H a (ns.map V.int)) (okH : HOk P w H s1.heap) (atH : ∀ b, H b ≠ none → b = a ∨ b ∈ cs.map (·.2)) (keyH : H a ≠ none → K.lookup a = none) :
    codeAny (model P w) callerA (.call (.ref fa) ⟨[.ref a], []⟩) (fun r s' => r = .ok (.ret (.bool true)) ∧ OldK s1.heap s'.heap ∧ s'.os = s1.os ∧ AllBare s'.gens) s1 := by
  have isTab : ∀ b : Addr, b ∈ cs.map (·.2) → s1.heap.get? b = some { cls := .none, data := .fields #[] } := fun b hb => by
    obtain ⟨p, hp, e⟩ := List.mem_map.mp hb
    exact e ▸ tabO p hp
  have inTab : ∀ p ∈ cs, p.2 ∈ cs.map (·.2) := fun p hp => List.mem_map.mpr ⟨p, hp, rfl⟩
  have aOut : a ∉ cs.map (·.2) := fun z => by
    have q := isTab a z
    rw [obA] at q
    have z' : Data.seq vs.toArray _ = Data.fields #[] := congrArg Obj.data (Option.some.inj q)
    cases z'
  have baseOf : ∀ {b : Addr} {o : Obj}, s1.heap.get? b = some o → H b = none → (hidT s1.heap H).get? b = some o := fun e n => hidT_get e n
    -- what is neither a list's nor an empty table's object is not looked at
  have free1 : ∀ {b : Addr} {o : Obj}, s1.heap.get? b = some o → (∀ vs n, o.data ≠ .seq vs n) → o.data ≠ .fields #[] → H b = none := fun {b o} e q1 q2 => by
    cases q : H b with
    | none => rfl
    | some u =>
      rcases atH b (by rw [q]; simp) with h | h
      · rw [h, obA] at e
        cases e
        exact absurd rfl (q1 _ _)
      · rw [isTab b h] at e
        cases e
        exact absurd rfl q2
  have free2 : ∀ {b : Addr} {o : Obj} {es : Array DictEntry} {ep : Nat}, s1.heap.get? b = some o → o.data = .dict es ep → H b = none := fun {b o es ep} e d =>
    free1 e (fun vs n z => by rw [d] at z; cases z) (fun z => by rw [d] at z; cases z)
  have nsOf : ∀ {b : Addr} {mm : MG}, s1.heap.Ns b mm → (hidT s1.heap H).Ns b mm := fun {b mm} ⟨o, es, ep, e, d, r⟩ => ⟨o, es, ep, baseOf e (free2 e d), d, r⟩
  have KB : K.In (hidT s1.heap H) := fun b o e => baseOf (KX b o e) (by
    cases q : H b with
    | none => rfl
    | some u =>
      rcases atH b (by rw [q]; simp) with h | h
      · rw [h] at e q
        rw [keyH (by rw [q]; simp)] at e
        cases e
      · obtain ⟨p, hp, ep⟩ := List.mem_map.mp h
        rw [← ep, tabK p hp] at e
        cases e)
  have modB : L2.Mod K mg (hidT s1.heap H) := ⟨KB, nsOf nsG, ⟨mb, nsOf nsB, hbb⟩, let ⟨mc, q1, q2⟩ := hlim; ⟨mc, nsOf q1, q2⟩⟩
  have tabB : ∀ p ∈ cs, LamX.TabB (hidT s1.heap H) mg p.1 p.2 := fun p hp => by
    have hTp := tabO p hp
    refine ⟨?_, ?_, fun z => ?_⟩
    · obtain ⟨o, us, file, tf, flags, tg, inF, text, tt, e1, r1, r2, r3, r4, r5, r6, r7, r8, hne⟩ := codeO p hp
      exact ⟨o, us, file, tf, flags, tg, inF, text, tt, baseOf e1 (free1 e1 (fun vs n z => by rw [r2] at z; cases z) fun z => by rw [r2] at z; cases z; simp at r3), r1, r2, r3, r4, r5, r6, r7, r8, hne⟩
    · obtain ⟨bm, ob, b1, b2, b3, b4, b5, b6⟩ := hbm
      have nG : bm ≠ mainGlobals := fun q => by
        obtain ⟨o, es, ep, e, hd, _⟩ := nsG
        rw [q, e] at b3
        cases b3
        rw [hd] at b6
        cases b6
      have nP : bm ≠ p.2 := fun q => by
        rw [q, hTp] at b3
        cases b3
        cases b6
      exact ⟨bm, ob, b1, b2, nG, nP, baseOf b3 (free1 b3 (fun vs n z => by rw [b6] at z; cases z) fun z => by rw [b6] at z; cases z), b4, b5, b6⟩
    · obtain ⟨o, es, ep, e, hd, _⟩ := nsG
      rw [z, hTp] at e
      cases e
      cases hd
  have env0 : Env0 P w K mg (hidT s1.heap H) callerA [] s1 H := ⟨rfl, modB, fun b o e => of_hidT e, Nat.le_of_eq (hidT_size _ _), trivial, fun b hb => absurd (show b ∈ ([] : List Addr) from hb) (by simp), okH, .of_eq hgen⟩
  have okW : Ok K ⟨fun b => if b ∈ cs.map (·.2) then none else H b, [], fun _ => none, fun _ => none⟩ H [] := by
    refine ⟨fun b o e => ?_, rfl, List.nodup_nil, fun i b c e => by simp at e, fun p hp => ?_, fun b o e => (by cases e), fun b o e => (by cases e), fun b o e => ?_, fun b o e => (by cases e), fun b o vs e => (by cases e)⟩
    · have e : (if b ∈ cs.map (·.2) then none else H b) = some o := e
      split at e
      · cases e
      · exact e
    · obtain ⟨q, hq, eq⟩ := List.mem_map.mp (hTT p hp)
      exact LamX.TabS.nil (by rw [← eq]; exact tabH q hq)
    · have e : (if b ∈ cs.map (·.2) then none else H b) = some o := e
      split at e
      · cases e
      · rcases onlyH b with z | z | ⟨ob, xs, z⟩
        · rw [z] at e; cases e
        · contradiction
        · rw [z] at e; cases e; exact True.intro
  have repA : RepW K ⟨fun b => if b ∈ cs.map (·.2) then none else H b, [], fun _ => none, fun _ => none⟩ (.ref a) (.dat (.scr ns)) := by
    refine RepD.scr ?_
    have ea : (fun b => if b ∈ cs.map (·.2) then none else H b) a = H a := if_neg aOut
    rcases seqH with (h | ⟨o, h⟩) | h
    · exact .inl (.inl (ea.trans h))
    · exact .inl (.inr ⟨o, ea.trans h⟩)
    · exact .inr h
  obtain ⟨cs', hm⟩ := hm
  refine codeAny_mono ((F _ KB (nsOf nsG) tabB).run callerA [] s1 H ⟨[.ref a], []⟩ [.ref a] [.ref a] (fun v _ => v = .bl true) (fun _ _ _ => False) _ [] [.dat (.scr ns)] hr (fun _ => caller_guards) env0 (bindA s1 (.ref a)) (.cons rfl .nil) rfl okW (.cons repA .nil) ?_) fun r s' h => ?_
  · rw [hm]
    intro ω' H' l k v r
    cases (show RepD K ω'.Hs v (.bl true) from r)
    rfl
  cases r with
  | error e =>
    obtain ⟨_, _, _, _, _, _, _, _, _, _, _, _, z⟩ := h
    exact z.elim
  | ok fl =>
    cases fl with
    | next => exact False.elim h
    | brk => exact False.elim h
    | cont => exact False.elim h
    | ret u =>
      obtain ⟨v, H', os, bare, un, hok', r', q⟩ := h
      have q' : v = .bl true := q
      subst q'
      obtain rfl : u = Value.bool true := r'
      have stays : ∀ b o, b ∉ cs.map (·.2) → s1.heap.get? b = some o → s'.heap.get? b = some o := fun b o nb e => by
        cases q : H b with
        | none => exact un.keep b o e q (fun z => absurd (show b ∈ ([] : List Addr) from z) (by simp)) (by simp)
        | some u =>
          rcases onlyH b with z | z | ⟨ob, xs, z⟩
          · rw [q] at z; cases z
          · exact absurd z nb
          · have z2 := un.frzs b ob _ z
            obtain ⟨e1, _⟩ := okH b _ z
            obtain ⟨e2, _⟩ := hok' b _ z2
            rw [e] at e1
            cases e1
            exact e2
      have grew : ∀ p ∈ cs, ∃ more : Array Value, s'.heap.get? p.2 = some { cls := .none, data := .fields more } := fun p hp => by
        obtain ⟨more, z⟩ := un.tbls p.2 #[] (tabH p hp)
        exact ⟨_, hok' p.2 _ z⟩
      refine ⟨rfl, ⟨fun b o e => ?_, fun b o e => ?_⟩, os, bare⟩
      · by_cases hb : b ∈ cs.map (·.2)
        · obtain ⟨p, hp, ep⟩ := List.mem_map.mp hb
          obtain ⟨more, hmm⟩ := grew p hp
          subst ep
          rw [tabO p hp] at e
          cases e
          exact .inr (.inl ⟨((codeO p hp).tab (tabO p hp)).isCodeTable, rfl, #[], more, rfl, by rw [Array.empty_append]; exact hmm⟩)
        · exact .inl (stays b o hb e)
      · by_cases hb : b ∈ cs.map (·.2)
        · obtain ⟨p, hp, ep⟩ := List.mem_map.mp hb
          obtain ⟨more, hmm⟩ := grew p hp
          exact ep ▸ ⟨_, hmm⟩
        · exact ⟨o, stays b o hb e⟩
/-- what is known of the law behind the head -/
def LawG (l : PySem.W.OpenLaw) (w : World) (K : Frag) (k n : Nat) (x : Str) (mg : MG) (fa : Addr) (h : Heap) : Prop :=
  ∃ (TT : TabT) (fd : FuncData) (cs : List (Addr × Addr)) (m : Fn), (∀ p ∈ TT.T, p.1 ∈ cs.map (·.2)) ∧ (∀ p ∈ cs, h.get? p.2 = some { cls := .none, data := .fields #[] }) ∧ (∀ p ∈ cs, K.lookup p.2 = none) ∧ (∀ p ∈ cs, PySem.W.CodeHd h p.1 p.2) ∧ (∀ (s : Shared) (u : Value), BindsTo s fd ⟨[u], []⟩ [(x, u)]) ∧
    (∀ ns : List Int, ns.length ≤ n → (∀ z ∈ ns, Builtin.Int.intBits z ≤ 1048576) → ∃ cs', m [.dat (.scr ns)] [] = .ok (.dat (.bl true)) cs') ∧ ∀ base : Heap, K.In base → base.Ns mainGlobals mg → (∀ p ∈ cs, LamX.TabB base mg p.1 p.2) → @FnG TT l.prog w K mg base true k fa fd [x] m
theorem walkG {l : PySem.W.OpenLaw} {n k : Nat} {q : Program} {loose : List Str} {XP : (Str → Option Value) → Heap → Prop} {YP : World → Heap → Prop} {d : DefRec} {K : Params → Frag} {x : Str}
    (hn : l.most = some n) (hn2 : n ≤ sizeLine) (hdf : d.params.defaults = []) (hr : Room k callerA) (hY : ∀ (w : World) (h : Heap), YP w h → (K w.params).In h)
    (F : ∀ (w : World) (mg : MG) (fa : Addr) (h : Heap), YP w h → (K w.params).In h → h.Ns mainGlobals mg → (∀ x c P d, (recsOf q).find? (fun e => e.name == x) = some d → PySem.W.tabIn (K w.params) x = some (c, P) → PySem.W.CodeHd h c P ∧ h.get? P = some { cls := .none, data := .fields #[] }) → mg d.name = some (.ref fa) → LawG l w (K w.params) k n x mg fa h) : PySem.W.WalkO q loose XP YP l.row.toRowW d [] (fun f vs => PySem.call f vs) := by
  refine Att.attach_callB hn hdf fun w s₀ s1 mg mb fa o pm cd doc a vs ns G Y ho hd hcd hmg obA hints hlen hbits hgen => ?_
  have KX := hY w _ Y
  obtain ⟨TT, fd, cs, m, hTT, tabO, tabK, codeO, bindA, hm, hF⟩ := F w mg fa _ Y KX G.T.g (fun x c P d h1 h2 => PySem.W.tab_of G.T KX h1 h2) hmg
  have rv := vals_ints hints
  have lenV := hints.length
  have isTab : ∀ b : Addr, b ∈ cs.map (·.2) → s1.heap.get? b = some { cls := .none, data := .fields #[] } := fun b hb => by
    obtain ⟨p, hp, e⟩ := List.mem_map.mp hb
    exact e ▸ tabO p hp
  have aOut : a ∉ cs.map (·.2) := fun z => by
    have q := isTab a z
    rw [obA] at q
    have z' : Data.seq vs.toArray _ = Data.fields #[] := congrArg Obj.data (Option.some.inj q)
    cases z'
  have hl : ns.length ≤ sizeLine := Nat.le_trans hlen hn2
  have core := fun (H : Hp) => @law_core TT l.prog w (K w.params) mg mb k fa a cs fd x m s1 vs ns H KX G.T.g G.T.b G.T.builtins G.T.nolimit hgen tabO tabK codeO G.T.bmain obA hr hTT hF bindA (hm ns hlen hbits)
  cases hk : (K w.params).lookup a with
  | some ob =>
    have e := KX a ob hk
    rw [obA] at e
    cases e
    refine core (fun b => if b ∈ cs.map (·.2) then some (.tbl #[]) else none) (fun p hp => if_pos (List.mem_map.mpr ⟨p, hp, rfl⟩)) (fun b => ?_) (.inr ⟨_, vs.toArray, _, hk, rfl, rfl, rfl, by rw [List.size_toArray, lenV]; exact hl, by simpa using rv⟩) (fun b u z => ?_) (fun b z => ?_) fun z => absurd (show (if a ∈ cs.map (·.2) then some (HO.tbl #[]) else none) = none from if_neg aOut) z
    · by_cases hb : b ∈ cs.map (·.2)
      · exact .inr (.inl hb)
      · exact .inl (if_neg hb)
    · by_cases hb : b ∈ cs.map (·.2)
      · cases (if_pos hb).symm.trans z
        exact isTab b hb
      · cases (if_neg hb).symm.trans z
    · by_cases hb : b ∈ cs.map (·.2)
      · exact .inr hb
      · exact absurd (if_neg hb) z
  | none =>
    refine core (fun b => if b = a then some (.frz { cls := .type "list", data := .seq vs.toArray } (.lst (ns.map V.int))) else if b ∈ cs.map (·.2) then some (.tbl #[]) else none) (fun p hp => ?_) (fun b => ?_) (.inl (.inr ⟨_, if_pos rfl⟩)) (fun b u z => ?_) (fun b z => ?_) fun _ => hk
    · have hm2 : p.2 ∈ cs.map (·.2) := List.mem_map.mpr ⟨p, hp, rfl⟩
      exact (if_neg fun (z : p.2 = a) => aOut (z ▸ hm2)).trans (if_pos hm2)
    · by_cases hb : b = a
      · exact .inr (.inr ⟨_, _, if_pos hb⟩)
      · by_cases hb2 : b ∈ cs.map (·.2)
        · exact .inr (.inl hb2)
        · exact .inl ((if_neg hb).trans (if_neg hb2))
    · by_cases hb : b = a
      · cases (if_pos hb).symm.trans z
        rw [hb]
        exact ⟨obA, by rw [List.length_map]; exact hl, vs, _, rv, obA⟩
      · have z1 := (if_neg hb).symm.trans z
        by_cases hb2 : b ∈ cs.map (·.2)
        · cases (if_pos hb2).symm.trans z1
          exact isTab b hb2
        · cases (if_neg hb2).symm.trans z1
    · by_cases hb : b = a
      · exact .inl hb
      · by_cases hb2 : b ∈ cs.map (·.2)
        · exact .inr hb2
        · exact absurd ((if_neg hb).trans (if_neg hb2)) z
end DX
namespace DX
open PySem PySem.Spec PyProof.Rows L2
variable [TabT]
section
variable {X : Cx} {E : XK} {a b c e e2 : Expr} {es : List Expr} {pos p : Pos} {f g h : Ev} {ga : EvA}
theorem b_len (hg : Gl X "len") (hm : X.mg "len" = none) (ha : EVA X E [e] ga) (he : starEach [e] X.env = (false, eval e X.env) :: starEach [] X.env := by rfl) : EV X E (.Call (.Name "len" p) [e] [] pos) (eCall oLen ga) := ev_len rfl hg hm ha he rfl
theorem b_abs (hg : Gl X "abs") (hm : X.mg "abs" = none) (ha : EVA X E [e] ga) (he : starEach [e] X.env = (false, eval e X.env) :: starEach [] X.env := by rfl) : EV X E (.Call (.Name "abs" p) [e] [] pos) (eCall (o1 dAbs) ga) := ev_callB call_abs co_abs hg hm boot_abs ha (by decide) (by decide) he rfl
theorem b_min2 (hc : X.calm = true) (hg : Gl X "min") (hm : X.mg "min" = none) (ha : EVA X E [e, e2] ga) (he : starEach [e, e2] X.env = (false, eval e X.env) :: starEach [e2] X.env := by rfl) (hpl : (backTo pos (starEach [e2] X.env)).any (·.1) = false := by rfl) : EV X E (.Call (.Name "min" p) [e, e2] [] pos) (eCall (o2 dMin2) ga) := ev_callB (call_min2 hc) co_min2 hg hm boot_min ha (by decide) (by decide) he hpl
theorem b_int (hg : Gl X "int") (hm : X.mg "int" = none) (ha : EVA X E [e] ga) (he : starEach [e] X.env = (false, eval e X.env) :: starEach [] X.env := by rfl) : EV X E (.Call (.Name "int" p) [e] [] pos) (eCall (o1 dInt1) ga) := ev_callTy call_int1 co_int1 hg hm boot_int ha (by decide) (by decide) he rfl
theorem b_tuple (hg : Gl X "tuple") (hm : X.mg "tuple" = none) (ha : EVA X E [e] ga) (he : starEach [e] X.env = (false, eval e X.env) :: starEach [] X.env := by rfl) : EV X E (.Call (.Name "tuple" p) [e] [] pos) (eCall (oSeq dTupOf .tup) ga) := ev_callTy call_tuple_of co_tuple hg hm boot_tuple ha (by decide) (by decide) he rfl
theorem b_sum (hc : X.calm = true) (hg : Gl X "sum") (hm : X.mg "sum" = none) (ha : EVA X E [e] ga) (he : starEach [e] X.env = (false, eval e X.env) :: starEach [] X.env := by rfl) : EV X E (.Call (.Name "sum" p) [e] [] pos) (eCall (o1 dSum) ga) := ev_callB (cr_sum hc) co_sum hg hm boot_sum ha (by decide) (by decide) he rfl
theorem b_all (hc : X.calm = true) (hg : Gl X "all") (hm : X.mg "all" = none) (ha : EVA X E [e] ga) (he : starEach [e] X.env = (false, eval e X.env) :: starEach [] X.env := by rfl) : EV X E (.Call (.Name "all" p) [e] [] pos) (eCall (o1 dAll) ga) := ev_callB (cr_all hc) co_all hg hm boot_all ha (by decide) (by decide) he rfl
theorem tkOf {P : Program} {w : World} {K : Frag} {mg : MG} {base : Heap} {N : List Str} {qual : Str} {scope : Scope} {f : Addr} {cd : Value} {A : Around} {outer : List Env} {s : Shared} {H : Hp} {E : XK} : Takes (cxOf (L2.CX P w) P w K mg base N qual scope f cd A outer s H E) (fun cls d _ H => E cls d H) := takes_of rfl rfl rfl rfl
theorem psOf {P : Program} {w : World} {K : Frag} {mg : MG} {base : Heap} {N : List Str} {qual : Str} {scope : Scope} {f : Addr} {cd : Value} {A : Around} {outer : List Env} {s : Shared} {H : Hp} {E : XK} : Passes (L2.CX P w) (cxOf (L2.CX P w) P w K mg base N qual scope f cd A outer s H E) E := passes_call tkOf fun _ _ _ _ h => h
theorem owOf {P : Program} {w : World} {K : Frag} {mg : MG} {base : Heap} {N : List Str} {qual : Str} {scope : Scope} {f : Addr} {cd : Value} {A : Around} {outer : List Env} {s : Shared} {H : Hp} {E : XK} : PassesOwn (model P w) (cxOf (L2.CX P w) P w K mg base N qual scope f cd A outer s H E).A (cxOf (L2.CX P w) P w K mg base N qual scope f cd A outer s H E).env (cxOf (L2.CX P w) P w K mg base N qual scope f cd A outer s H E).xe := passes_of rfl
end
theorem bindK {K : Frag} {x qual : Str} {st : Stmt} {f : Addr} {fd : FuncData} (F : Fun K x qual st f fd) {args : Args} {binds : List (Str × Value)} (h : ∀ (kV doc pm : Value) (an : Option Addr) (cdv ct : Value), bindArgs (PySem.W.fnOf x qual (defArgs st) (defBody st) (defScope st) .none kV doc pm an cdv ct) args = pure binds) (s : Shared) : BindsTo s fd args binds := by
  obtain ⟨oc, od, kV, doc, pm, an, cdv, ct, osl, rfl, lk, hcd⟩ := F.ex
  exact .of_eq (h kV doc pm an cdv ct)
abbrev bmV : List Value := [.type "ValueError", .type "Exception", .type "BaseException", .type "object"]
abbrev newV : String := "ValueError.__new__"
theorem Room.u1 {k : Nat} {A : Around} (r : Room k A) : A.units + 1 < cLine := by have := r.un; omega
theorem Room.u64 {k : Nat} {A : Around} (r : Room k A) : A.units + 64 < cLine := by have := r.un; omega
theorem Room.u65 {k : Nat} {A : Around} (r : Room k A) : A.units + 65 < cLine := by have := r.un; omega
theorem Room.u66 {k : Nat} {A : Around} (r : Room k A) : A.units + 66 < cLine := by have := r.un; omega
end DX
namespace DX
open PySem PySem.Spec PyProof.Rows L2
def rb {α β : Type} (r : R α) (k : α → M β) : R β := match r with
  | .ok a cs => k a cs
  | .exc x cs => .exc x cs
  | .bad => .bad
theorem mb {α β : Type} (m : M α) (k : α → M β) (cs : List Cell) : M.bind m k cs = rb (m cs) k := by
  unfold M.bind rb
  cases m cs <;> rfl
section
variable {α β : Type} {a : α} {k : α → M β} {cs cs1 : List Cell} {e : Str} {p : Prop} [Decidable p] {r r' : R α}
theorem rb_ok : rb (.ok a cs) k = k a cs := (rfl)
theorem rb_exc : rb (.exc e cs : R α) k = .exc e cs := (rfl)
theorem rb_bad : rb (.bad : R α) k = .bad := (rfl)
theorem rb_ite : rb (if p then r else r') k = if p then rb r k else rb r' k := by split <;> rfl
theorem m_ret : M.ret a cs = .ok a cs := (rfl)
theorem m_badE : (M.bad : M α) cs = .bad := (rfl)
theorem m_opt : M.opt (some a) cs = .ok a cs := (rfl)
theorem m_optn : M.opt (none : Option α) cs = .bad := (rfl)
theorem m_ite {f g : M α} : (if p then f else g) cs = if p then f cs else g cs := by split <;> rfl
end
/-- a datum, if there is one -/
def rO (o : Option Dt) (cs : List Cell) : R Wv := match o with
  | some d => .ok (.dat d) cs
  | none => .bad
def rW (o : Option Wv) (cs : List Cell) : R Wv := match o with
  | some d => .ok d cs
  | none => .bad
section
variable {d x y z : Dt} {u v w : Wv} {cs cs1 : List Cell} {env env1 : En} {f g h : Ev} {p q : EvT} {i j l : Nat} {ga gb : EvA} {o o' : Dt → Dt → Option Dt} {s t : Sv} {r : En} {k b c : Bool} {pr : Prop} [Decidable pr] {ws vs : List Wv} {ds es : List Dt} {e : Str} {n m : Int}
theorem rO_some : rO (some d) cs = .ok (.dat d) cs := (rfl)
theorem rO_none : rO none cs = .bad := (rfl)
theorem rW_some : rW (some w) cs = .ok w cs := (rfl)
theorem rW_none : rW none cs = .bad := (rfl)
theorem rO_map (o : Option Dt) : M.opt (o.map Wv.dat) cs = rO o cs := by cases o <;> rfl
theorem rW_opt (o : Option Wv) : M.opt o cs = rW o cs := by cases o <;> rfl
theorem rW_map (o : Option Dt) : rW (o.map Wv.dat) cs = rO o cs := by cases o <;> rfl
theorem s_var0 : eVar 0 (some w :: r) cs = .ok w cs := (rfl)
theorem s_varS {ow : Option Wv} : eVar (i + 1) (ow :: r) cs = eVar i r cs := (rfl)
theorem s_c : eC d env cs = .ok (.dat d) cs := (rfl)
def kBin (o : Dt → Dt → Option Dt) (g : Ev) (env : En) (x : Wv) : M Wv := M.bind (g env) fun y => liftB o x y
theorem s_bin : eBin o f g env cs = rb (f env cs) (kBin o g env) := mb _ _ _
theorem k_bin : kBin o g env u cs = rb (g env cs) (liftB o u) := mb _ _ _
theorem s_lift : liftB o (.dat x) (.dat y) cs = rO (o x y) cs := rO_map _
theorem s_un {o : Dt → Option Dt} : eUn o f env cs = rb (f env cs) (liftU o) := mb _ _ _
theorem s_liftU {o : Dt → Option Dt} : liftU o (.dat x) cs = rO (o x) cs := rO_map _
def kEq (neg : Bool) (g : Ev) (env : En) (x : Wv) : M Wv := M.bind (g env) fun y => fun cs => M.opt ((eqC neg x y cs).map .dat) cs
def kEq2 (neg : Bool) (x y : Wv) : M Wv := fun cs => M.opt ((eqC neg x y cs).map .dat) cs
theorem s_eqc : eEqC k f g env cs = rb (f env cs) (kEq k g env) := mb _ _ _
theorem k_eqc : kEq k g env u cs = rb (g env cs) (kEq2 k u) := mb _ _ _
theorem k_eqc2 : kEq2 k u v cs = rO (eqC k u v cs) cs := rO_map _
theorem eq_ii : eqC false (.dat (.int n)) (.dat (.int m)) cs = some (.bl (decide (n = m))) := by
  show some (Dt.bl (n == m)) = _
  congr 2
theorem ne_ii : eqC true (.dat (.int n)) (.dat (.int m)) cs = some (.bl (!decide (n = m))) := by
  show some (Dt.bl (!(n == m))) = _
  congr 3
theorem str_beq (a b : Str) : (a == b) = decide (a = b) := by
  rw [Bool.eq_iff_iff]; simp
theorem eq_ss {a b : Str} : eqC false (.dat (.str a)) (.dat (.str b)) cs = some (.bl (decide (a = b))) := by
  show some (Dt.bl (a == b)) = _
  rw [str_beq]
theorem ne_ss {a b : Str} : eqC true (.dat (.str a)) (.dat (.str b)) cs = some (.bl (!decide (a = b))) := by
  show some (Dt.bl (!(a == b))) = _
  rw [str_beq]
theorem eq_bb : eqC false (.dat (.bl b)) (.dat (.bl c)) cs = some (.bl (b == c)) := (rfl)
theorem ne_bb : eqC true (.dat (.bl b)) (.dat (.bl c)) cs = some (.bl (!(b == c))) := (rfl)
theorem s_cmpE : tCmpE f env cs = rb (f env cs) asB := mb _ _ _
theorem s_asB : asB (.dat (.bl b)) cs = .ok b cs := (rfl)
theorem s_tru : tTru f env cs = rb (f env cs) mTru := mb _ _ _
def rT (o : Option Bool) (cs : List Cell) : R Bool := match o with
  | some b => .ok b cs
  | none => .bad
theorem k_tru : mTru w cs = rT (wTru w cs) cs := by
  unfold mTru rT
  cases wTru w cs <;> rfl
theorem rT_some : rT (some b) cs = .ok b cs := (rfl)
theorem tru_d : wTru (.dat d) cs = dTru d := (rfl)
theorem tru_c : wTru (.cel i) cs = cTru cs[i]? := (rfl)
theorem dtru_bl : dTru (.bl b) = some b := (rfl)
theorem dtru_non : dTru .non = some false := (rfl)
theorem dtru_int : dTru (.int n) = some (n != 0) := (rfl)
theorem dtru_lst : dTru (.lst ds) = some (!ds.isEmpty) := (rfl)
theorem dtru_tup : dTru (.tup ds) = some (!ds.isEmpty) := (rfl)
def kAnd (q : EvT) (env : En) (k : Bool) : M Bool := if k = true then q env else M.ret false
def kOr (q : EvT) (env : En) (k : Bool) : M Bool := if k = true then M.ret true else q env
def kNot (k : Bool) : M Bool := M.ret (!k)
theorem s_and : tAnd' p q env cs = rb (p env cs) (kAnd q env) := mb _ _ _
theorem s_or : tOr' p q env cs = rb (p env cs) (kOr q env) := mb _ _ _
theorem s_not : tNot' p env cs = rb (p env cs) kNot := mb _ _ _
theorem k_and : kAnd q env b cs = if b = true then q env cs else .ok false cs := by unfold kAnd; cases b <;> rfl
theorem k_or : kOr q env b cs = if b = true then .ok true cs else q env cs := by unfold kOr; cases b <;> rfl
theorem k_not : kNot b cs = .ok (!b) cs := (rfl)
theorem s_yes : tYesE env cs = .ok true cs := (rfl)
theorem m_and : (if pr then R.ok c cs else R.ok false cs) = R.ok (decide pr && c) cs := by by_cases h : pr <;> simp [h]
theorem m_or : (if pr then R.ok true cs else R.ok c cs) = R.ok (decide pr || c) cs := by by_cases h : pr <;> simp [h]
def kEAnd (g : Ev) (env : En) (x : Wv) : M Wv := M.bind (mTru x) fun k => if k = true then g env else M.ret x
def kEAnd2 (g : Ev) (env : En) (x : Wv) (k : Bool) : M Wv := if k = true then g env else M.ret x
def kEOr (g : Ev) (env : En) (x : Wv) : M Wv := M.bind (mTru x) fun k => if k = true then M.ret x else g env
def kEOr2 (g : Ev) (env : En) (x : Wv) (k : Bool) : M Wv := if k = true then M.ret x else g env
def kENot (x : Wv) : M Wv := M.bind (mTru x) fun k => M.ret (.dat (.bl (!k)))
def kENot2 (k : Bool) : M Wv := M.ret (.dat (.bl (!k)))
theorem s_eand : eAnd f g env cs = rb (f env cs) (kEAnd g env) := mb _ _ _
theorem k_eand : kEAnd g env u cs = rb (mTru u cs) (kEAnd2 g env u) := mb _ _ _
theorem k_eand2 : kEAnd2 g env u b cs = if b = true then g env cs else .ok u cs := by unfold kEAnd2; cases b <;> rfl
theorem s_eor : eOr f g env cs = rb (f env cs) (kEOr g env) := mb _ _ _
theorem k_eor : kEOr g env u cs = rb (mTru u cs) (kEOr2 g env u) := mb _ _ _
theorem k_eor2 : kEOr2 g env u b cs = if b = true then .ok u cs else g env cs := by unfold kEOr2; cases b <;> rfl
theorem s_enot : eNot f env cs = rb (f env cs) kENot := mb _ _ _
theorem k_enot : kENot u cs = rb (mTru u cs) kENot2 := mb _ _ _
theorem k_enot2 : kENot2 b cs = .ok (.dat (.bl (!b))) cs := (rfl)
def kIf (f g : Ev) (env : En) (k : Bool) : M Wv := if k = true then f env else g env
theorem s_if : eIf p f g env cs = rb (p env cs) (kIf f g env) := mb _ _ _
theorem k_if : kIf f g env b cs = if b = true then f env cs else g env cs := by unfold kIf; cases b <;> rfl
theorem m_iteD : (if pr then Wv.dat x else Wv.dat y) = Wv.dat (if pr then x else y) := by split <;> rfl
theorem m_iteI : (if pr then Dt.int n else Dt.int m) = Dt.int (if pr then n else m) := by split <;> rfl
theorem m_iteB : (if pr then Dt.bl b else Dt.bl c) = Dt.bl (if pr then b else c) := by split <;> rfl
theorem m_iteAnd : (if pr then R.ok (Wv.dat (.bl c)) cs else R.ok (Wv.dat (.bl false)) cs) = R.ok (Wv.dat (.bl (decide pr && c))) cs := by by_cases h : pr <;> simp [h]
theorem m_iteOr : (if pr then R.ok (Wv.dat (.bl true)) cs else R.ok (Wv.dat (.bl c)) cs) = R.ok (Wv.dat (.bl (decide pr || c))) cs := by by_cases h : pr <;> simp [h]
theorem m_iteS {a b : Str} : (if pr then Dt.str a else Dt.str b) = Dt.str (if pr then a else b) := by split <;> rfl
def kCh (o o' : Dt → Dt → Option Dt) (g h : Ev) (env : En) (x : Wv) : M Wv := M.bind (g env) fun y => M.bind (liftB o x y) fun z => M.bind (asB z) fun k => if k = true then M.bind (h env) fun w => liftB o' y w else M.ret (.dat (.bl false))
def kCh2 (o o' : Dt → Dt → Option Dt) (h : Ev) (env : En) (x y : Wv) : M Wv := M.bind (liftB o x y) fun z => M.bind (asB z) fun k => if k = true then M.bind (h env) fun w => liftB o' y w else M.ret (.dat (.bl false))
def kCh3 (o' : Dt → Dt → Option Dt) (h : Ev) (env : En) (y z : Wv) : M Wv := M.bind (asB z) fun k => if k = true then M.bind (h env) fun w => liftB o' y w else M.ret (.dat (.bl false))
def kCh4 (o' : Dt → Dt → Option Dt) (h : Ev) (env : En) (y : Wv) (k : Bool) : M Wv := if k = true then M.bind (h env) fun w => liftB o' y w else M.ret (.dat (.bl false))
theorem s_chain : eChain o o' f g h env cs = rb (f env cs) (kCh o o' g h env) := mb _ _ _
theorem k_ch : kCh o o' g h env u cs = rb (g env cs) (kCh2 o o' h env u) := mb _ _ _
theorem k_ch2 : kCh2 o o' h env u v cs = rb (liftB o u v cs) (kCh3 o' h env v) := mb _ _ _
theorem k_ch3 : kCh3 o' h env u v cs = rb (asB v cs) (kCh4 o' h env u) := mb _ _ _
theorem k_ch4 : kCh4 o' h env u b cs = if b = true then rb (h env cs) (liftB o' u) else .ok (.dat (.bl false)) cs := by
  unfold kCh4
  cases b
  · rfl
  · exact mb _ _ _
def kArg (g : EvA) (env : En) (x : Wv) : M (List Wv) := M.bind (g env) fun xs => M.ret (x :: xs)
def kArg2 (x : Wv) (xs : List Wv) : M (List Wv) := M.ret (x :: xs)
theorem s_anil : aNil env cs = .ok [] cs := (rfl)
theorem s_acons : aCons f ga env cs = rb (f env cs) (kArg ga env) := mb _ _ _
theorem k_arg : kArg ga env u cs = rb (ga env cs) (kArg2 u) := mb _ _ _
theorem k_arg2 : kArg2 u ws cs = .ok (u :: ws) cs := (rfl)
def rL (o : Option (List Dt)) (mk : List Dt → Dt) (cs : List Cell) : R Wv := match o with
  | some ds => if ds.length ≤ 16777216 then .ok (.dat (mk ds)) cs else .bad
  | none => .bad
def kTup (ws : List Wv) : M Wv := M.bind (mDats ws) fun ds => mLen ds (M.ret (.dat (.tup ds)))
def kLst (ws : List Wv) : M Wv := M.bind (mDats ws) fun ds => mLen ds (M.ret (.dat (.lst ds)))
theorem s_tup : eTup ga env cs = rb (ga env cs) kTup := mb _ _ _
theorem s_lst : eLst ga env cs = rb (ga env cs) kLst := mb _ _ _
theorem mlen_is {m : M Wv} : mLen ds m cs = if ds.length ≤ 16777216 then m cs else .bad := by
  unfold mLen szOk
  by_cases h : ds.length ≤ 16777216
  · rw [if_pos (decide_eq_true h), if_pos h]
  · rw [if_neg (by simpa using h), if_neg h]; rfl
theorem k_tup : kTup ws cs = rL (dats ws) .tup cs := by
  unfold kTup mDats
  rw [mb]
  cases dats ws with
  | none => rfl
  | some ds => exact mlen_is
theorem k_lst : kLst ws cs = rL (dats ws) .lst cs := by
  unfold kLst mDats
  rw [mb]
  cases dats ws with
  | none => rfl
  | some ds => exact mlen_is
theorem rL_some {mk : List Dt → Dt} (h : ds.length ≤ 16777216) : rL (some ds) mk cs = .ok (.dat (mk ds)) cs := (if_pos h)
theorem dats_nil : dats [] = some [] := (rfl)
theorem dats_cons : dats (.dat d :: ws) = (dats ws).map (d :: ·) := (rfl)
theorem opt_map_some {α β : Type} {f : α → β} {a : α} : (some a).map f = some (f a) := (rfl)
theorem opt_map_none {α β : Type} {f : α → β} : (none : Option α).map f = none := (rfl)
theorem opt_or_some {α : Type} {a : α} {o : Option α} : (some a).or o = some a := (rfl)
theorem opt_or_none {α : Type} {o : Option α} : (none : Option α).or o = o := (rfl)
theorem opt_bind_some {α β : Type} {f : α → Option β} {a : α} : (some a).bind f = f a := (rfl)
def kIx (g : Ev) (env : En) (x : Wv) : M Wv := M.bind (g env) fun y => mIx x y
theorem s_ix : eIx f g env cs = rb (f env cs) (kIx g env) := mb _ _ _
theorem k_ix : kIx g env u cs = rb (g env cs) (mIx u) := mb _ _ _
theorem k_ix2 : mIx u v cs = rW (wIx u v cs) cs := rW_opt _
theorem wix_dd : wIx (.dat x) (.dat y) cs = (dIx x y).map .dat := (rfl)
theorem wix_cd : wIx (.cel i) (.dat y) cs = cIx cs[i]? y := (rfl)
theorem ix_t : dIx (.tup ds) (.int n) = atI ds n := (rfl)
theorem ix_l : dIx (.lst ds) (.int n) = atI ds n := (rfl)
theorem ix_s {a : Str} : dIx (.str a) (.int n) = strIx a n := (rfl)
theorem cix_l : cIx (some (.lst ws)) (.int n) = atI ws n := (rfl)
theorem cix_d {kw : List (Key × Wv)} : cIx (some (.dic kw)) y = (keyOf y).bind fun k => valK kw k := (rfl)
theorem ix_d {kw : List (Key × Dt)} : dIx (.dic kw) y = (keyOf y).bind fun k => valK kw k := (rfl)
theorem at_0 {α : Type} {a : α} {l : List α} : atI (a :: l) 0 = some a := by
  unfold L2.atI L2.ixN
  rw [if_pos (Int.le_refl 0), if_pos (by simp)]
  rfl
theorem at_ge {α : Type} {l : List α} {n : Int} (h : 0 ≤ n) : atI l n = l[n.toNat]? := by
  unfold L2.atI L2.ixN
  rw [if_pos h]
  by_cases h2 : n < l.length
  · rw [if_pos h2]; rfl
  · rw [if_neg h2, List.getElem?_eq_none (by omega)]; rfl
theorem at_1 {α : Type} {a a1 : α} {l : List α} : atI (a :: a1 :: l) 1 = some a1 := by rw [at_ge (by decide)]; rfl
theorem at_2 {α : Type} {a a1 a2 : α} {l : List α} : atI (a :: a1 :: a2 :: l) 2 = some a2 := by rw [at_ge (by decide)]; rfl
theorem at_nat {α : Type} {l : List α} {i : Nat} : atI l (i : Int) = l[i]? := by rw [at_ge (by omega)]; rfl
def kSl (lo hi : EvO) (env : En) (x : Wv) : M Wv := M.bind (lo env) fun l => M.bind (hi env) fun u => mSl x l u
def kSl2 (hi : EvO) (env : En) (x : Wv) (l : Option Int) : M Wv := M.bind (hi env) fun u => mSl x l u
theorem s_sl {lo hi : EvO} : eSl f lo hi env cs = rb (f env cs) (kSl lo hi env) := mb _ _ _
theorem k_sl {lo hi : EvO} : kSl lo hi env u cs = rb (lo env cs) (kSl2 hi env u) := mb _ _ _
theorem k_sl2 {hi : EvO} {l : Option Int} : kSl2 hi env u l cs = rb (hi env cs) (mSl u l) := mb _ _ _
theorem k_sl3 {l m : Option Int} : mSl u l m cs = rO (wSl u l m cs) cs := rO_map _
theorem s_onone : oNone env cs = .ok none cs := (rfl)
theorem s_osome : oSome f env cs = rb (f env cs) asI := mb _ _ _
theorem k_asI : asI (.dat (.int n)) cs = .ok (some n) cs := (rfl)
theorem sl_d {l m : Option Int} : wSl (.dat x) l m cs = dSl x l m := (rfl)
theorem sl_c {l m : Option Int} : wSl (.cel i) l m cs = cSl cs[i]? l m := (rfl)
theorem sl_l {l m : Option Int} : dSl (.lst ds) l m = some (.lst (cutL ds l m)) := (rfl)
theorem sl_t {l m : Option Int} : dSl (.tup ds) l m = some (.tup (cutL ds l m)) := (rfl)
theorem cut_hi {α : Type} {l : List α} (h : 0 ≤ n) : cutL l none (some n) = l.take n.toNat := by
  obtain ⟨k, rfl⟩ := Int.eq_ofNat_of_zero_le h
  unfold cutL
  rw [HT.sIx_nat, HT.sIx_none]
  simp only [List.drop_zero, Nat.sub_zero, Int.toNat_natCast]
  by_cases hk : k ≤ l.length
  · rw [Nat.min_eq_left hk]
  · rw [Nat.min_eq_right (by omega), List.take_length, List.take_of_length_le (by omega)]
theorem cut_lo {α : Type} {l : List α} (h : 0 ≤ n) : cutL l (some n) none = l.drop n.toNat := by
  obtain ⟨k, rfl⟩ := Int.eq_ofNat_of_zero_le h
  unfold cutL
  rw [HT.sIx_nat, HT.sIx_none]
  simp only [Int.toNat_natCast]
  by_cases hk : k ≤ l.length
  · rw [Nat.min_eq_left hk]
    exact List.take_of_length_le (by simp)
  · rw [Nat.min_eq_right (by omega), List.drop_length, List.drop_eq_nil_of_le (by omega)]
    simp
theorem cut_lh {α : Type} {l : List α} (h : 0 ≤ n) (h2 : 0 ≤ m) : cutL l (some n) (some m) = (l.take m.toNat).drop n.toNat := by
  obtain ⟨k, rfl⟩ := Int.eq_ofNat_of_zero_le h
  obtain ⟨j, rfl⟩ := Int.eq_ofNat_of_zero_le h2
  unfold cutL
  rw [HT.sIx_nat, HT.sIx_nat]
  simp only [Int.toNat_natCast]
  rw [List.drop_take]
  by_cases hk : k ≤ l.length
  · rw [Nat.min_eq_left hk]
    by_cases hj : j ≤ l.length
    · rw [Nat.min_eq_left hj]
    · rw [Nat.min_eq_right (by omega), List.take_of_length_le (by simp), List.take_of_length_le (by simp; omega)]
  · rw [Nat.min_eq_right (a := k) (by omega), List.drop_length, List.drop_eq_nil_of_le (as := l) (by omega)]
    simp
def kFn (n : Nat) (m : Fn) (ws : List Wv) : M Wv := if ws.length = n then m ws else M.bad
theorem s_fn {n : Nat} {m : Fn} : eFn n m ga env cs = rb (ga env cs) (kFn n m) := mb _ _ _
theorem k_fn0 {m : Fn} : kFn 0 m [] cs = m [] cs := (rfl)
theorem k_fn1 {m : Fn} : kFn 1 m [u] cs = m [u] cs := (rfl)
theorem k_fn2 {m : Fn} : kFn 2 m [u, v] cs = m [u, v] cs := (rfl)
theorem k_fn3 {m : Fn} : kFn 3 m [u, v, w] cs = m [u, v, w] cs := (rfl)
theorem k_fn4 {m : Fn} {u1 : Wv} : kFn 4 m [u, v, w, u1] cs = m [u, v, w, u1] cs := (rfl)
theorem k_fn5 {m : Fn} {u1 u2 : Wv} : kFn 5 m [u, v, w, u1, u2] cs = m [u, v, w, u1, u2] cs := (rfl)
theorem k_fn6 {m : Fn} {u1 u2 u3 : Wv} : kFn 6 m [u, v, w, u1, u2, u3] cs = m [u, v, w, u1, u2, u3] cs := (rfl)
def kFnP (n : Nat) (π : List Nat) (m : Fn) (ws : List Wv) : M Wv := if ws.length = n ∧ (pickL π ws).length = n then m (pickL π ws) else M.bad
theorem s_fnp {n : Nat} {π : List Nat} {m : Fn} : eFnP n π m ga env cs = rb (ga env cs) (kFnP n π m) := mb _ _ _
theorem k_fnp1 {m : Fn} : kFnP 1 [0] m [u] cs = m [u] cs := (rfl)
theorem k_fnp2 {m : Fn} : kFnP 2 [0, 1] m [u, v] cs = m [u, v] cs := (rfl)
theorem k_fnp2r {m : Fn} : kFnP 2 [1, 0] m [u, v] cs = m [v, u] cs := (rfl)
theorem k_fnp3 {m : Fn} : kFnP 3 [0, 1, 2] m [u, v, w] cs = m [u, v, w] cs := (rfl)
def kCall (o : List Wv → List Cell → Option Dt) (ws : List Wv) : M Wv := fun cs => M.opt ((o ws cs).map .dat) cs
theorem s_call {o : List Wv → List Cell → Option Dt} : eCall o ga env cs = rb (ga env cs) (kCall o) := mb _ _ _
theorem k_call {o : List Wv → List Cell → Option Dt} : kCall o ws cs = rO (o ws cs) cs := rO_map _
theorem s_o1 {o : Dt → Option Dt} : o1 o [.dat d] cs = o d := (rfl)
theorem s_o2 : o2 o [.dat x, .dat y] cs = o x y := (rfl)
theorem len_d : oLen [.dat d] cs = dLen d := (rfl)
theorem len_c : oLen [.cel i] cs = cLen cs[i]? := (rfl)
theorem len_l : dLen (.lst ds) = some (.int ds.length) := (rfl)
theorem len_t : dLen (.tup ds) = some (.int ds.length) := (rfl)
theorem len_scr {l : List Int} : dLen (.scr l) = some (.int l.length) := (rfl)
theorem len_s {a : Str} (h : a.length ≤ 16777216) : dLen (.str a) = some (.int a.length) := if_pos (decide_eq_true h)
theorem clen_l : cLen (some (.lst ws)) = some (.int ws.length) := (rfl)
theorem int_i : dInt1 (.int n) = some (.int n) := (rfl)
theorem int_b : dInt1 (.bl b) = some (.int (if b = true then 1 else 0)) := (rfl)
theorem min_i : dMin2 (.int n) (.int m) = some (.int (min n m)) := by
  show some (Dt.int (if m < n then m else n)) = _
  congr 2
  split <;> omega
theorem max_i : dMax2 (.int n) (.int m) = some (.int (max n m)) := by
  show some (Dt.int (if m > n then m else n)) = _
  congr 2
  split <;> omega
theorem sq_dl {mk : List Dt → Dt} {o : Dt → Option Dt} : oSeq o mk [.dat d] cs = o d := (rfl)
theorem sq_cl {mk : List Dt → Dt} {o : Dt → Option Dt} : oSeq o mk [.cel i] cs = cSeq mk cs[i]? := (rfl)
theorem csq_l {mk : List Dt → Dt} : cSeq mk (some (.lst ws)) = (dats ws).map mk := (rfl)
theorem lof_t : dListOf (.tup ds) = some (.lst ds) := (rfl)
theorem lof_l : dListOf (.lst ds) = some (.lst ds) := (rfl)
theorem tof_t : dTupOf (.tup ds) = some (.tup ds) := (rfl)
theorem tof_l : dTupOf (.lst ds) = some (.tup ds) := (rfl)
def kMeth (ok : Wv → List Cell → Bool) (o : Wv → List Wv → M Wv) (g : EvA) (env : En) (x : Wv) : M Wv := fun cs => if ok x cs = true then M.bind (g env) (fun ws => o x ws) cs else .bad
theorem s_meth {ok : Wv → List Cell → Bool} {o : Wv → List Wv → M Wv} : eMeth ok o f ga env cs = rb (f env cs) (kMeth ok o ga env) := mb _ _ _
theorem k_meth {ok : Wv → List Cell → Bool} {o : Wv → List Wv → M Wv} (h : ok u cs = true) : kMeth ok o ga env u cs = rb (ga env cs) (o u) := by
  unfold kMeth
  rw [if_pos h]
  exact mb _ _ _
theorem k_meth_str {o : Wv → List Wv → M Wv} {a : Str} : kMeth okStr o ga env (.dat (.str a)) cs = rb (ga env cs) (o (.dat (.str a))) := k_meth rfl
theorem ok_str {a : Str} : okStr (.dat (.str a)) cs = true := (rfl)
theorem ok_lst (h : cs[i]? = some (.lst ws)) : okLst (.cel i) cs = true := by
  unfold okLst
  dsimp only
  rw [h]
theorem mt_str1 {kk : Str → Str → Option Dt} {a b : Str} : oStr1 kk (.dat (.str a)) [.dat (.str b)] cs = rO (kk a b) cs := rO_map _
theorem mt_join {a : Str} : oJoin (.dat (.str a)) [.dat (.lst ds)] cs = rO (kJoin a ds) cs := rO_map _
theorem append_of (h : cs[i]? = some (.lst ws)) (hl : ws.length < 16777216) : oAppend (.cel i) [u] cs = .ok (.dat .non) (cs.set i (.lst (ws ++ [u]))) := by
  unfold oAppend
  dsimp only
  rw [h]
  dsimp only
  rw [if_pos (decide_eq_true hl)]
theorem d_I0 {gI : Int → Int → Dt} : dI0 gI (.int n) (.int m) = some (gI n m) := (rfl)
theorem d_mod {gI : Int → Int → Dt} (h : 0 < m) : dI cMod gI (.int n) (.int m) = some (gI n m) := if_pos (decide_eq_true h)
theorem d_div {gI : Int → Int → Dt} (h : 0 < m) (h2 : m < 1073741824) : dI cDiv gI (.int n) (.int m) = some (gI n m) := if_pos (by unfold cDiv; simp only [Bool.and_eq_true, decide_eq_true_eq]; exact ⟨h, h2⟩)
theorem d_pow {gI : Int → Int → Dt} (h : 0 ≤ m) (h2 : m ≤ 1000000) (h3 : -18446744073709551616 < n) (h4 : n < 18446744073709551616) : dI cPow gI (.int n) (.int m) = some (gI n m) := if_pos (by unfold cPow; simp only [Bool.and_eq_true, decide_eq_true_eq]; exact ⟨⟨h, h2⟩, by omega⟩)
theorem d_shr {gI : Int → Int → Dt} (h : 0 ≤ m) : dI cShr gI (.int n) (.int m) = some (gI n m) := if_pos (decide_eq_true h)
theorem d_neg : dNeg (.int n) = some (.int (-n)) := (rfl)
theorem d_mulL (h : -18446744073709551616 < n) (h2 : n < 18446744073709551616) : dMul (.int n) (.int m) = some (.int (n * m)) := by
  unfold dMul dI
  dsimp only
  rw [if_pos (by unfold cMul; simp only [Bool.and_eq_true, Bool.or_eq_true, decide_eq_true_eq]; exact .inl ⟨h, h2⟩)]
  rfl
theorem d_mulR (h : -18446744073709551616 < m) (h2 : m < 18446744073709551616) : dMul (.int n) (.int m) = some (.int (n * m)) := by
  unfold dMul dI
  dsimp only
  rw [if_pos (by unfold cMul; simp only [Bool.and_eq_true, Bool.or_eq_true, decide_eq_true_eq]; exact .inr ⟨h, h2⟩)]
  rfl
theorem d_mulS {a : Str} (h : 0 ≤ n) (h2 : n ≤ 16777216) (h3 : a.length * n.toNat ≤ 16777216) : dMul (.str a) (.int n) = some (.str (Txt.mul a n)) := by
  show (dMulS (.str a) (.int n)).or _ = _
  unfold dMulS
  dsimp only
  rw [if_pos (by simp only [Bool.and_eq_true, decide_eq_true_eq]; exact ⟨⟨h, h2⟩, decide_eq_true h3⟩)]
  rfl
theorem d_addI : dAdd (.int n) (.int m) = some (.int (n + m)) := (rfl)
theorem d_addS {a b : Str} (h : a.length + b.length ≤ 16777216) : dAdd (.str a) (.str b) = some (.str (a ++ b)) := by
  show (dAddS (.str a) (.str b)).or _ = _
  unfold dAddS
  dsimp only
  rw [if_pos (show szOk _ = true from decide_eq_true h)]
  rfl
theorem d_addL (h : ds.length + es.length ≤ 16777216) : dAdd (.lst ds) (.lst es) = some (.lst (ds ++ es)) := by
  show (dAddL (.lst ds) (.lst es)).or _ = _
  unfold dAddL
  dsimp only
  rw [if_pos (show szOk _ = true from decide_eq_true h)]
  rfl
theorem d_addT (h : ds.length + es.length ≤ 16777216) : dAdd (.tup ds) (.tup es) = some (.tup (ds ++ es)) := by
  show dAddT (.tup ds) (.tup es) = _
  unfold dAddT
  dsimp only
  rw [if_pos (show szOk _ = true from decide_eq_true h)]
def kSeq (g : Sv) (fl : Fl) : M Fl := match fl with
  | .nx env => g env
  | fl => M.ret fl
theorem s_seq : sSeq s t env cs = rb (s env cs) (kSeq t) := by
  unfold sSeq
  rw [mb]
  congr 1
  funext fl
  cases fl <;> rfl
theorem k_seq_nx : kSeq t (.nx env) cs = t env cs := (rfl)
theorem k_seq_rt : kSeq t (.rt w) cs = .ok (.rt w) cs := (rfl)
theorem k_seq_bk : kSeq t (.bk env) cs = .ok (.bk env) cs := (rfl)
theorem k_seq_ct : kSeq t (.ct env) cs = .ok (.ct env) cs := (rfl)
theorem s_nil : sNil env cs = .ok (.nx env) cs := (rfl)
def kRet (w : Wv) : M Fl := M.ret (.rt w)
theorem s_ret : sRet f env cs = rb (f env cs) kRet := mb _ _ _
theorem k_ret : kRet w cs = .ok (.rt w) cs := (rfl)
theorem s_retn : sRetN env cs = .ok (.rt (.dat .non)) cs := (rfl)
theorem s_brk : sBreak env cs = .ok (.bk env) cs := (rfl)
theorem s_cnt : sCont env cs = .ok (.ct env) cs := (rfl)
def kExpr (env : En) (_ : Wv) : M Fl := M.ret (.nx env)
theorem s_expr : sExpr f env cs = rb (f env cs) (kExpr env) := mb _ _ _
theorem k_expr : kExpr env w cs = .ok (.nx env) cs := (rfl)
def kSIf (s t : Sv) (env : En) (b : Bool) : M Fl := if b = true then s env else t env
theorem s_sif : sIf p s t env cs = rb (p env cs) (kSIf s t env) := mb _ _ _
theorem k_sif : kSIf s t env b cs = if b = true then s env cs else t env cs := by unfold kSIf; cases b <;> rfl
def kSet (i : Nat) (env : En) (w : Wv) : M Fl := M.ret (.nx (env.set i (some w)))
theorem s_set : sSet i f env cs = rb (f env cs) (kSet i env) := mb _ _ _
theorem k_set : kSet i env w cs = .ok (.nx (env.set i (some w))) cs := (rfl)
def kAsg (t : Tg) (env : En) (w : Wv) : M Fl := M.bind (M.opt (t w env)) fun env' => M.ret (.nx env')
def rE (o : Option En) (cs : List Cell) : R Fl := match o with
  | some env => .ok (.nx env) cs
  | none => .bad
theorem s_asg {t : Tg} : sAsg t f env cs = rb (f env cs) (kAsg t env) := mb _ _ _
theorem k_asg {t : Tg} : kAsg t env w cs = rE (t w env) cs := by
  unfold kAsg
  rw [mb]
  cases t w env <;> rfl
theorem rE_some : rE (some env) cs = .ok (.nx env) cs := (rfl)
theorem t_name : tName i w env = some (env.set i (some w)) := (rfl)
theorem t_tup {n : Nat} {tu : Tgs} (h : ds.length = n) : tTupG n tu (.dat (.tup ds)) env = tu ds env := (if_pos h)
theorem t_cons {tu : Tgs} : tgCons (tName i) tu (d :: ds) env = tu ds (env.set i (some (.dat d))) := (rfl)
theorem t_nil : tgNil [] env = some env := (rfl)
def kPar (i j : Nat) (env : En) (ws : List Wv) : M Fl := match ws with
  | [a, b] => M.ret (.nx ((env.set i (some a)).set j (some b)))
  | _ => M.bad
theorem s_par : sPar i j ga env cs = rb (ga env cs) (kPar i j env) := mb _ _ _
theorem k_par : kPar i j env [u, v] cs = .ok (.nx ((env.set i (some u)).set j (some v))) cs := (rfl)
def kPar3 (i j l : Nat) (env : En) (ws : List Wv) : M Fl := match ws with
  | [a, b, c] => M.ret (.nx (((env.set i (some a)).set j (some b)).set l (some c)))
  | _ => M.bad
theorem s_par3 : sPar3 i j l ga env cs = rb (ga env cs) (kPar3 i j l env) := mb _ _ _
theorem k_par3 : kPar3 i j l env [u, v, w] cs = .ok (.nx (((env.set i (some u)).set j (some v)).set l (some w))) cs := (rfl)
theorem s_raise : sRaise e env cs = .exc ⟨e, []⟩ cs := (rfl)
def kPut (fo fi : Ev) (env : En) (w : Wv) : M Fl := M.bind (fo env) fun x => M.bind (fi env) fun y => M.bind (mPut x y w) fun _ => M.ret (.nx env)
def kPut2 (fi : Ev) (env : En) (w x : Wv) : M Fl := M.bind (fi env) fun y => M.bind (mPut x y w) fun _ => M.ret (.nx env)
def kPut3 (env : En) (w x y : Wv) : M Fl := M.bind (mPut x y w) fun _ => M.ret (.nx env)
def kPut4 (env : En) (_ : Unit) : M Fl := M.ret (.nx env)
theorem s_put {fo fi : Ev} : sPut fo fi f env cs = rb (f env cs) (kPut fo fi env) := mb _ _ _
theorem k_put {fo fi : Ev} : kPut fo fi env w cs = rb (fo env cs) (kPut2 fi env w) := mb _ _ _
theorem k_put2 {fi : Ev} : kPut2 fi env w u cs = rb (fi env cs) (kPut3 env w u) := mb _ _ _
theorem k_put3 : kPut3 env w u v cs = rb (mPut u v w cs) (kPut4 env) := mb _ _ _
theorem k_put4 {un : Unit} : kPut4 env un cs = .ok (.nx env) cs := (rfl)
theorem put_is {kw : List (Key × Wv)} {ky : Key} (h : cs[i]? = some (.dic kw)) (hk : keyOf y = some ky) (hl : kw.length < 16777216) : mPut (.cel i) (.dat y) w cs = .ok () (cs.set i (.dic (putW kw ky w))) := by
  unfold mPut
  dsimp only
  rw [h, hk]
  dsimp only
  rw [if_pos (decide_eq_true hl)]
def kFor (t : Tg) (b : Sv) (env : En) (ws : List Wv) : M Fl := loopS t b ws env
theorem s_for {fi : EvI} {t : Tg} {b : Sv} : sFor fi t b env cs = rb (fi env cs) (kFor t b env) := mb _ _ _
theorem k_for {t : Tg} {b : Sv} : kFor t b env ws cs = loopS t b ws env cs := (rfl)
theorem s_while {μ : En → List Cell → Nat} {c : EvT} {b : Sv} : sWhile μ c b env cs = loopW c b (μ env cs) env cs := (rfl)
theorem s_iseq : iSeq f env cs = rb (f env cs) asSeq := mb _ _ _
theorem as_l : asSeq (.dat (.lst ds)) cs = .ok (ds.map .dat) cs := (rfl)
theorem as_t : asSeq (.dat (.tup ds)) cs = .ok (ds.map .dat) cs := (rfl)
theorem as_s {a : Str} : asSeq (.dat (.str a)) cs = .ok (signs a) cs := (rfl)
theorem as_scr {l : List Int} : asSeq (.dat (.scr l)) cs = .ok (l.map fun i => .dat (.int i)) cs := (rfl)
theorem s_rg1 : iRg1 ga env cs = rb (ga env cs) asR1 := mb _ _ _
theorem s_rg2 : iRg2 ga env cs = rb (ga env cs) asR2 := mb _ _ _
theorem k_rg1 (h : -4611686018427387904 ≤ n) (h2 : n < 4611686018427387904) : asR1 [.dat (.int n)] cs = .ok (rangeW 0 n.toNat) cs := by
  unfold asR1
  dsimp only
  rw [if_pos (by unfold okR; simp only [Bool.and_eq_true, decide_eq_true_eq]; exact ⟨h, h2⟩)]
  rfl
theorem k_rg2 (h : -4611686018427387904 ≤ n) (h2 : n < 4611686018427387904) (h3 : -4611686018427387904 ≤ m) (h4 : m < 4611686018427387904) : asR2 [.dat (.int n), .dat (.int m)] cs = .ok (rangeW n (m - n).toNat) cs := by
  unfold asR2
  dsimp only
  rw [if_pos (by unfold okR; simp only [Bool.and_eq_true, decide_eq_true_eq]; exact ⟨⟨h, h2⟩, h3, h4⟩)]
  rfl
theorem s_enum : iEnumE ga env cs = rb (ga env cs) asEnum := mb _ _ _
theorem k_enum_l : asEnum [.dat (.lst ds)] cs = .ok (enumW ds) cs := (rfl)
theorem k_enum_s {a : Str} : asEnum [.dat (.str a)] cs = .ok (enumW (signD a)) cs := (rfl)
theorem s_zip : iZipE ga env cs = rb (ga env cs) asZip := mb _ _ _
theorem k_zip_l : asZip [.dat (.lst ds), .dat (.lst es)] cs = .ok (zipW ds es) cs := (rfl)
theorem k_zip_lt : asZip [.dat (.lst ds), .dat (.tup es)] cs = .ok (zipW ds es) cs := (rfl)
theorem k_zip_tl : asZip [.dat (.tup ds), .dat (.lst es)] cs = .ok (zipW ds es) cs := (rfl)
theorem k_zip_t : asZip [.dat (.tup ds), .dat (.tup es)] cs = .ok (zipW ds es) cs := (rfl)
theorem k_zip_s {a b : Str} : asZip [.dat (.str a), .dat (.str b)] cs = .ok (zipW (signD a) (signD b)) cs := (rfl)
def kOf (ws : List Wv) : M Wv := M.bind (mDats ws) fun ds => M.ret (.dat (.lst ds))
def rD (o : Option (List Dt)) (cs : List Cell) : R Wv := match o with
  | some ds => .ok (.dat (.lst ds)) cs
  | none => .bad
theorem s_off {f : EvF} : eOfF f env cs = rb (f env cs) kOf := mb _ _ _
theorem k_of : kOf ws cs = rD (dats ws) cs := by
  unfold kOf mDats rD
  rw [mb]
  cases dats ws <;> rfl
theorem rD_some : rD (some ds) cs = .ok (.dat (.lst ds)) cs := (rfl)
theorem dats_mapd : ∀ ds : List Dt, dats (ds.map Wv.dat) = some ds
  | [] => rfl
  | d :: ds => by simp [dats, dats_mapd ds]
def kLc (t : Tg) (p : EvT) (f : Ev) (vs : List Nat) (env : En) (ws : List Wv) : M (List Wv) := if szOk ws.length = true then loopC t p f (wipeE env vs) ws else M.bad
theorem s_flc {gi : EvI} {t : Tg} {is : List Nat} : fLc gi t p f is env cs = rb (gi env cs) (kLc t p f is env) := mb _ _ _
theorem k_lc {t : Tg} {is : List Nat} (h : ws.length ≤ 16777216) : kLc t p f is env ws cs = loopC t p f (wipeE env is) ws cs := by
  unfold kLc
  rw [if_pos (show szOk _ = true from decide_eq_true h)]
theorem wipe_nil : wipeE env [] = env := (rfl)
theorem wipe_cons {is : List Nat} : wipeE env (i :: is) = (wipeE env is).set i none := (rfl)
def kCelF (ws : List Wv) : M Wv := mCell (.lst ws)
theorem s_celf {f : EvF} : eCelF f env cs = rb (f env cs) kCelF := mb _ _ _
theorem k_celf : kCelF ws cs = .ok (.cel cs.length) (cs ++ [.lst ws]) := (rfl)
def kFLst (ws : List Wv) : M (List Wv) := if szOk ws.length = true then M.ret ws else M.bad
theorem s_flst : fLst ga env cs = rb (ga env cs) kFLst := mb _ _ _
theorem k_flst (h : ws.length ≤ 16777216) : kFLst ws cs = .ok ws cs := by
  unfold kFLst
  rw [if_pos (show szOk _ = true from decide_eq_true h)]
  rfl
theorem k_fin_rt : fin (.rt w) cs = .ok w cs := (rfl)
theorem k_fin_nx : fin (.nx env) cs = .ok (.dat .non) cs := (rfl)
theorem fn_ev {n : Nat} {R' : R Wv} (h : rb (s (startE n ws) cs) fin = R') : fnOf n s ws cs = R' := by
  rw [← h]
  exact mb _ _ _
theorem start_nil {n : Nat} : startE n [] = List.replicate n none := by simp [startE]
theorem start_cons {n : Nat} : startE (n + 1) (w :: ws) = some w :: startE n ws := by
  simp [startE]
theorem repl_0 : List.replicate 0 (none : Option Wv) = [] := (rfl)
theorem repl_S {n : Nat} : List.replicate (n + 1) (none : Option Wv) = none :: List.replicate n none := (rfl)
theorem s_caught {L : List (Str × Addr)} : eCaught L f env cs = mCaught L (f env) cs := (rfl)
end
end DX
namespace DX
variable [TabT]
open PySem PySem.Spec PyProof.Rows L2
/-- what is asked of a law's classes -/
structure Ax where
  K : Frag
  A : Nat → Addr
  L : List (Str × Addr)
  M : Nat → Nat → Nat → LamK
section
variable {K : Frag} {mg : MG} {ω : Wo} {H : Hp} {cs : List Cell}
theorem Ok.frz {i : Nat} {a : Addr} {o : HO} (k : Ok K ω H cs) (e : ω.ad[i]? = some a) (hn : ω.Hs a = none ∧ ω.fr a = none) (hH : H a = some o) (hp : NoTbl o) : Ok K (ω.froze a o) H (cs.set i .dead) := by
  have le : Le ω (ω.froze a o) := ⟨Ex.new hn.1, List.prefix_refl _, rfl, rfl⟩
  refine ⟨fun b u hb => ?_, by rw [List.length_set]; exact k.len, k.nd, fun j b c e1 e2 => ?_, k.tab, k.frx, fun b u hb => ?_, fun b u hb => ?_, k.nf, k.lk⟩
  · have hb : upd ω.Hs a o b = some u := hb
    by_cases h : b = a
    · subst h
      rw [upd_same] at hb
      exact hH.trans hb
    · rw [upd_ne h] at hb
      exact k.ex b u hb
  · by_cases hj : i = j
    · subst hj
      have e1 : ω.ad[i]? = some b := e1
      rw [e] at e1
      cases e1
      have hl : i < cs.length := by
        rw [k.len]
        exact (List.getElem?_eq_some_iff.mp e).1
      rw [List.getElem?_set_self hl] at e2
      cases e2
      exact ⟨o, upd_same⟩
    · rw [List.getElem?_set_ne hj] at e2
      have q := k.cel j b c e1 e2
      have ne : b ≠ a := fun z => by
        subst z
        obtain ⟨h1, g1⟩ := List.getElem?_eq_some_iff.mp e
        obtain ⟨h2, g2⟩ := List.getElem?_eq_some_iff.mp e1
        exact hj ((List.getElem_inj k.nd).mp (g1.trans g2.symm))
      exact q.mono le (fun z => by show upd _ _ _ b = none; rw [upd_ne ne]; exact z) fun u z => z
  · show upd _ _ _ b = none
    have hb : ω.fr b = some u := hb
    rw [upd_ne (fun z => by rw [z, hn.2] at hb; cases hb)]
    exact k.dj b u hb
  · have hb : upd ω.Hs a o b = some u := hb
    by_cases h : b = a
    · subst h
      rw [upd_same] at hb
      cases hb
      exact hp
    · rw [upd_ne h] at hb
      exact k.nt b u hb
/-- fields that are data -/
def datF : List (Str × Wv) → Option (List (Str × Dt))
  | [] => some []
  | (k, .dat d) :: ws => (datF ws).map ((k, d) :: ·)
  | (_, .cel _) :: _ => none
theorem RepWf.dats : ∀ {vs : List (Str × V)} {ws : List (Str × Wv)} {ds : List (Str × Dt)}, RepWf K ω vs ws → datF ws = some ds → RepF K ω.Hs vs ds
  | _, [], _, h, e => by
    cases h
    simp [datF] at e
    subst e
    exact .nil
  | _, (k, .dat d) :: ws, _, h, e => by
    cases h with
    | cons h1 h2 =>
      simp [datF] at e
      obtain ⟨es, e1, rfl⟩ := e
      exact .cons h1 (RepWf.dats h2 e1)
  | _, (k, .cel j) :: ws, _, h, e => by simp [datF] at e
def datT : List (List Key × Wv) → Option (List (List Key × Dt))
  | [] => some []
  | (k, .dat d) :: l => (datT l).map ((k, d) :: ·)
  | (_, .cel _) :: _ => none
theorem RepWt.datT {K : Frag} {ω : Wo} : ∀ {vs : List (List Key × V)} {ws : List (List Key × Wv)} {ds : List (List Key × Dt)}, RepWt K ω vs ws → datT ws = some ds → RepT K ω.Hs vs ds
  | _, [], _, h, e => by cases h; cases e; exact .nil
  | _, (k, .dat d) :: ws, _, h, e => by
    cases h with
    | cons h1 h2 =>
      have e : (DX.datT ws).map ((k, d) :: ·) = some _ := e
      cases q : DX.datT ws with
      | none => rw [q] at e; cases e
      | some es =>
        rw [q] at e
        cases e
        exact .cons h1 (h2.datT q)
  | _, (k, .cel _) :: ws, _, h, e => by cases e
def cFrz : Option Cell → Option Dt
  | some (.lst ws) => (dats ws).map .lst
  | some (.dic ws) => (datK ws).map .dic
  | some (.ins C ws) => (datF ws).map (.obj C)
  | some (.dit false ws) => (datT ws).map .dit
  | _ => none
def mFrz (w : Wv) : M Wv := fun cs => match w with
  | .dat d => .ok (.dat d) cs
  | .cel k => match cFrz cs[k]? with
    | some d => .ok (.dat d) (cs.set k .dead)
    | none => .bad
theorem frz_use {E : XK} {v : V} {w : Wv} {F : Wv → Wo → List Cell → Hp → Prop} (k : Ok K ω H cs) (r : RepW K ω v w) (h : Out K mg E ω (mFrz w cs) F) : ∃ w' ω' cs', Le ω ω' ∧ Ok K ω' H cs' ∧ RepW K ω' v w' ∧ F w' ω' cs' H := by
  cases w with
  | dat d => exact ⟨_, ω, cs, Le.refl _, k, r, h.now k⟩
  | cel i =>
    obtain ⟨a, e1, rfl⟩ := r
    cases hc : cs[i]? with
    | none => unfold mFrz at h; dsimp only at h; rw [hc] at h; exact (show False from h).elim
    | some c =>
      have q := k.cel i a c e1 hc
      have key : ∀ (o : HO) (d : Dt), cFrz (some c) = some d → (ω.Hs a = none ∧ ω.fr a = none) → H a = some o → NoTbl o → RepD K (ω.froze a o).Hs (.ref a) d → ∃ w' ω' cs', Le ω ω' ∧ Ok K ω' H cs' ∧ RepW K ω' (.ref a) w' ∧ F w' ω' cs' H := fun o d ed hn hH hp rd => by
        unfold mFrz at h
        dsimp only at h
        rw [hc, ed] at h
        have ok := k.frz e1 hn hH hp
        exact ⟨.dat d, ω.froze a o, cs.set i .dead, ⟨Ex.new hn.1, List.prefix_refl _, rfl, rfl⟩, ok, rd, h _ H ⟨Ex.new hn.1, List.prefix_refl _, rfl, rfl⟩ ok⟩
      have bad : cFrz (some c) = none → ∃ w' ω' cs', Le ω ω' ∧ Ok K ω' H cs' ∧ RepW K ω' (.ref a) w' ∧ F w' ω' cs' H := fun e => by
        unfold mFrz at h
        dsimp only at h
        rw [hc, e] at h
        exact (show False from h).elim
      cases c with
      | lst ws =>
        obtain ⟨hn, vs, h1, h2⟩ := q
        cases ed : dats ws with
        | none => exact bad (by show (dats ws).map Dt.lst = none; rw [ed]; rfl)
        | some ds =>
          refine key _ (.lst ds) (by show (dats ws).map Dt.lst = _; rw [ed]; rfl) hn h1 True.intro (.lst upd_same ?_)
          exact (h2.dats ed).mono (Ex.new hn.1) _ _
      | dic ws =>
        obtain ⟨hn, vs, h1, h2⟩ := q
        cases ed : datK ws with
        | none => exact bad (by show (datK ws).map Dt.dic = none; rw [ed]; rfl)
        | some ds =>
          refine key _ (.dic ds) (by show (datK ws).map Dt.dic = _; rw [ed]; rfl) hn h1 True.intro (.dic upd_same ?_)
          exact (h2.datK ed).mono (Ex.new hn.1) _ _
      | ins C ws =>
        obtain ⟨⟨hn, hc⟩, dx, vs, h1, h2⟩ := q
        cases ed : datF ws with
        | none => exact bad (by show (datF ws).map (Dt.obj C) = none; rw [ed]; rfl)
        | some ds =>
          refine key _ (.obj C ds) (by show (datF ws).map (Dt.obj C) = _; rw [ed]; rfl) hn h1 True.intro (.obj upd_same hc ?_)
          exact (h2.dats ed).mono (Ex.new hn.1) _ _
      | dead => exact bad rfl
      | lck ws => exact bad rfl
      | dit b ws =>
        cases b with
        | true => exact bad rfl
        | false =>
          obtain ⟨hn, vs, h1, h2⟩ := q
          rcases h1 with ⟨_, h1⟩ | ⟨z, _⟩
          · cases ed : datT ws with
            | none => exact bad (by show (datT ws).map Dt.dit = none; rw [ed]; rfl)
            | some ds =>
              refine key _ (.dit ds) (by show (datT ws).map Dt.dit = _; rw [ed]; rfl) hn h1 True.intro (.dit upd_same ?_)
              exact (h2.datT ed).mono (Ex.new hn.1) _ _
          · cases z
end
def eFrz (f : Ev) : Ev := fun env => M.bind (f env) mFrz
section
variable {X : Cx} {E : XK} {e : Expr} {f : Ev}
theorem ev_frz (h : EV X E e f) : EV X E e (eFrz f) := PE.imp h fun σ H Q ⟨env, cs, ω, hs, hk, h⟩ => ⟨env, cs, ω, hs, hk, h.bind.imp fun w ω1 cs1 H1 l1 k1 h1 v rv => by
  obtain ⟨w', ω', cs', l, ok, r, q⟩ := frz_use k1 rv h1
  exact q v r⟩
end
section
variable {K : Frag} {mg : MG} {ω : Wo} {H : Hp} {cs : List Cell} {p : Addr} {o : HO}
theorem Ok.wide (k : Ok K ω H cs) (hp : H p = none) : Ok K ω (upd H p o) cs :=
  ⟨k.ex.trans (Ex.new hp), k.len, k.nd, fun i a c e1 e2 => (k.cel i a c e1 e2).mono (Le.refl ω) id fun u z => Ex.new hp _ _ z, k.tab.ext (Ex.new hp), k.frx.trans (Ex.new hp), k.dj, k.nt, k.nf, fun a oo vs e => Ex.new hp _ _ (k.lk a oo vs e)⟩
end
def kNew (fz : Bool) (k : Nat) (w : Wv) : M Wv := match w with
  | .dat .non => if fz = true then mFrz (.cel k) else M.ret (.cel k)
  | _ => M.bad
/-- a new instance: a cell while __init__ runs, frozen behind it or not -/
def mNew (fz : Bool) (C : Addr) (m : Fn) (ws : List Wv) : M Wv := fun cs => M.bind (m (.cel cs.length :: ws)) (kNew fz cs.length) (cs ++ [.ins C []])
def eNew (fz : Bool) (C : Addr) (n : Nat) (m : Fn) (g : EvA) : Ev := fun env => M.bind (g env) fun ws => if ws.length + 1 = n then mNew fz C m ws else M.bad
section
variable {X : Cx} {E : XK} {k : Nat} {f C : Addr} {fd : FuncData} {ps : List Str} {m : Fn} {x : Str} {p pos : Pos} {e : Expr} {es : List Expr} {g : EvA} {fz : Bool}
theorem run_new {ω : Wo} {cs : List Cell} {ws : List Wv} {pins : List (Addr × Obj)} {σ : L2.St} {H : Hp} {s : Shared} {Q : VK} {us : List Value} {vs : List V} (hOw : OwnC X.K C) (Mk' : Mk X.K C f) (F : FnG X.prog X.w X.K X.mg X.base false k f fd ps m) (hr : Room (k + 1) X.A) (hx : Passes (L2.CX X.prog X.w) X E)
    (hb : L2.Binds X.K fd ps []) (I : Inv X pins σ H s) (r : Vals vs us) (hl : ws.length + 1 = ps.length) (hk : Ok X.K ω H cs) (rw' : RepWs X.K ω vs ws) (h : Out X.K X.mg E ω (mNew fz C m ws cs) (fun w ω' _ H' => ∀ v, RepW X.K ω' v w → Q v H')) :
    wpAny (model X.prog X.w) X.A (call (.ref C) us) (EP X pins σ Q) X.xe s := by
  have n1 : H (s.heap.objs.size + 1) = none := I.hok.fresh (Nat.le_succ _)
  have n2 : H s.heap.objs.size = none := I.hok.fresh (Nat.le_refl _)
  have ne : s.heap.objs.size ≠ s.heap.objs.size + 1 := Nat.ne_of_lt (Nat.lt_succ_self _)
  have k1 : Ok X.K ω (upd H s.heap.objs.size (.own (s.heap.objs.size + 1))) cs := hk.wide n2
  have n3 : upd H s.heap.objs.size (HO.own (s.heap.objs.size + 1)) (s.heap.objs.size + 1) = none := by rw [upd_ne (Ne.symm ne)]; exact n1
  have k2 : Ok X.K (ω.more (s.heap.objs.size + 1)) (upd (upd H s.heap.objs.size (.own (s.heap.objs.size + 1))) (s.heap.objs.size + 1) (.ins C s.heap.objs.size [])) (cs ++ [.ins C []]) :=
    k1.more n3 ⟨⟨⟨k1.ex.back n3, k1.frx.back n3⟩, hOw⟩, s.heap.objs.size, [], upd_same, .nil⟩
  have I2 := Inv.made (C := C) I
  have r2 : Vals (V.ref (s.heap.objs.size + 1) :: vs) (Value.ref (s.heap.objs.size + 1) :: us) := .cons rfl r
  have rs : RepWs X.K (ω.more (s.heap.objs.size + 1)) (V.ref (s.heap.objs.size + 1) :: vs) (.cel cs.length :: ws) := .cons ⟨_, by show (ω.ad ++ [_])[cs.length]? = _; rw [hk.len]; simp, rfl⟩ (rw'.mono Le.more)
  have hO : Out X.K X.mg E (ω.more (s.heap.objs.size + 1)) (m (.cel cs.length :: ws) (cs ++ [.ins C []])) (fun w ω1 cs1 H1 => Out X.K X.mg E ω1 (kNew fz cs.length w cs1) (fun w ω' _ H' => ∀ v, RepW X.K ω' v w → Q v H')) := (Out.le Le.more h).bind
  have lu : (Value.ref (s.heap.objs.size + 1) :: us).length = ps.length := by
    rw [← r2.length]
    exact (congrArg Nat.succ rw'.len).trans hl
  refine wpAny_call (make_map (f := f) I.kIn Mk'.makes Mk'.init (beq_iff_eq.mp Mk'.fn) (codeAny_mono (F.run _ X.stack _ _ ⟨Value.ref (s.heap.objs.size + 1) :: us, []⟩ (Value.ref (s.heap.objs.size + 1) :: us) _ (fun v H2 => v = .non ∧ Q (.ref (s.heap.objs.size + 1)) H2) E (ω.more (s.heap.objs.size + 1)) (cs ++ [.ins C []]) (.cel cs.length :: ws) (hr.make C us [])
    (fun z => nomatch z) (I2.env0.make C us []) (by have q := hb _ (Value.ref (s.heap.objs.size + 1) :: us) I2.kIn (by rw [List.append_nil]; exact lu); rwa [List.append_nil] at q) r2 hl k2 rs (hO.imp fun w ω1 cs1 H1 l1 k3 h1 v rv => ?_)) fun r s' hq' => ?_))
  · have at1 : ω1.ad[cs.length]? = some (s.heap.objs.size + 1) := l1.at (by show (ω.ad ++ [_])[cs.length]? = _; rw [hk.len]; simp)
    cases w with
    | cel j => exact (show False from h1).elim
    | dat d =>
      cases d with
      | non =>
        cases (show RepD X.K ω1.Hs v .non from rv)
        refine ⟨rfl, ?_⟩
        unfold kNew at h1
        dsimp only at h1
        cases fz with
        | true =>
          rw [if_pos rfl] at h1
          obtain ⟨w', ω', cs', l, ok, r', q⟩ := frz_use k3 (show RepW X.K ω1 (.ref (s.heap.objs.size + 1)) (.cel cs.length) from ⟨_, at1, rfl⟩) h1
          exact q _ r'
        | false =>
          rw [if_neg Bool.false_ne_true] at h1
          exact h1.now k3 _ ⟨_, at1, rfl⟩
      | _ => exact (show False from h1).elim
  · cases r with
    | error e => exact hx pins σ _ _ e s' I2 hq'
    | ok fl =>
      cases fl with
      | ret u =>
        obtain ⟨v, H', I3, rv, ev, q3⟩ := I2.after hq'
        subst ev
        exact ⟨rv, ⟨V.ref (s.heap.objs.size + 1), H', I3, rfl, q3⟩⟩
      | next => exact False.elim hq'
      | brk => exact False.elim hq'
      | cont => exact False.elim hq'
theorem ev_new (fz : Bool) (hOw : OwnC X.K C) (Mk' : Mk X.K C f) (F : FnG X.prog X.w X.K X.mg X.base false k f fd ps m) (hr : Room (k + 1) X.A) (hx : Passes (L2.CX X.prog X.w) X E) (hg : Gl X x) (hm : X.mg x = some (.ref C)) (hb : L2.Binds X.K fd ps [])
    (ha : EVA X E (e :: es) g) (hdb : (x == ("__debug__" : Str)) = false := by decide) (he : starEach (e :: es) X.env = (false, eval e X.env) :: starEach es X.env := by rfl) (hpl : (backTo pos (starEach es X.env)).any (·.1) = false := by rfl) :
    EV X E (.Call (.Name x p) (e :: es) [] pos) (eNew fz C ps.length m g) := by
  refine ⟨fun pins s σ H Q I h => ?_⟩
  obtain ⟨env, cs, ω, hs, hk, h⟩ := h
  refine wpAny_Call_Name_kw (ld_glob I hg hm ?_ hdb)
  refine PySem.W.callWith_K (h₀ := X.base) I.ok.mod.kin Mk'.kp (thn (ha.run pos pins s σ H (fun vs H1 => ∃ ω1 cs1 ws, Ok X.K ω1 H1 cs1 ∧ RepWs X.K ω1 vs ws ∧ Out X.K X.mg E ω1 ((if ws.length + 1 = ps.length then mNew fz C m ws else M.bad) cs1) (fun w ω' _ H' => ∀ v, RepW X.K ω' v w → Q v H')) I ⟨env, cs, ω, hs, hk, h.bind.imp fun ws ω1 cs1 H1 l1 k1 h1 vs rv => ⟨ω1, cs1, ws, k1, rv, h1⟩⟩) fun us s1 ⟨vs, H1, I1, r, ω1, cs1, ws, k1, rv, h1⟩ => ⟨I1.kIn, ?_⟩) he hpl
  split at h1
  · rename_i hl
    exact run_new hOw Mk' F hr hx hb I1 r hl k1 rv h1
  · exact (show False from h1).elim
end
def putFW (f : Str) (w : Wv) : List (Str × Wv) → List (Str × Wv)
  | [] => [(f, w)]
  | (g, x) :: r => if g = f then (g, w) :: r else (g, x) :: putFW f w r
theorem RepWf.put {K : Frag} {ω : Wo} {f : Str} {v : V} {w : Wv} {vs : List (Str × V)} {ws : List (Str × Wv)} (r : RepWf K ω vs ws) (h : RepW K ω v w) : RepWf K ω (putF f v vs) (putFW f w ws) := by
  induction r with
  | nil => exact .cons h .nil
  | @cons k v' vs w' ws h1 h2 ih =>
    unfold putF putFW
    by_cases e : k = f
    · rw [if_pos e, if_pos e]
      exact .cons h h2
    · rw [if_neg e, if_neg e]
      exact .cons h1 ih
theorem RepWf.lookup {K : Frag} {ω : Wo} {f : Str} {w : Wv} : ∀ {vs : List (Str × V)} {ws : List (Str × Wv)}, RepWf K ω vs ws → ws.lookup f = some w → ∃ v, vs.lookup f = some v ∧ RepW K ω v w
  | _, _, .nil, e => by simp at e
  | _, _, .cons (k := k) h1 h2, e => by
    rw [List.lookup_cons] at e ⊢
    cases hk : f == k with
    | true => rw [hk] at e; cases e; exact ⟨_, rfl, h1⟩
    | false => rw [hk] at e; exact RepWf.lookup h2 e
theorem RepF.lookup {K : Frag} {H : Hp} {f : Str} {d : Dt} : ∀ {vs : List (Str × V)} {ds : List (Str × Dt)}, RepF K H vs ds → ds.lookup f = some d → ∃ v, vs.lookup f = some v ∧ RepD K H v d
  | _, [], h, e => by simp at e
  | _, (k, d0) :: ds, h, e => by
    cases h with
    | cons h1 h2 =>
      rw [List.lookup_cons] at e ⊢
      cases hk : f == k with
      | true => rw [hk] at e; cases e; exact ⟨_, rfl, h1⟩
      | false => rw [hk] at e; exact RepF.lookup h2 e
theorem RepWf.len {K : Frag} {ω : Wo} {vs : List (Str × V)} {ws : List (Str × Wv)} (r : RepWf K ω vs ws) : vs.length = ws.length := by
  induction r with
  | nil => rfl
  | cons _ _ ih => simp [ih]
def cFld (C : Addr) (f : Str) : Option Cell → Option Wv
  | some (.ins D l) => if D = C then l.lookup f else none
  | _ => none
def wFld (C : Addr) (f : Str) (cs : List Cell) : Wv → Option Wv
  | .dat (.obj D l) => if D = C then (l.lookup f).map .dat else none
  | .cel k => cFld C f cs[k]?
  | _ => none
def mFld (C : Addr) (f : Str) (w : Wv) : M Wv := fun cs => M.opt (wFld C f cs w) cs
def eFld (C : Addr) (f : Str) (o : Ev) : Ev := fun env => M.bind (o env) (mFld C f)
def mPutF (C : Addr) (f : Str) (o w : Wv) : M Unit := fun cs => match o with
  | .cel k => match cs[k]? with
    | some (.ins D l) => if D = C ∧ l.length < 1000 then .ok () (cs.set k (.ins C (putFW f w l))) else .bad
    | _ => .bad
  | _ => .bad
def sPutF (C : Addr) (f : Str) (o v : Ev) : Sv := fun env => M.bind (v env) fun w => M.bind (o env) fun x => M.bind (mPutF C f x w) fun _ => M.ret (.nx env)
section
variable {X : Cx} {E : XK} {C : Addr} {o e value : Expr} {f : Str} {pos pos' : Pos} {fo fv : Ev}
theorem ev_fld (c : Cls X.K C) (n : NoAttr X.K C f) (he : EV X E e fo) (hb : attributeBase e f X.env (eval e X.env) = eval e X.env := by rfl) : EV X E (.Attribute e f pos) (eFld C f fo) :=
  PE.imp (pe_fld he hb) fun σ H Q ⟨env, cs, ω, hs, hk, h⟩ => ⟨env, cs, ω, hs, hk, h.bind.imp fun x ω1 cs1 H1 l1 k1 h1 u ru => by
    obtain ⟨z, ez, h2⟩ := Out.opt (show Out X.K X.mg E ω1 (M.opt (wFld C f cs1 x) cs1) _ from h1)
    cases x with
    | dat d =>
      cases d with
      | obj D l =>
        have ez2 : (if D = C then (l.lookup f).map Wv.dat else none) = some z := ez
        clear ez
        by_cases hD : D = C
        · rw [if_pos hD] at ez2
          subst hD
          cases el : l.lookup f with
          | none => rw [el] at ez2; cases ez2
          | some d =>
            rw [el] at ez2
            cases ez2
            cases (show RepD X.K ω1.Hs u (.obj D l) from ru) with
            | obj g1 hc g2 =>
              obtain ⟨v, e1, r1⟩ := g2.lookup el
              exact ⟨_, D, _, _, v, rfl, k1.ex _ _ g1, c, n, e1, h2.now k1 v r1⟩
        · rw [if_neg hD] at ez2
          cases ez2
      | _ => cases ez
    | cel j =>
      obtain ⟨a, e1, rfl⟩ := ru
      have ez : cFld C f cs1[j]? = some z := ez
      cases hc : cs1[j]? with
      | none => rw [hc] at ez; cases ez
      | some cc =>
        rw [hc] at ez
        have q := k1.cel j a cc e1 hc
        cases cc with
        | ins D l =>
          have ez2 : (if D = C then l.lookup f else none) = some z := ez
          clear ez
          by_cases hD : D = C
          · rw [if_pos hD] at ez2
            subst hD
            obtain ⟨_, dx, vs, g1, g2⟩ := q
            obtain ⟨v, e2, r1⟩ := g2.lookup ez2
            exact ⟨a, D, dx, vs, v, rfl, g1, c, n, e2, h2.now k1 v r1⟩
          · rw [if_neg hD] at ez2
            cases ez2
        | _ => cases ez⟩
theorem sv_putF (c : Cls X.K C) (n : NoAttr X.K C f) (ho : EV X E o fo) (hv : EV X E value fv) (hs : swapsWith value (some (.Attribute o f pos')) pos.line X.env = pure false := by rfl) : SV X E (.Assign [.Attribute o f pos'] value pos) (sPutF C f fo fv) :=
  PS.imp (ps_fld ho hv hs) fun D σ H ⟨env, cs, ω, hst, hk, h⟩ => ⟨env, cs, ω, hst, hk, h.bind.imp fun w ω1 cs1 H1 l1 k1 h1 v rv => ⟨env, cs1, ω1, hst.mono l1, k1, h1.bind.imp fun x ω2 cs2 H2 l2 k2 h2 u ru => by
    have h3 := h2.bind
    cases x with
    | dat d => exact (show False from h3).elim
    | cel j =>
      obtain ⟨a, e1, rfl⟩ := ru
      unfold mPutF at h3
      dsimp only at h3
      cases hc : cs2[j]? with
      | none => rw [hc] at h3; exact (show False from h3).elim
      | some cc =>
        rw [hc] at h3
        have q := k2.cel j a cc e1 hc
        cases cc with
        | ins D l =>
          dsimp only at h3
          split at h3
          · rename_i hD
            obtain ⟨hD, hl⟩ := hD
            subst hD
            obtain ⟨⟨hn, hco⟩, dx, vs, g1, g2⟩ := q
            refine ⟨a, D, dx, vs, rfl, g1, c, n, by rw [g2.len]; exact hl, ?_⟩
            have k3 := k2.setCell e1 hn g1 (o' := .ins D dx (putF f v vs)) (c := .ins D (putFW f w l)) ⟨(fun ps z => nomatch z), fun b q z => by unfold LamX.CodeO at z; cases z⟩ ⟨⟨hn, hco⟩, dx, _, upd_same, g2.put (rv.mono l2)⟩
            exact ((h3.okk k3).now k3) σ (hst.mono (l1.trans l2))
          · exact (show False from h3).elim
        | _ => exact (show False from h3).elim⟩⟩
end
end DX
namespace DX
variable [TabT]
open PySem PySem.Spec PyProof.Rows L2
def oIsO (K : Frag) (ws : List Wv) (_ : List Cell) : Option Dt := match ws with
  | [.dat d, .dat (.op (.ref C))] => match d with
    | .obj D _ => (PySem.W.kitOne K (.ref D) (.ref C)).map .bl
    | d => match tyN d with
      | some n => (PySem.W.kitOne K (.type n) (.ref C)).map .bl
      | none => none
  | _ => none
/-- built-in classes: an own instance is of none -/
def tysOf : List Dt → Option (List String)
  | [] => some []
  | .op (.ty m) :: l => if allTy.contains m = true then (tysOf l).map (m :: ·) else none
  | _ :: _ => none
def dIsiO : Dt → Dt → Option Dt
  | .obj _ _, .op (.ty m) => if allTy.contains m = true then some (.bl false) else none
  | .obj _ _, .tup l => (tysOf l).map fun _ => .bl false
  | _, _ => none
def oIsi : List Wv → List Cell → Option Dt := fun ws cs => (o2 dIsi ws cs).or (o2 dIsiO ws cs)
section
variable {K : Frag}
theorem tysOf_of {K : Frag} {ω : Wo} {D : Addr} (hc : OwnC K D) : ∀ {us : List V} {ys : List Dt} {ms : List String}, RepL K ω.Hs us ys → tysOf ys = some ms → ∃ cls, Paired ClsV us cls ∧ PySem.W.kitAny K (.ref D) cls = some false
  | _, [], _, h, e => by cases h; exact ⟨[], .nil, rfl⟩
  | _, y :: ys, _, h, e => by
    cases h with
    | cons h1 h2 =>
      cases y with
      | op v =>
        cases v with
        | ty m =>
          have e : (if allTy.contains m = true then (tysOf ys).map (m :: ·) else none) = some _ := e
          by_cases hm : allTy.contains m = true
          · rw [if_pos hm] at e
            cases q : tysOf ys with
            | none => rw [q] at e; cases e
            | some ns =>
              obtain ⟨cls, q1, q2⟩ := tysOf_of hc h2 q
              cases h1
              exact ⟨_ :: cls, .cons (.ty m) q1, kitAny_cons (hc.kt m (by simpa [allTy] using hm)) (fun _ => q2) fun z => nomatch z⟩
          · rw [if_neg hm] at e
            cases e
        | _ => cases e
      | _ => cases e
theorem co_isiO : CallO K (fun xs H Q => rIsi K xs H Q ∨ (rIsiT K xs H Q ∨ rIsiK K xs H Q)) (o2 dIsiO) := fun ω H cs vs ws z k rv e Q q => by
  obtain ⟨x, y, rfl, e1⟩ := o2_of e
  obtain ⟨v, u, rfl, r, r'⟩ := rv.two
  cases x with
  | obj D l =>
    cases r with
    | obj g1 hc g2 =>
      have ty : TyX K H _ (.ref D) := .base (.ins (k.ex _ _ g1) hc.cl hc.ha hc.hn hc.ht hc.hm)
      cases y with
      | op w =>
        cases w with
        | ty m =>
          have e1 : (if allTy.contains m = true then some (Dt.bl false) else none) = some z := e1
          by_cases hm : allTy.contains m = true
          · rw [if_pos hm] at e1
            cases e1
            cases r'
            exact .inl ⟨_, _, _, _, false, rfl, .ty m, ty, hc.kt m (by simpa [allTy] using hm), q ω H _ (Le.refl _) k (.bl _)⟩
          · rw [if_neg hm] at e1
            cases e1
        | _ => cases e1
      | tup l =>
        have e1 : (tysOf l).map (fun _ => Dt.bl false) = some z := e1
        cases ht : tysOf l with
        | none => rw [ht] at e1; cases e1
        | some ms =>
          rw [ht] at e1
          cases e1
          cases r' with
          | tup h1 h2 =>
            obtain ⟨cls, q1, q2⟩ := tysOf_of hc h2 ht
            have h := (ex_t k.ex h1).at_
            exact .inr (.inl ⟨_, _, _, _, cls, false, rfl, h, q1, ty, q2, q ω H _ (Le.refl _) k (.bl _)⟩)
      | _ => cases e1
  | _ => cases e1
theorem co_isi2 : CallO K (fun xs H Q => (rIsi K xs H Q ∨ (rIsiT K xs H Q ∨ rIsiK K xs H Q)) ∨ (rIsi K xs H Q ∨ (rIsiT K xs H Q ∨ rIsiK K xs H Q))) oIsi := CallO.or co_isi co_isiO
theorem co_isO : CallO K (rIsi K) (oIsO K) := fun ω H cs vs ws z k rv e Q q => by
  unfold oIsO at e
  split at e
  · rename_i d C
    obtain ⟨v, u, rfl, r, r'⟩ := rv.two
    cases r'
    have base : ∀ (t : Value), TyX K H v t → (PySem.W.kitOne K t (.ref C)).map Dt.bl = some z → rIsi K [v, .ref C] H Q := fun t ty e2 => by
      cases hk : PySem.W.kitOne K t (.ref C) with
      | none => rw [hk] at e2; cases e2
      | some b =>
        rw [hk] at e2
        cases e2
        exact ⟨v, .ref C, t, .ref C, b, rfl, .own C, ty, hk, q ω H _ (Le.refl _) k (.bl _)⟩
    split at e
    · rename_i D l
      cases r with
      | obj g1 hc g2 => exact base _ (.base (.ins (k.ex _ _ g1) hc.cl hc.ha hc.hn hc.ht hc.hm)) e
    · split at e
      · rename_i n en
        exact base _ (tyX_of k r en).1 e
      · cases e
  · cases e
end
def oExtend (x : Wv) (ws : List Wv) : M Wv := fun cs => match x, ws with
  | .cel k, [.dat (.lst ds)] => match cs[k]? with
    | some (.lst l) => if decide (l.length + ds.length ≤ 16777216) = true then .ok (.dat .non) (cs.set k (.lst (l ++ ds.map .dat))) else .bad
    | _ => .bad
  | _, _ => .bad
def rangeD (lo : Int) (n : Nat) : List Dt := (List.range n).map fun (i : Nat) => .int (lo + i)
theorem rep_range {K : Frag} {H : Hp} (a : Int) : ∀ l : List Nat, RepL K H (l.map fun (i : Nat) => V.int (a + (i : Nat))) (l.map fun (i : Nat) => Dt.int (a + i))
  | [] => .nil
  | i :: l => .cons (.int _) (rep_range a l)
def kRgL1 (mk : List Dt → Dt) : Wv → M Wv
  | .dat (.int j) => if (okR j && decide (j.toNat ≤ 16777216)) = true then M.ret (.dat (mk (rangeD 0 j.toNat))) else M.bad
  | _ => M.bad
def kRgL2 (mk : List Dt → Dt) : Wv → Wv → M Wv
  | .dat (.int i), .dat (.int j) => if (okR i && okR j && decide ((j - i).toNat ≤ 16777216)) = true then M.ret (.dat (mk (rangeD i (j - i).toNat))) else M.bad
  | _, _ => M.bad
def eRgL1 (mk : List Dt → Dt) (f : Ev) : Ev := fun env => M.bind (f env) (kRgL1 mk)
def eRgL2 (mk : List Dt → Dt) (f g : Ev) : Ev := fun env => M.bind (f env) fun x => M.bind (g env) fun y => kRgL2 mk x y
section
variable {X : Cx} {E : XK} {a b e : Expr} {f g : Ev} {ga : EvA} {p p2 pos pos2 apos cpos : Pos}
theorem b_isO {e2 : Expr} (hg : Gl X "isinstance") (hm : X.mg "isinstance" = none) (ha : EVA X E [e, e2] ga) (he : starEach [e, e2] X.env = (false, eval e X.env) :: starEach [e2] X.env := by rfl) (hpl : (backTo pos (starEach [e2] X.env)).any (·.1) = false := by rfl) : EV X E (.Call (.Name "isinstance" p) [e, e2] [] pos) (eCall (oIsO X.K) ga) := ev_callB call_isi co_isO hg hm boot_isinstance ha (by decide) (by decide) he hpl
theorem b_isi2 {e2 : Expr} (hg : Gl X "isinstance") (hm : X.mg "isinstance" = none) (ha : EVA X E [e, e2] ga) (he : starEach [e, e2] X.env = (false, eval e X.env) :: starEach [e2] X.env := by rfl) (hpl : (backTo pos (starEach [e2] X.env)).any (·.1) = false := by rfl) : EV X E (.Call (.Name "isinstance" p) [e, e2] [] pos) (eCall oIsi ga) := ev_callB (CallR.or call_isi3 call_isi3) co_isi2 hg hm boot_isinstance ha (by decide) (by decide) he hpl
theorem rg_ok {a b : Int} (h1 : okR a = true) (h2 : okR b = true) (h3 : (b - a).toNat ≤ 16777216) : RgOk a b := ⟨(okR_of h1).1, (okR_of h1).2, (okR_of h2).1, (okR_of h2).2, h3⟩
theorem ev_lstRg1 (hc : X.calm = true) (hg : Gl X "list") (hm : X.mg "list" = none) (hg2 : Gl X "range") (hm2 : X.mg "range" = none) (ha : EV X E a f) (na : starEach [a] X.env = (false, eval a X.env) :: starEach [] X.env := by rfl)
    (nb : starEach [.Call (.Name "range" p2) [a] [] pos2] X.env = (false, eval (.Call (.Name "range" p2) [a] [] pos2) X.env) :: starEach [] X.env := by rfl) : EV X E (.Call (.Name "list" p) [.Call (.Name "range" p2) [a] [] pos2] [] pos) (eRgL1 .lst f) :=
  PE.imp (pe_listRg hc hg hm (prg_1 hg2 hm2 ha na) nb) fun σ H Q ⟨env, cs, ω, hs, hk, h⟩ => ⟨env, cs, ω, hs, hk, h.bind.imp fun x ω1 cs1 H1 l1 k1 h1 v rv => by
    cases x with
    | cel j => exact (show False from h1).elim
    | dat d =>
      cases d with
      | int j =>
        cases (show RepD X.K ω1.Hs v (.int j) from rv)
        unfold kRgL1 at h1
        dsimp only at h1
        split at h1
        · rename_i hj
          simp only [Bool.and_eq_true, decide_eq_true_eq] at hj
          refine ⟨j, rfl, rg_ok rfl hj.1 (by rw [Int.sub_zero]; exact hj.2), fun q hq => ?_⟩
          have := froze_use k1 (d := .lst (rangeD 0 j.toNat)) (o := .lst (rgV 0 j)) (Q := Q) (fun ω' H' v' l k r => h1 ω' H' l k v' r) (fun p hp => .lst upd_same (by unfold rgV rangeD; rw [Int.sub_zero]; exact rep_range 0 _)) True.intro
          exact this q hq
        · exact (show False from h1).elim
      | _ => exact (show False from h1).elim⟩
end
def loopI (t1 : Tg) (p1 : EvT) (f : Ev) (env : En) : List Wv → List Wv → M (List Wv)
  | [], acc => M.ret acc
  | w :: ws, acc => M.bind (M.opt (t1 w env)) fun env' => M.bind (M.nx (p1 env')) fun b => if b = true then M.bind (M.nx (f env')) fun y => if decide (acc.length < 16777216) = true then loopI t1 p1 f env ws (acc ++ [y]) else M.bad else loopI t1 p1 f env ws acc
def loopO (t : Tg) (p : EvT) (g1 : EvI) (t1 : Tg) (p1 : EvT) (f : Ev) (vs1 : List Nat) (env : En) : List Wv → List Wv → M (List Wv)
  | [], acc => M.ret acc
  | w :: ws, acc => M.bind (M.opt (t w env)) fun env' => M.bind (M.nx (p env')) fun b => if b = true then M.bind (M.nx (g1 env')) fun ws1 => M.bind (loopI t1 p1 f (wipeE env' vs1) ws1 acc) fun acc' => loopO t p g1 t1 p1 f vs1 env ws acc' else loopO t p g1 t1 p1 f vs1 env ws acc
def fLc2 (g : EvI) (t : Tg) (p : EvT) (g1 : EvI) (t1 : Tg) (p1 : EvT) (f : Ev) (vs vs1 : List Nat) : EvF := fun env => M.bind (g env) fun ws => loopO t p g1 t1 p1 f vs1 (wipeE env vs) ws []
end DX
namespace DX
open PySem PySem.Spec PyProof.Rows L2
section
variable {d x y z : Dt} {u v w : Wv} {cs cs1 : List Cell} {env env1 : En} {f g h : Ev} {p q : EvT} {i j l : Nat} {ga gb : EvA} {s t : Sv} {ws vs : List Wv} {ds es : List Dt} {n m : Int}
theorem s_frz : eFrz f env cs = rb (f env cs) mFrz := mb _ _ _
theorem k_frzd : mFrz (.dat d) cs = .ok (.dat d) cs := (rfl)
theorem frzc_of (h : cs[i]? = some (.lst ws)) (h2 : dats ws = some ds) : mFrz (.cel i) cs = .ok (.dat (.lst ds)) (cs.set i .dead) := by
  unfold mFrz
  dsimp only
  rw [h]
  unfold cFrz
  dsimp only
  rw [h2]
  rfl
theorem s_fld {C : Addr} {k : Str} : eFld C k f env cs = rb (f env cs) (mFld C k) := mb _ _ _
theorem k_fld {C : Addr} {k : Str} : mFld C k u cs = rW (wFld C k cs u) cs := rW_opt _
theorem s_rgl1 {mk : List Dt → Dt} : eRgL1 mk f env cs = rb (f env cs) (kRgL1 mk) := mb _ _ _
theorem k_rgl1 {mk : List Dt → Dt} (h : -4611686018427387904 ≤ n) (h2 : n ≤ 16777216) : kRgL1 mk (.dat (.int n)) cs = .ok (.dat (mk (rangeD 0 n.toNat))) cs := by
  unfold kRgL1
  dsimp only
  rw [if_pos (by unfold okR; simp only [Bool.and_eq_true, decide_eq_true_eq]; omega)]
  rfl
def kRgL (mk : List Dt → Dt) (g : Ev) (env : En) (x : Wv) : M Wv := M.bind (g env) fun y => kRgL2 mk x y
theorem s_rgl2 {mk : List Dt → Dt} : eRgL2 mk f g env cs = rb (f env cs) (kRgL mk g env) := mb _ _ _
theorem k_rgl {mk : List Dt → Dt} : kRgL mk g env u cs = rb (g env cs) (kRgL2 mk u) := mb _ _ _
theorem k_rgl2 {mk : List Dt → Dt} (h : -4611686018427387904 ≤ n) (h2 : n < 4611686018427387904) (h3 : -4611686018427387904 ≤ m) (h4 : m < 4611686018427387904) (h5 : (m - n).toNat ≤ 16777216) : kRgL2 mk (.dat (.int n)) (.dat (.int m)) cs = .ok (.dat (mk (rangeD n (m - n).toNat))) cs := by
  unfold kRgL2
  dsimp only
  rw [if_pos (by unfold okR; simp only [Bool.and_eq_true, decide_eq_true_eq]; omega)]
  rfl
def kLc2 (t : Tg) (p : EvT) (g1 : EvI) (t1 : Tg) (p1 : EvT) (f : Ev) (vs vs1 : List Nat) (env : En) (ws : List Wv) : M (List Wv) := loopO t p g1 t1 p1 f vs1 (wipeE env vs) ws []
theorem s_flc2 {gi g1 : EvI} {t t1 : Tg} {p1 : EvT} {is is1 : List Nat} : fLc2 gi t p g1 t1 p1 f is is1 env cs = rb (gi env cs) (kLc2 t p g1 t1 p1 f is is1 env) := mb _ _ _
theorem k_lc2 {g1 : EvI} {t t1 : Tg} {p1 : EvT} {is is1 : List Nat} : kLc2 t p g1 t1 p1 f is is1 env ws cs = loopO t p g1 t1 p1 f is1 (wipeE env is) ws [] cs := (rfl)
theorem methl_of {o : Wv → List Wv → M Wv} {a : Nat} (h : cs[a]? = some (.lst ws)) : kMeth okLst o ga env (.cel a) cs = rb (ga env cs) (o (.cel a)) := k_meth (ok_lst h)
def kNewA (fz : Bool) (C : Addr) (n : Nat) (m : Fn) (ws : List Wv) : M Wv := if ws.length + 1 = n then mNew fz C m ws else M.bad
theorem s_new {fz : Bool} {C : Addr} {n : Nat} {m : Fn} : eNew fz C n m ga env cs = rb (ga env cs) (kNewA fz C n m) := mb _ _ _
theorem k_new2 {fz : Bool} {C : Addr} {m : Fn} : kNewA fz C 3 m [u, v] cs = mNew fz C m [u, v] cs := (rfl)
end
section
variable {α : Type} {t : Tg} {p : EvT} {f : Ev} {b : Sv} {env : En} {cs : List Cell}
theorem nx_ok {α : Type} {m : M α} {cs cs1 : List Cell} {a : α} (h : m cs = .ok a cs1) : M.nx m cs = .ok a cs1 := by
  unfold M.nx
  rw [h]
/-- a comprehension with a test -/
theorem lc_filter (en : α → Wv) (h : α → Dt) (P : α → Bool) : ∀ l : List α, (∀ x ∈ l, ∃ env', t (en x) env = some env' ∧ p env' cs = .ok (P x) cs ∧ (P x = true → f env' cs = .ok (.dat (h x)) cs)) → loopC t p f env (l.map en) cs = .ok (((l.filter P).map h).map Wv.dat) cs
  | [], _ => rfl
  | x :: l, hb => by
    obtain ⟨env', e1, e2, e3⟩ := hb x List.mem_cons_self
    have ih := lc_filter en h P l fun y hy => hb y (List.mem_cons_of_mem _ hy)
    rw [List.map_cons]
    unfold loopC
    rw [e1, mb, m_opt, rb_ok, mb, nx_ok e2, rb_ok]
    cases hp : P x with
    | true =>
      rw [if_pos rfl, mb, nx_ok (e3 hp), rb_ok, mb, ih, rb_ok, List.filter_cons_of_pos hp]
      rfl
    | false => rw [if_neg Bool.false_ne_true, ih, List.filter_cons_of_neg (by simp [hp])]
theorem lc_map (en : α → Wv) (h : α → Dt) (l : List α) (hb : ∀ x ∈ l, ∃ env', t (en x) env = some env' ∧ f env' cs = .ok (.dat (h x)) cs) : loopC t tYesE f env (l.map en) cs = .ok ((l.map h).map Wv.dat) cs := by
  have q := lc_filter (t := t) (p := tYesE) (f := f) (env := env) (cs := cs) en h (fun _ => true) l fun x hx => let ⟨e, h1, h2⟩ := hb x hx; ⟨e, h1, rfl, fun _ => h2⟩
  rw [q, List.filter_eq_self.mpr (fun _ _ => rfl)]
theorem lc_mapD {β : Type} (en : β → Dt) (h : β → Dt) (l : List β) (hb : ∀ x ∈ l, ∃ env', t (.dat (en x)) env = some env' ∧ f env' cs = .ok (.dat (h x)) cs) : loopC t tYesE f env ((l.map en).map Wv.dat) cs = .ok ((l.map h).map Wv.dat) cs := by
  rw [List.map_map]
  exact lc_map (Wv.dat ∘ en) h l hb
theorem lc_filterD {β : Type} (en : β → Dt) (h : β → Dt) (P : β → Bool) (l : List β) (hb : ∀ x ∈ l, ∃ env', t (.dat (en x)) env = some env' ∧ p env' cs = .ok (P x) cs ∧ (P x = true → f env' cs = .ok (.dat (h x)) cs)) : loopC t p f env ((l.map en).map Wv.dat) cs = .ok (((l.filter P).map h).map Wv.dat) cs := by
  rw [List.map_map]
  exact lc_filter (Wv.dat ∘ en) h P l hb
theorem enum_map {β : Type} (en : β → Dt) (l : List β) : enumW (l.map en) = l.zipIdx.map fun q => .dat (.tup [.int (q.2 : Nat), en q.1]) := by
  unfold enumW
  rw [List.mapIdx_eq_zipIdx_map, List.zipIdx_map, List.map_map]
  rfl
theorem zip_map {β γ : Type} (en : β → Dt) (em : γ → Dt) : ∀ (l : List β) (m : List γ), zipW (l.map en) (m.map em) = (l.zip m).map fun q => .dat (.tup [en q.1, em q.2])
  | [], _ => by simp [zipW]
  | _ :: _, [] => by simp [zipW]
  | x :: l, y :: m => by
    have ih := zip_map en em l m
    unfold zipW at ih ⊢
    simp [ih]
/-- a for loop by what it keeps -/
theorem ls_keep (en : α → Wv) (R : List α → En → List Cell → Prop) : ∀ (l pre : List α) (env : En) (cs : List Cell), (∀ pr x post env cs, pre ++ l = pr ++ x :: post → R pr env cs → ∃ env' env'' cs'', t (en x) env = some env' ∧ (b env' cs = .ok (.nx env'') cs'' ∨ b env' cs = .ok (.ct env'') cs'') ∧ R (pr ++ [x]) env'' cs'') → R pre env cs →
    ∃ env' cs', loopS t b (l.map en) env cs = .ok (.nx env') cs' ∧ R (pre ++ l) env' cs'
  | [], pre, env, cs, _, h0 => ⟨env, cs, rfl, by rw [List.append_nil]; exact h0⟩
  | x :: l, pre, env, cs, h, h0 => by
    obtain ⟨env', env'', cs'', e1, e2, h1⟩ := h pre x l env cs rfl h0
    obtain ⟨env3, cs3, e3, h3⟩ := ls_keep en R l (pre ++ [x]) env'' cs'' (fun pr y post env cs e => h pr y post env cs (by rw [← e]; simp)) h1
    refine ⟨env3, cs3, ?_, by simpa using h3⟩
    rw [List.map_cons]
    unfold loopS
    rw [e1, mb, m_opt, rb_ok, mb]
    rcases e2 with e2 | e2 <;> rw [e2, rb_ok] <;> exact e3
theorem ls_all (en : α → Wv) (R : List α → En → List Cell → Prop) (l : List α) {env : En} {cs : List Cell} (h : ∀ pr x post env cs, l = pr ++ x :: post → R pr env cs → ∃ env' env'' cs'', t (en x) env = some env' ∧ (b env' cs = .ok (.nx env'') cs'' ∨ b env' cs = .ok (.ct env'') cs'') ∧ R (pr ++ [x]) env'' cs'') (h0 : R [] env cs) :
    ∃ env' cs', loopS t b (l.map en) env cs = .ok (.nx env') cs' ∧ R l env' cs' := ls_keep en R l [] env cs h h0
end
end DX
namespace DX
variable [TabT]
open PySem PySem.Spec PyProof.Rows L2
theorem vals_idx : ∀ (xs : List V) (us : List Value), us.length = xs.length → (∀ (j : Nat) (u : Value), us[j]? = some u → ∃ x, xs[j]? = some x ∧ RelV x u) → Vals xs us
  | [], [], _, _ => .nil
  | [], _ :: _, h, _ => by simp at h
  | _ :: _, [], h, _ => by simp at h
  | x :: xs, u :: us, h, k => by
    obtain ⟨y, e, r⟩ := k 0 u rfl
    cases e
    exact .cons r (vals_idx xs us (by simpa using h) fun j v hv => by simpa using k (j + 1) v (by simpa using hv))
def rListS : List V → Hp → VK → Prop := fun xs H Q => ∃ z : Str, xs = [V.str z] ∧ z.cps.size ≤ sizeLine ∧ ∀ l, H l = none → Q (.ref l) (upd H l (.lst (z.cps.toList.map fun c => V.str ⟨#[c]⟩)))
theorem call_listS {X : Cx} (hc : X.calm = true) : CallR X (.type "list") rListS := by
  intro pins s σ H xs us Q I r h
  obtain ⟨z, rfl, hz, q⟩ := h
  obtain ⟨u, rfl, t, rfl⟩ := vals1 r
  refine PySem.call_list_str (I.ok.hd hc) z t (hn := hz) fun h' tk acc' c' kp e hi => ?_
  have hv : Vals (z.cps.toList.map fun c => V.str ⟨#[c]⟩) acc'.toList := vals_idx _ _ (by simp [hi.1]) fun j u hj => by
    obtain ⟨c, t, h1, rfl⟩ := hi.2 j u (by simpa using hj)
    exact ⟨.str ⟨#[c]⟩, by simp [h1], ⟨t, rfl⟩⟩
  refine ⟨.ref s.heap.objs.size, _, I.laid (t' := tk) kp (Nat.le_refl _) (show ObjOk X.prog X.w _ h' _ (.lst _) from ⟨by simpa using hz, acc'.toList, c', hv, by simpa using e⟩), rfl, q _ (I.hok.fresh (Nat.le_refl _))⟩
def dListS : Dt → Option Dt
  | .str s => if szOk s.length = true then some (.lst (signD s)) else none
  | _ => none
theorem rep_signs {K : Frag} {H : Hp} : ∀ l : List Nat, RepL K H (l.map fun c => V.str ⟨#[c]⟩) (l.map fun c => Dt.str ⟨#[c]⟩)
  | [] => .nil
  | c :: l => .cons (.str _) (rep_signs l)
theorem co_listS {K : Frag} : CallO K rListS (o1 dListS) := fun ω H cs vs ws z k rv e Q q => by
  obtain ⟨d, rfl, e⟩ := o1_of e
  obtain ⟨v, rfl, r⟩ := rv.one
  cases d with
  | str s =>
    have e : (if szOk s.length = true then some (Dt.lst (signD s)) else none) = some z := e
    by_cases hs : szOk s.length = true
    · rw [if_pos hs] at e
      cases e
      cases r
      exact ⟨s, rfl, szOk_of hs, froze_use k q fun p hp => .lst upd_same (rep_signs _)⟩
    · rw [if_neg hs] at e
      cases e
  | _ => cases e
def oListOf : List Wv → List Cell → Option Dt := fun ws cs => (oSeq dListOf .lst ws cs).or (o1 dListS ws cs)
section
variable {X : Cx} {E : XK} {e : Expr} {p pos : Pos} {ga : EvA}
theorem b_list2 (hc : X.calm = true) (hg : Gl X "list") (hm : X.mg "list" = none) (ha : EVA X E [e] ga) (he : starEach [e] X.env = (false, eval e X.env) :: starEach [] X.env := by rfl) : EV X E (.Call (.Name "list" p) [e] [] pos) (eCall oListOf ga) := ev_callTy (CallR.or call_list_of (call_listS hc)) (CallO.or co_list co_listS) hg hm boot_list ha (by decide) (by decide) he rfl
end
def kCat (x y : Wv) : M (List Wv) := match x, y with
  | .dat (.lst ds), .dat (.lst es) => if decide (ds.length + es.length ≤ 16777216) = true then M.ret ((ds ++ es).map .dat) else M.bad
  | _, _ => M.bad
def fCat (f g : Ev) : EvF := fun env => M.bind (f env) fun x => M.bind (g env) fun y => kCat x y
end DX
namespace DX
open PySem PySem.Spec PyProof.Rows L2
section
variable {cs : List Cell} {env : En} {f g : Ev} {ds es : List Dt} {u : Wv}
def kCatA (g : Ev) (env : En) (x : Wv) : M (List Wv) := M.bind (g env) fun y => kCat x y
theorem dk_cat : fCat f g env cs = rb (f env cs) (kCatA g env) := mb _ _ _
theorem dk_cat2 : kCatA g env u cs = rb (g env cs) (kCat u) := mb _ _ _
theorem dk_cat3 (h : ds.length + es.length ≤ 16777216) : kCat (.dat (.lst ds)) (.dat (.lst es)) cs = .ok ((ds ++ es).map .dat) cs := by
  show (if decide (ds.length + es.length ≤ 16777216) = true then M.ret ((ds ++ es).map Wv.dat) else M.bad) cs = _
  rw [if_pos (decide_eq_true h)]
  rfl
end
section
variable {cs : List Cell} {env : En} {f : Ev} {k : Key} {u : Wv} {x : Dt} {l : List (Key × Ev)} {kw : List (Key × Wv)} {kd : List (Key × Dt)}
def kVal (k : Key) (l : List (Key × Ev)) (env : En) (x : Wv) : M (List (Key × Wv)) := M.bind (mVals l env) fun r => M.ret ((k, x) :: r)
def kVal2 (k : Key) (x : Wv) (r : List (Key × Wv)) : M (List (Key × Wv)) := M.ret ((k, x) :: r)
theorem dk_nil : mVals [] env cs = .ok [] cs := (rfl)
theorem dk_cons : mVals ((k, f) :: l) env cs = rb (f env cs) (kVal k l env) := mb _ _ _
theorem dk_val : kVal k l env u cs = rb (mVals l env cs) (kVal2 k u) := mb _ _ _
theorem dk_val2 : kVal2 k u kw cs = .ok ((k, u) :: kw) cs := (rfl)
def kDicC (ws : List (Key × Wv)) : M Wv := mCell (.dic ws)
theorem dk_dicC : eDicC l env cs = rb (mVals l env cs) kDicC := mb _ _ _
theorem dk_dicC2 : kDicC kw cs = .ok (.cel cs.length) (cs ++ [.dic kw]) := (rfl)
def rK (o : Option (List (Key × Dt))) (cs : List Cell) : R Wv := match o with
  | some ds => .ok (.dat (.dic ds)) cs
  | none => .bad
def kDic (ws : List (Key × Wv)) : M Wv := M.bind (M.opt (datK ws)) fun ds => M.ret (.dat (.dic ds))
theorem dk_dic : eDic l env cs = rb (mVals l env cs) kDic := mb _ _ _
theorem dk_dic2 : kDic kw cs = rK (datK kw) cs := by
  unfold kDic
  rw [mb]
  cases datK kw <;> rfl
theorem dk_rK : rK (some kd) cs = .ok (.dat (.dic kd)) cs := (rfl)
theorem dk_dat : datK ((k, .dat x) :: kw) = (datK kw).map ((k, x) :: ·) := (rfl)
theorem dk_datn : datK [] = some [] := (rfl)
theorem eq_nn : eqC false (.dat (.lst [])) (.dat (.lst [])) cs = some (.bl true) := (rfl)
theorem ne_nn : eqC true (.dat (.lst [])) (.dat (.lst [])) cs = some (.bl false) := (rfl)
end
section
variable {ds : List Dt} {cs : List Cell} {i : Nat} {ws : List Wv}
theorem lo_l : oListOf [.dat (.lst ds)] cs = some (.lst ds) := (rfl)
theorem lo_t : oListOf [.dat (.tup ds)] cs = some (.lst ds) := (rfl)
theorem lo_s {a : Str} (h : a.length ≤ 16777216) : oListOf [.dat (.str a)] cs = some (.lst (signD a)) := by
  show Option.or none (if szOk a.length = true then some (Dt.lst (signD a)) else none) = _
  rw [if_pos (show szOk _ = true from decide_eq_true h)]
  rfl
end
section
variable {cs : List Cell} {env : En} {f g : Ev} {ds es : List Dt} {d x y : Dt} {u w : Wv} {i : Nat} {ws : List Wv} {ga : EvA} {r : R Wv} {C : Addr} {k : Str} {l : List (Str × Wv)}
def rF (o : Option Dt) (i : Nat) (cs : List Cell) : R Wv := match o with
  | some d => .ok (.dat d) (cs.set i .dead)
  | none => .bad
theorem dk_frz : mFrz (.cel i) cs = rF (cFrz cs[i]?) i cs := by
  unfold mFrz rF
  all_goals dsimp only
  all_goals (cases cFrz cs[i]? <;> rfl)
theorem dk_rF : rF (some d) i cs = .ok (.dat d) (cs.set i .dead) := (rfl)
theorem dk_cfrz : cFrz (some (.lst ws)) = (dats ws).map .lst := (rfl)
def rLst (c : Option Cell) (r : R Wv) : R Wv := match c with
  | some (.lst _) => r
  | _ => .bad
def isLstC (c : Option Cell) : Bool := match c with
  | some (.lst _) => true
  | _ => false
theorem okl : okLst (.cel i) cs = isLstC cs[i]? := by
  unfold okLst isLstC
  all_goals dsimp only
  all_goals generalize cs[i]? = c
  all_goals (rcases c with _ | c)
  all_goals (first | rfl | (cases c <;> rfl))
theorem dk_methc {o : Wv → List Wv → M Wv} : kMeth okLst o ga env (.cel i) cs = rLst cs[i]? (rb (ga env cs) (o (.cel i))) := by
  obtain ⟨c, h⟩ : ∃ c, cs[i]? = c := ⟨_, rfl⟩
  rw [h]
  have no : okLst (.cel i) cs = false → kMeth okLst o ga env (.cel i) cs = .bad := fun e => by
    unfold kMeth
    rw [e]
    rfl
  have val : okLst (.cel i) cs = isLstC c := by rw [okl, h]
  cases c with
  | none => exact no val
  | some c =>
    cases c with
    | lst l => exact k_meth val
    | _ => exact no val
theorem dk_rLst : rLst (some (.lst ws)) r = r := (rfl)
def rApp (c : Option Cell) (i : Nat) (u : Wv) (cs : List Cell) : R Wv := match c with
  | some (.lst ws) => if ws.length < 16777216 then .ok (.dat .non) (cs.set i (.lst (ws ++ [u]))) else .bad
  | _ => .bad
theorem dk_app : oAppend (.cel i) [u] cs = rApp cs[i]? i u cs := by
  unfold oAppend rApp
  dsimp only
  cases cs[i]? with
  | none => rfl
  | some c =>
    cases c with
    | lst ws =>
      dsimp only
      by_cases h : ws.length < 16777216
      · rw [if_pos (decide_eq_true h), if_pos h]
      · rw [if_neg (by simpa using h), if_neg h]
    | _ => rfl
theorem dk_rApp (h : ws.length < 16777216) : rApp (some (.lst ws)) i u cs = .ok (.dat .non) (cs.set i (.lst (ws ++ [u]))) := if_pos h
def rExt (c : Option Cell) (i : Nat) (ds : List Dt) (cs : List Cell) : R Wv := match c with
  | some (.lst ws) => if ws.length + ds.length ≤ 16777216 then .ok (.dat .non) (cs.set i (.lst (ws ++ ds.map .dat))) else .bad
  | _ => .bad
theorem dk_ext : oExtend (.cel i) [.dat (.lst ds)] cs = rExt cs[i]? i ds cs := by
  unfold oExtend rExt
  dsimp only
  cases cs[i]? with
  | none => rfl
  | some c =>
    cases c with
    | lst ws =>
      dsimp only
      by_cases h : ws.length + ds.length ≤ 16777216
      · rw [if_pos (decide_eq_true h), if_pos h]
      · rw [if_neg (by simpa using h), if_neg h]
    | _ => rfl
theorem dk_rExt (h : ws.length + ds.length ≤ 16777216) : rExt (some (.lst ws)) i ds cs = .ok (.dat .non) (cs.set i (.lst (ws ++ ds.map .dat))) := if_pos h
theorem dk_snoc : ∀ {ws : List Wv}, dats (ws ++ [.dat x]) = (dats ws).map (· ++ [x])
  | [] => rfl
  | .dat d :: ws => by
    show (dats (ws ++ [.dat x])).map (d :: ·) = ((dats ws).map (d :: ·)).map (· ++ [x])
    rw [dk_snoc (ws := ws)]
    cases dats ws <;> rfl
  | .cel j :: ws => rfl
theorem dk_last {α : Type} {l : List α} {a : α} : (l ++ [a])[l.length]? = some a := List.getElem?_concat_length
theorem dk_setl {α : Type} {l : List α} {a b : α} : (l ++ [a]).set l.length b = l ++ [b] := by simp
def kPutFA (C : Addr) (k : Str) (o : Ev) (env : En) (w : Wv) : M Fl := M.bind (o env) fun x => M.bind (mPutF C k x w) fun _ => M.ret (.nx env)
def kPutFB (C : Addr) (k : Str) (env : En) (w x : Wv) : M Fl := M.bind (mPutF C k x w) fun _ => M.ret (.nx env)
theorem dk_putF : sPutF C k f g env cs = rb (g env cs) (kPutFA C k f env) := mb _ _ _
theorem dk_putF2 : kPutFA C k f env w cs = rb (f env cs) (kPutFB C k env w) := mb _ _ _
theorem dk_putF3 : kPutFB C k env w u cs = rb (mPutF C k u w cs) (kPut4 env) := mb _ _ _
def rPF (c : Option Cell) (C : Addr) (k : Str) (w : Wv) (i : Nat) (cs : List Cell) : R Unit := match c with
  | some (.ins D l) => if D = C ∧ l.length < 1000 then .ok () (cs.set i (.ins C (putFW k w l))) else .bad
  | _ => .bad
theorem dk_putF4 : mPutF C k (.cel i) w cs = rPF cs[i]? C k w i cs := by
  unfold mPutF rPF
  all_goals dsimp only
  all_goals generalize cs[i]? = c
  all_goals (rcases c with _ | c)
  all_goals (first | rfl | (cases c <;> rfl))
theorem dk_rPF (h : l.length < 1000) : rPF (some (.ins C l)) C k w i cs = .ok () (cs.set i (.ins C (putFW k w l))) := if_pos ⟨rfl, h⟩
theorem dk_new {fz : Bool} {m : Fn} : mNew fz C m ws cs = rb (m (.cel cs.length :: ws) (cs ++ [.ins C []])) (kNew fz cs.length) := mb _ _ _
theorem dk_newT : kNew true i (.dat .non) cs = rF (cFrz cs[i]?) i cs := dk_frz
theorem dk_cfrzI : cFrz (some (.ins C l)) = (datF l).map (.obj C) := (rfl)
end
theorem dk_mulT (h : 2 ≤ n) (h2 : n ≤ 1000) (h3 : 1 ≤ ds.length) (h4 : ds.length ≤ 1000) : dMul (.tup ds) (.int n) = some (.tup (List.replicate n.toNat ds).flatten) := by
  show ((none : Option Dt).or ((none : Option Dt).or ((none : Option Dt).or (dMulT (.tup ds) (.int n))))) = _
  rw [Option.none_or, Option.none_or, Option.none_or]
  unfold dMulT
  dsimp only
  rw [if_pos (by simp only [Bool.and_eq_true, decide_eq_true_eq]; exact ⟨⟨h, h2⟩, h3, h4⟩)]
def tLstG (n : Nat) (u : Tgs) : Tg := fun w env => match w with
  | .dat (.lst ds) => if ds.length = n then u ds env else none
  | _ => none
theorem dk_tlst {n : Nat} {tu : Tgs} (h : ds.length = n) : tLstG n tu (.dat (.lst ds)) env = tu ds env := (if_pos h)
theorem nat_c0 : ((0 : Nat) : Int) = 0 := (rfl)
theorem nat_c2 : ((2 : Nat) : Int) = 2 := (rfl)
end DX
namespace DX
open PySem PySem.Spec PyProof.Rows L2
/-- a tuple's place in the order: its numbers as figures, behind them noughts -/
def pcode (B : Int) : Nat → List Int → Int
  | 0, _ => 0
  | _ + 1, [] => 0
  | D + 1, n :: r => (n + 1) * (B + 1) ^ D + pcode B D r
theorem pcode_nil {B : Int} (D : Nat) : pcode B D [] = 0 := by cases D <;> rfl
theorem ppos {B : Int} (hB : 0 ≤ B) (D : Nat) : 0 < (B + 1) ^ D := Int.pow_pos (by omega)
theorem pcode_bd {B : Int} (hB : 0 ≤ B) : ∀ (D : Nat) (ns : List Int), TS.Bd B ns → 0 ≤ pcode B D ns ∧ pcode B D ns < (B + 1) ^ D
  | 0, _, _ => ⟨Int.le_refl _, ppos hB 0⟩
  | D + 1, [], _ => ⟨Int.le_refl _, ppos hB (D + 1)⟩
  | D + 1, n :: r, h => by
    obtain ⟨c0, c1⟩ := pcode_bd hB D r h.tail
    have hd := h.head
    show 0 ≤ (n + 1) * (B + 1) ^ D + pcode B D r ∧ (n + 1) * (B + 1) ^ D + pcode B D r < (B + 1) ^ (D + 1)
    rw [Int.pow_succ]
    exact TS.num1 c0 c1 (by omega) (by omega)
theorem pcode_lt {B n m : Int} {D : Nat} {r q : List Int} (hB : 0 ≤ B) (hr : TS.Bd B r) (hq : TS.Bd B q) (h : n < m) : pcode B (D + 1) (n :: r) < pcode B (D + 1) (m :: q) := by
  obtain ⟨c0, c1⟩ := pcode_bd hB D r hr
  obtain ⟨g0, _⟩ := pcode_bd hB D q hq
  show (n + 1) * (B + 1) ^ D + pcode B D r < (m + 1) * (B + 1) ^ D + pcode B D q
  exact TS.num2 c0 c1 g0 (by omega)
theorem pcode_same {B n : Int} {D : Nat} {r q : List Int} : pcode B (D + 1) (n :: r) < pcode B (D + 1) (n :: q) ↔ pcode B D r < pcode B D q := by
  show (n + 1) * (B + 1) ^ D + pcode B D r < (n + 1) * (B + 1) ^ D + pcode B D q ↔ _
  omega
theorem pcode_cons {B n : Int} {D : Nat} {r : List Int} (hB : 0 ≤ B) (h : TS.Bd B (n :: r)) : 0 < pcode B (D + 1) (n :: r) := by
  obtain ⟨c0, _⟩ := pcode_bd hB D r h.tail
  have hd := h.head
  have hp := ppos hB D
  show 0 < (n + 1) * (B + 1) ^ D + pcode B D r
  have := Int.mul_pos (show 0 < n + 1 by omega) hp
  omega
section
variable {prog : Program} {w : World} {A : Around} {E : Value → Shared → Prop} {s : Shared} {Q : Bool → Shared → Prop}
theorem lex_var {B : Int} (hB : 0 ≤ B) {b : Bool} {xs : List Value} {ns : List Int} (hx : IntsAre xs ns) : ∀ {ys : List Value} {ms : List Int} {c : Bool} (D i : Nat), IntsAre ys ms → ns.length ≤ D → ms.length ≤ D → TS.Bd B ns → TS.Bd B ms → c = decide (ns.length < ms.length) →
    Q (decide (pcode B D ns < pcode B D ms)) s → PySem.W.KatLex prog w A b c Q (xs.zip ys) i s := by
  induction hx with
  | nil =>
    intro ys ms c D i hy l1 l2 h1 h2 hc h
    rw [List.zip_nil_left]
    refine PySem.W.kat_nil ?_
    rw [hc]
    cases hy with
    | nil => rw [pcode_nil] at h; exact h
    | @cons m t ys ms hy =>
      cases D with
      | zero => simp at l2
      | succ D =>
        rw [pcode_nil, decide_eq_true (pcode_cons hB h2)] at h
        rw [decide_eq_true (by simp)]
        exact h
  | @cons n t xs ns hx ih =>
    intro ys ms c D i hy l1 l2 h1 h2 hc h
    cases D with
    | zero => simp at l1
    | succ D =>
      cases hy with
      | nil =>
        rw [List.zip_nil_right]
        refine PySem.W.kat_nil ?_
        have := (pcode_bd hB (D + 1) (n :: ns) h1).1
        rw [pcode_nil, decide_eq_false (by omega)] at h
        rw [hc, decide_eq_false (by simp)]
        exact h
      | @cons m u ys ms hy =>
        rw [List.zip_cons_cons]
        refine PySem.W.kat_cons (wpAny_eqBool_int ?_)
        simp only [List.length_cons] at l1 l2 hc
        by_cases e : n = m
        · subst e
          rw [beq_self_eq_true]
          refine PySem.W.kat_yes (ih D (i + 1) hy (by omega) (by omega) h1.tail h2.tail ?_ ?_)
          · rw [hc, decide_eq_decide]; omega
          · rw [← decide_eq_decide.mpr (pcode_same (B := B) (n := n) (D := D) (r := ns) (q := ms))]; exact h
        · rw [beq_eq_false_iff_ne.mpr e]
          refine PySem.W.kat_no (TS.oneLt_ints _ ?_)
          have d : decide (n < m) = decide (pcode B (D + 1) (n :: ns) < pcode B (D + 1) (m :: ms)) := by
            rw [decide_eq_decide]
            constructor
            · exact pcode_lt hB h1.tail h2.tail
            · intro z
              rcases Int.lt_trichotomy n m with y | y | y
              · exact y
              · exact absurd y e
              · have := pcode_lt (D := D) hB h2.tail h1.tail y
                omega
          rw [d]
          exact h
/-- what is sorted -/
def VTups (h : Heap) (B : Int) (D : Nat) (vs : List Value) : Prop := ∀ v ∈ vs, ∃ ns, TS.TupInts h v ns ∧ 1 ≤ ns.length ∧ ns.length ≤ D ∧ TS.Bd B ns
theorem VTups.keeps {h h' : Heap} {D : Nat} {B : Int} {vs : List Value} (x : VTups h B D vs) (k : ∀ b o, h.get? b = some o → o.cls = .type "tuple" → h'.get? b = some o) : VTups h' B D vs := fun v hv => by
  obtain ⟨ns, t, r⟩ := x v hv
  exact ⟨ns, t.keeps k, r⟩
theorem one_of {α : Type} {gs : List α} (h : gs.length = 1) : ∃ g, gs = [g] := by
  cases gs with
  | nil => simp at h
  | cons g r =>
    cases r with
    | nil => exact ⟨g, rfl⟩
    | cons _ _ => simp at h
theorem first_var {h : Heap} {B : Int} {D : Nat} {v : Value} (x : VTups h B D [v]) : ∃ f, PySem.W.KatTups h [v] [f] ∧ ∃ n t, f = Value.int n t := by
  obtain ⟨ns, t, h1, _, hb⟩ := x v List.mem_cons_self
  obtain ⟨gs, kg, lg, ig⟩ := TS.firsts_of (d := ns.length) (B := B) h1 [v] fun u hu => by
    rw [List.mem_singleton] at hu
    subst hu
    exact ⟨ns, t, rfl, hb⟩
  obtain ⟨g, rfl⟩ := one_of lg
  exact ⟨g, kg, ig g List.mem_cons_self⟩
theorem firsts_var {h : Heap} {B : Int} {D : Nat} (vs : List Value) : VTups h B D vs → ∃ fs, PySem.W.KatTups h vs fs ∧ fs.length = vs.length ∧ ∀ f, f ∈ fs → ∃ n t, f = Value.int n t := by
  induction vs with
  | nil => exact fun _ => ⟨[], PySem.W.KatTups.nil, rfl, fun f hf => absurd hf (by simp)⟩
  | cons v vs ih =>
    intro x
    obtain ⟨fs, k, hl, hi⟩ := ih fun u hu => x u (List.mem_cons_of_mem _ hu)
    obtain ⟨f, kf, hf⟩ := first_var (v := v) fun u hu => x u (by rw [List.mem_singleton] at hu; rw [hu]; exact List.mem_cons_self)
    refine ⟨f :: fs, And.intro kf.1 k, by rw [List.length_cons, List.length_cons, hl], fun g hg => ?_⟩
    rcases List.mem_cons.mp hg with rfl | hg
    · exact hf
    · exact hi g hg
theorem kind_var {B : Int} (hB : 0 ≤ B) {D : Nat} {vs : List Value} (h2 : 2 ≤ vs.length) (x : VTups s.heap B D vs) (r : Value → Int) (hr : ∀ v, v ∈ vs → ∀ ns, TS.TupInts s.heap v ns → r v = pcode B D ns) (Q : SortKind → Shared → Prop)
    (h : ∀ κ, TS.Cmp prog w A s κ (pairsOf vs) r → Q κ s) : wpAny (model prog w) A (keyKind' vs.toArray) Q E s := by
  obtain ⟨fs, k, hl, hi⟩ := firsts_var vs x
  refine PySem.W.kat_kind (T := Value.type "int") k (by omega) (fun f hf => ?_) rfl (h _ ?_)
  · obtain ⟨n, t, rfl⟩ := hi f hf
    exact PySem.W.Looks.of_pure rfl
  · intro p q hp hq Q' E' hQ
    rw [pairsOf_toList] at hp hq
    have hp2 := (mem_zip_self hp).2
    have hq2 := (mem_zip_self hq).2
    obtain ⟨ns, tp, _, lp, bp⟩ := x _ hp2
    obtain ⟨ms, tq, _, lq, bq⟩ := x _ hq2
    rw [hr _ hp2 _ tp, hr _ hq2 _ tq] at hQ
    obtain ⟨a, xs, e1, ⟨o, ho, _, _, hdt⟩, i⟩ := tp
    obtain ⟨a', ys, e2, ⟨o', ho', _, _, hdt'⟩, i'⟩ := tq
    rw [e1, e2]
    have l1 := i.length
    have l2 := i'.length
    rw [Array.length_toList] at l1 l2
    exact PySem.W.kat_lt ho hdt ho' hdt' (lex_var hB i D 0 i' lp lq bp bq (by rw [l1, l2]) hQ)
end
section
variable {prog : Program} {w : World} {A : Around} {E : Value → Shared → Prop} {s : Shared}
theorem VTups.rank {h : Heap} {B : Int} {D : Nat} {vs : List Value} (x : VTups h B D vs) {v : Value} (hv : v ∈ vs) {ns : List Int} {h' : Heap} (k : ∀ b o, h.get? b = some o → o.cls = .type "tuple" → h'.get? b = some o) (t : TS.TupInts h' v ns) : TS.intsOf h v = ns := by
  obtain ⟨ms, q, _⟩ := x v hv
  rw [q.ints]
  exact (q.keeps k).ints.symm.trans t.ints
/-- list.sort of such tuples -/
theorem sort_var {a : Addr} {vs : List Value} {n D : Nat} {B : Int} {P : PySem.Fin → Shared → Prop} (hB : 0 ≤ B) (ho : s.heap.get? a = some (seqObj "list" vs.toArray n)) (h64 : vs.length < 64) (x : VTups s.heap B D vs)
    (R : Value → Int) (hR : R = fun v => pcode B D (TS.intsOf s.heap v))
    (done : ∀ out : Array Value, out.toList.Perm vs → out.toList.Pairwise (fun u v => R u ≤ R v) → P (.done (.ret .none)) { s with heap := sortedHeap s.heap a vs out }) :
    wpAny (model prog w) A (Builtin.«list.sort» ⟨[.ref a], []⟩) P E s := by
  have kp : ∀ b o, s.heap.get? b = some o → o.cls = .type "tuple" → (TS.midHeap s.heap a vs).get? b = some o := by
    intro b o e c
    by_cases hb : b = a
    · subst hb
      cases ho.symm.trans e
      exact absurd (show Value.type "list" = Value.type "tuple" from c) (by decide)
    · exact TS.midHeap_old hb e
  refine SK.plain_sort (r := R) ho h64 (fun two Q hQ => ?_) fun ps out o1 o2 o3 => ?_
  · refine kind_var hB (s := { s with heap := TS.midHeap s.heap a vs }) two (x.keeps kp) R (fun v hv ns tv => ?_) Q hQ
    rw [hR]
    show pcode B D (TS.intsOf s.heap v) = _
    rw [x.rank hv kp tv]
  · exact done out (TS.out_rank o1 o2 o3).1 (TS.out_rank o1 o2 o3).2
/-- sorted of a list of such tuples -/
theorem sorted_var {l : Addr} {vs : List Value} {D : Nat} {B : Int} {Q : Value → Shared → Prop} (hB : 0 ≤ B) (hl : s.heap.IsList l vs.toArray) (h64 : vs.length < 64) (x : VTups s.heap B D vs)
    (done : ∀ out : Array Value, out.toList.Perm vs → out.toList.Pairwise (fun u v => pcode B D (TS.intsOf s.heap u) ≤ pcode B D (TS.intsOf s.heap v)) → Q (.ref (s.heap.objs.size + 1)) { s with heap := sortedAll s.heap vs out }) :
    wpAny (model prog w) A (call (.builtin "sorted") [.ref l]) Q E s := by
  have hz : vs.length ≤ sizeLine := by rw [sizeLine_eq]; omega
  obtain ⟨h1, e1⟩ : ∃ h1, h1 = (s.heap.push (seqObj "list" #[] 0)).update s.heap.objs.size (Obj.mapSeq (· ++ vs.toArray)) := ⟨_, rfl⟩
  have n1 : h1.objs.size = s.heap.objs.size + 1 := by rw [e1, Heap.size_update, size_push']
  have at1 : (h1.push (seqObj "list" vs.toArray 0)).get? (s.heap.objs.size + 1) = some (seqObj "list" vs.toArray 0) := by
    rw [← n1]
    exact Heap.get?_push_size _ rfl
  have kp : ∀ b o, s.heap.get? b = some o → o.cls = .type "tuple" → (h1.push (seqObj "list" vs.toArray 0)).get? b = some o := by
    intro b o e _
    have lt : b < s.heap.objs.size := Heap.lt_size e
    rw [Heap.get?_push_ne _ _ _ (Nat.ne_of_lt (n1 ▸ Nat.lt_succ_of_lt lt)), e1, Heap.get?_update_ne _ _ _ _ (Nat.ne_of_lt lt), Heap.get?_push_ne _ _ _ (Nat.ne_of_lt lt)]
    exact e
  refine Calls.call_function_entry kind_sorted plain_sorted entry_sorted (args_sorted1 _) ?_
  unfold Builtin.«sorted»
  refine wpAny_bind (m := checkCount "sorted" 1 1 _) (wpAny_pure (wpAny_bind (collect_list hl (wpAny_bind (wpAny_newList ?_ hz)) hz)))
  show wpAny _ _ _ _ _ { s with heap := ((s.heap.push (seqObj "list" #[] 0)).update s.heap.objs.size (Obj.mapSeq (· ++ vs.toArray))).push (seqObj "list" vs.toArray 0) }
  rw [← e1, n1]
  refine wpAny_bind (wpAny_holding (wpAny_call_entry slot_list_sort ⟨_, at1, rfl⟩ entry_list_sort ?_ (args_list_sort _)))
  refine sort_var hB at1 h64 (x.keeps kp) (fun v => pcode B D (TS.intsOf (h1.push (seqObj "list" vs.toArray 0)) v)) rfl fun out o1 o2 => ?_
  refine ⟨_, rfl, wpAny_pure ⟨_, rfl, ?_⟩⟩
  rw [e1] at *
  refine done out o1 (List.Pairwise.imp_of_mem (fun {u v} hu hv huv => ?_) o2)
  have r : ∀ y, y ∈ out.toList → TS.intsOf s.heap y = TS.intsOf _ y := fun y hy => by
    obtain ⟨ns, tn, _⟩ := x y (o1.mem_iff.mp hy)
    exact tn.ints.trans (tn.keeps kp).ints.symm
  rw [r u hu, r v hv]
  exact huv
end
section
variable {X : Cx}
/-- sorted(xs), xs a short list of tuples of whole numbers, none of them empty -/
def rSortedV (K : Frag) (B : Int) (D : Nat) : List V → Hp → VK → Prop := fun us H Q => ∃ (a : Addr) (xs : List V), us = [V.ref a] ∧ SqL K H a xs ∧ xs.length < 64 ∧ (∀ x ∈ xs, ∃ ns, TupI K H x ns ∧ 1 ≤ ns.length ∧ ns.length ≤ D ∧ TS.Bd B ns) ∧
  ∀ (ys : List V) (p : Addr), ys.Perm xs → ys.Pairwise (fun x y => ∀ n m, TupI K H x n → TupI K H y m → pcode B D n ≤ pcode B D m) → H p = none → Q (.ref p) (upd H p (.lst ys))
theorem cr_sortedV {B : Int} (hB : 0 ≤ B) {D : Nat} : CallR X (.builtin "sorted") (rSortedV X.K B D) := by
  intro pins s σ H vs us Q I r ⟨a, xs, e0, hs, short, all, q⟩
  subst e0
  obtain ⟨its, rv, hl, hz⟩ := I.list hs
  have len : its.length < 64 := rv.length ▸ short
  obtain ⟨ex, er⟩ := bkV_refs rv fun x m => (all x m).elim fun ns h => h.1.elim fun t ht => ⟨t, ht.1⟩
  rw [Vals.ref1 r]
  have ok : VTups s.heap B D its := fun v hv => by
    obtain ⟨t, rfl⟩ := er v hv
    obtain ⟨ns, ⟨t', et, ht⟩, b⟩ := all (V.ref t) (ex ▸ List.mem_map.mpr ⟨_, hv, rfl⟩)
    cases et
    exact ⟨ns, tupI_raw I ht, b⟩
  refine sorted_var hB hl.isList len ok fun out o1 o2 => ?_
  obtain ⟨ep, at2⟩ := PyProof.Rows.sortedAll_at s.heap its out
  have perm : (out.toList.map bkV).Perm xs := ex ▸ o1.map bkV
  have size : (out.toList.map bkV).length ≤ sizeLine := perm.length_eq ▸ hz
  have refs : ∀ u ∈ out.toList, ∃ a, u = Value.ref a := fun u hu => er u (o1.mem_iff.mp hu)
  refine ⟨.ref _, upd H (s.heap.objs.size + 1) (.lst (out.toList.map bkV)), I.laid (t' := s.toks) (fun _ _ => PyProof.Rows.sortedAll_old) (Nat.le_succ _) ⟨size, out.toList, ep, bkV_vals refs, at2⟩, rfl, q _ _ perm ?_ (I.hok.fresh (Nat.le_succ _))⟩
  rw [List.pairwise_map]
  refine o2.imp fun {u v} le n m ⟨t, et, ht⟩ ⟨t', et', ht'⟩ => ?_
  have i1 : TS.intsOf s.heap u = n := (bkV_ref et) ▸ (tupI_raw I ht).ints
  have i2 : TS.intsOf s.heap v = m := (bkV_ref et') ▸ (tupI_raw I ht').ints
  exact i1 ▸ i2 ▸ le
end
def lexLt : List Int → List Int → Bool
  | [], [] => false
  | [], _ :: _ => true
  | _ :: _, [] => false
  | n :: r, m :: q => decide (n < m) || (decide (n = m) && lexLt r q)
theorem lex_pcode {B : Int} (hB : 0 ≤ B) : ∀ (D : Nat) (ns ms : List Int), ns.length ≤ D → ms.length ≤ D → TS.Bd B ns → TS.Bd B ms → (lexLt ns ms = true ↔ pcode B D ns < pcode B D ms)
  | D, [], [], _, _, _, _ => by simp [lexLt, pcode_nil]
  | 0, [], _ :: _, _, h, _, _ => by simp at h
  | 0, _ :: _, _, h, _, _, _ => by simp at h
  | D + 1, [], m :: q, _, _, _, h2 => by
    have := pcode_cons (D := D) hB h2
    simp [lexLt, pcode_nil, this]
  | D + 1, n :: r, [], _, _, h1, _ => by
    have := pcode_cons (D := D) hB h1
    simp [lexLt, pcode_nil]
    omega
  | D + 1, n :: r, m :: q, l1, l2, h1, h2 => by
    simp only [List.length_cons] at l1 l2
    have ih := lex_pcode hB D r q (by omega) (by omega) h1.tail h2.tail
    rcases Int.lt_trichotomy n m with c | c | c
    · have := pcode_lt (D := D) hB h1.tail h2.tail c
      simp [lexLt, c, this]
    · subst c
      rw [pcode_same, ← ih]
      simp [lexLt]
    · have := pcode_lt (D := D) hB h2.tail h1.tail c
      have e : ¬ n = m := by omega
      have e2 : ¬ n < m := by omega
      simp [lexLt, e, e2]
      omega
theorem lex_tri : ∀ ns ms : List Int, lexLt ns ms = false → lexLt ms ns = false → ns = ms
  | [], [], _, _ => rfl
  | [], _ :: _, h, _ => by simp [lexLt] at h
  | _ :: _, [], _, h => by simp [lexLt] at h
  | n :: r, m :: q, h1, h2 => by
    simp only [lexLt, Bool.or_eq_false_iff, Bool.and_eq_false_iff, decide_eq_false_iff_not] at h1 h2
    have e : n = m := by omega
    subst e
    rw [lex_tri r q (by simpa using h1.2) (by simpa using h2.2)]
theorem RepL.perm {K : Frag} {H : Hp} {ys xs : List V} (p : ys.Perm xs) : ∀ {ds : List Dt}, RepL K H xs ds → ∃ ds', ds'.Perm ds ∧ RepL K H ys ds' := by
  induction p with
  | nil => exact fun {ds} r => ⟨ds, .refl _, r⟩
  | cons x _ ih =>
    intro ds r
    cases r with
    | cons r1 r2 =>
      obtain ⟨es, p, q⟩ := ih r2
      exact ⟨_, p.cons _, .cons r1 q⟩
  | swap x y l =>
    intro ds r
    cases r with
    | cons r1 r2 =>
      cases r2 with
      | cons r3 r4 => exact ⟨_, List.Perm.swap _ _ _, .cons r3 (.cons r1 r4)⟩
  | trans _ _ ih1 ih2 =>
    intro ds r
    obtain ⟨es, p, q⟩ := ih2 r
    obtain ⟨fs, p2, q2⟩ := ih1 q
    exact ⟨fs, p2.trans p, q2⟩
def tupI (ns : List Int) : Dt := .tup (ns.map .int)
def tupsI : List Dt → Option (List (List Int))
  | [] => some []
  | .tup l :: r => match DX.intsOf l, tupsI r with
    | some n, some ns => some (n :: ns)
    | _, _ => none
  | _ :: _ => none
theorem intsOf_is : ∀ {l : List Dt} {ns : List Int}, DX.intsOf l = some ns → l = ns.map .int
  | [], ns, h => by cases h; rfl
  | d :: l, ns, h => by
    cases d with
    | int k =>
      unfold DX.intsOf at h
      cases e : DX.intsOf l with
      | none => rw [e] at h; cases h
      | some ms =>
        rw [e] at h
        cases h
        rw [List.map_cons, ← intsOf_is e]
    | _ => cases h
theorem tupsI_is : ∀ {l : List Dt} {ns : List (List Int)}, tupsI l = some ns → l = ns.map DX.tupI
  | [], ns, h => by cases h; rfl
  | d :: l, ns, h => by
    cases d with
    | tup x =>
      unfold tupsI at h
      cases e : DX.intsOf x with
      | none => rw [e] at h; cases h
      | some n =>
        cases e2 : tupsI l with
        | none => rw [e, e2] at h; cases h
        | some ms =>
          rw [e, e2] at h
          cases h
          rw [List.map_cons, ← tupsI_is e2, intsOf_is e]
          rfl
    | _ => cases h
def bigB (ns : List (List Int)) : Int := ns.flatten.sum + 1
def bigD (ns : List (List Int)) : Nat := ns.flatten.length
theorem sum_ge : ∀ {l : List Int}, (∀ x ∈ l, 0 ≤ x) → 0 ≤ l.sum ∧ ∀ x ∈ l, x ≤ l.sum
  | [], _ => ⟨Int.le_refl _, fun x h => absurd h (by simp)⟩
  | y :: l, h => by
    obtain ⟨h1, h2⟩ := sum_ge (l := l) fun x hx => h x (List.mem_cons_of_mem _ hx)
    have h0 := h y List.mem_cons_self
    rw [List.sum_cons]
    refine ⟨by omega, fun x hx => ?_⟩
    rcases List.mem_cons.mp hx with rfl | hx
    · omega
    · have := h2 x hx
      omega
theorem len_flat : ∀ {ns : List (List Int)} {n : List Int}, n ∈ ns → n.length ≤ ns.flatten.length
  | m :: ns, n, h => by
    rw [List.flatten_cons, List.length_append]
    rcases List.mem_cons.mp h with rfl | h
    · omega
    · have := len_flat h
      omega
def okV (ns : List (List Int)) : Bool := decide (ns.length < 64) && ns.all fun n => decide (1 ≤ n.length) && n.all fun k => decide (0 ≤ k)
def sortV (ns : List (List Int)) : List (List Int) := ns.mergeSort fun a b => decide (pcode (bigB ns) (bigD ns) a ≤ pcode (bigB ns) (bigD ns) b)
def dSortV : Dt → Option Dt
  | .lst l => match tupsI l with
    | some ns => if okV ns = true then some (.lst ((sortV ns).map DX.tupI)) else none
    | none => none
  | _ => none
theorem okV_bd {ns : List (List Int)} (h : okV ns = true) : 0 ≤ bigB ns ∧ ∀ n ∈ ns, 1 ≤ n.length ∧ n.length ≤ bigD ns ∧ TS.Bd (bigB ns) n := by
  simp only [okV, Bool.and_eq_true, List.all_eq_true, decide_eq_true_eq] at h
  obtain ⟨_, h⟩ := h
  have hf : ∀ x ∈ ns.flatten, (0 : Int) ≤ x := fun x hx => by
    obtain ⟨n, hn, hx⟩ := List.mem_flatten.mp hx
    exact (h n hn).2 x hx
  obtain ⟨s1, s2⟩ := sum_ge hf
  refine ⟨by unfold bigB; omega, fun n hn => ⟨(h n hn).1, len_flat hn, fun m hm => ⟨(h n hn).2 m hm, ?_⟩⟩⟩
  have := s2 m (List.mem_flatten.mpr ⟨n, hn, hm⟩)
  unfold bigB
  omega
theorem pcode_inj {B : Int} (hB : 0 ≤ B) {D : Nat} {n m : List Int} (h1 : n.length ≤ D) (h2 : m.length ≤ D) (b1 : TS.Bd B n) (b2 : TS.Bd B m) (e : pcode B D n = pcode B D m) : n = m := by
  refine lex_tri n m ?_ ?_
  · cases h : lexLt n m with
    | false => rfl
    | true =>
      have := (lex_pcode hB D n m h1 h2 b1 b2).mp h
      omega
  · cases h : lexLt m n with
    | false => rfl
    | true =>
      have := (lex_pcode hB D m n h2 h1 b2 b1).mp h
      omega
theorem ints_map : ∀ ns : List Int, DX.intsOf (ns.map .int) = some ns
  | [] => rfl
  | n :: ns => by simp [DX.intsOf, ints_map ns]
theorem repL_tup [TabT] {K : Frag} {H : Hp} : ∀ {xs : List V} {ns : List (List Int)}, RepL K H xs (ns.map DX.tupI) → xs.length = ns.length ∧ ∀ (i : Nat) (x : V), xs[i]? = some x → ∃ n, ns[i]? = some n ∧ TupI K H x n
  | [], [], _ => ⟨rfl, fun i x h => by simp at h⟩
  | [], _ :: _, r => nomatch r
  | x :: xs, [], r => nomatch r
  | x :: xs, n :: ns, r => by
    cases r with
    | cons r1 r2 =>
      obtain ⟨hl, hi⟩ := repL_tup r2
      refine ⟨by simp [hl], fun i y h => ?_⟩
      cases i with
      | zero =>
        cases h
        refine ⟨n, rfl, ?_⟩
        cases r1 with
        | tup h1 h2 =>
          refine ⟨_, rfl, ?_⟩
          rw [← h2.ints (ints_map n)]
          exact h1.sq
      | succ i => exact hi i y h
def untup : Dt → List Int
  | .tup l => l.map fun d => match d with | .int k => k | _ => 0
  | _ => []
theorem untup_tup (n : List Int) : untup (DX.tupI n) = n := by
  show (n.map Dt.int).map _ = n
  rw [List.map_map]
  exact List.map_id' n
theorem perm_tup {ds : List Dt} {ns : List (List Int)} (p : ds.Perm (ns.map DX.tupI)) : ∃ ns' : List (List Int), ns'.Perm ns ∧ ds = ns'.map DX.tupI := by
  refine ⟨ds.map untup, ?_, ?_⟩
  · have q := p.map untup
    rw [List.map_map, show (untup ∘ DX.tupI) = id from funext untup_tup, List.map_id] at q
    exact q
  · rw [List.map_map]
    conv => lhs; rw [← List.map_id ds]
    refine List.map_congr_left fun d hd => ?_
    obtain ⟨n, _, rfl⟩ := List.mem_map.mp (p.mem_iff.mp hd)
    show DX.tupI n = DX.tupI (untup (DX.tupI n))
    rw [untup_tup]
theorem sortV_uniq {ns ns' : List (List Int)} (ok : okV ns = true) (p : ns'.Perm ns) (s : ns'.Pairwise fun a b => pcode (bigB ns) (bigD ns) a ≤ pcode (bigB ns) (bigD ns) b) : ns' = sortV ns := by
  obtain ⟨hB, hb⟩ := okV_bd ok
  have s2 : (sortV ns).Pairwise fun a b => pcode (bigB ns) (bigD ns) a ≤ pcode (bigB ns) (bigD ns) b := by
    refine (List.pairwise_mergeSort (le := fun a b => decide (pcode (bigB ns) (bigD ns) a ≤ pcode (bigB ns) (bigD ns) b)) (fun a b c => ?_) (fun a b => ?_) ns).imp fun h => of_decide_eq_true h
    · simp only [decide_eq_true_eq]; omega
    · simp only [Bool.or_eq_true, decide_eq_true_eq]; omega
  refine List.Perm.eq_of_pairwise (fun a b ha hb' h1 h2 => ?_) s s2 (p.trans (List.mergeSort_perm ns _).symm)
  obtain ⟨_, a2, a3⟩ := hb a (p.mem_iff.mp ha)
  obtain ⟨_, b2, b3⟩ := hb b ((List.mergeSort_perm ns _).mem_iff.mp hb')
  exact pcode_inj hB a2 b2 a3 b3 (by omega)
theorem co_sortV [TabT] {K : Frag} : CallO K (fun xs H Q => ∃ B D, 0 ≤ B ∧ rSortedV K B D xs H Q) (o1 dSortV) := fun ω H cs vs ws z k rv e Q q => by
  obtain ⟨d, rfl, e⟩ := o1_of e
  obtain ⟨v, rfl, r⟩ := rv.one
  cases d with
  | lst l =>
    have e : (match tupsI l with | some ns => if okV ns = true then some (Dt.lst ((sortV ns).map DX.tupI)) else none | none => none) = some z := e
    cases ht : tupsI l with
    | none => rw [ht] at e; cases e
    | some ns0 =>
      rw [ht] at e
      dsimp only at e
      split at e
      · rename_i ok
        cases e
        obtain ⟨hB, hb⟩ := okV_bd ok
        have hl := tupsI_is ht
        subst hl
        cases r with
        | lst h1 h2 =>
          rename_i a xs
          obtain ⟨len, at1⟩ := repL_tup (RepL.mono k.ex _ _ h2)
          have h64 : ns0.length < 64 := by
            simp only [okV, Bool.and_eq_true, decide_eq_true_eq] at ok
            exact ok.1
          refine ⟨bigB ns0, bigD ns0, hB, a, xs, rfl, SqL.of (k.ex _ _ h1), len ▸ h64, fun x hx => ?_, fun ys p perm srt hp => ?_⟩
          · obtain ⟨i, hi, rfl⟩ := List.mem_iff_getElem.mp hx
            obtain ⟨n, hn, tn⟩ := at1 i _ (List.getElem?_eq_getElem hi)
            exact ⟨n, tn, hb n (List.mem_of_getElem? hn)⟩
          · obtain ⟨ds', p1, r1⟩ := RepL.perm perm h2
            obtain ⟨ns', p2, rfl⟩ := perm_tup p1
            have r2 := RepL.mono k.ex _ _ r1
            obtain ⟨len2, at2⟩ := repL_tup r2
            have e2 : ns' = sortV ns0 := by
              refine sortV_uniq ok p2 ?_
              rw [List.pairwise_iff_getElem]
              intro i j hi hj hij
              have hi' : i < ys.length := len2 ▸ hi
              have hj' : j < ys.length := len2 ▸ hj
              obtain ⟨n, en, tn⟩ := at2 i _ (List.getElem?_eq_getElem hi')
              obtain ⟨m, em, tm⟩ := at2 j _ (List.getElem?_eq_getElem hj')
              rw [List.getElem?_eq_getElem hi] at en
              rw [List.getElem?_eq_getElem hj] at em
              cases en
              cases em
              exact List.pairwise_iff_getElem.mp srt i j hi' hj' hij _ _ tn tm
            subst e2
            exact (froze_use k q (fun p hp => rep_lst k hp r1)) p hp
      · cases e
  | _ => cases e
theorem cr_sortV {X : Cx} : CallR X (.builtin "sorted") (fun xs H Q => ∃ B D, 0 ≤ B ∧ rSortedV X.K B D xs H Q) := fun pins s σ H vs us Q I r ⟨B, D, hB, h⟩ => cr_sortedV hB pins s σ H vs us Q I r h
def sortI (ns : List Int) : List Int := ns.mergeSort fun a b => decide (a ≤ b)
theorem sortI_uniq {ns ns' : List Int} (p : ns'.Perm ns) (s : ns'.Pairwise (· ≤ ·)) : ns' = sortI ns := by
  have s2 : (sortI ns).Pairwise (· ≤ ·) := by
    refine (List.pairwise_mergeSort (le := fun a b => decide (a ≤ b)) (fun a b c => ?_) (fun a b => ?_) ns).imp fun h => of_decide_eq_true h
    · simp only [decide_eq_true_eq]; omega
    · simp only [Bool.or_eq_true, decide_eq_true_eq]; omega
  exact List.Perm.eq_of_pairwise (fun a b _ _ h1 h2 => by omega) s s2 (p.trans (List.mergeSort_perm ns _).symm)
def dSortI : Dt → Option Dt
  | .lst l => (DX.intsOf l).map fun ns => .lst ((sortI ns).map .int)
  | _ => none
theorem repL_ints' {K : Frag} {H : Hp} : ∀ ns : List Int, RepL K H (ns.map V.int) (ns.map Dt.int)
  | [] => .nil
  | n :: ns => .cons (.int n) (repL_ints' ns)
theorem co_sortI [TabT] {K : Frag} : CallO K (rSortedI K) (o1 dSortI) := fun ω H cs vs ws z k rv e Q q => by
  obtain ⟨d, rfl, e⟩ := o1_of e
  obtain ⟨v, rfl, r⟩ := rv.one
  cases d with
  | lst l =>
    have e : (DX.intsOf l).map (fun ns => Dt.lst ((sortI ns).map .int)) = some z := e
    cases ht : DX.intsOf l with
    | none => rw [ht] at e; cases e
    | some ns0 =>
      rw [ht] at e
      cases e
      cases r with
      | lst h1 h2 =>
        rw [h2.ints ht] at h1
        refine ⟨_, ns0, rfl, SqL.of (k.ex _ _ h1), fun ns' p perm srt hp => ?_⟩
        rw [sortI_uniq perm srt]
        exact (froze_use k q (fun p hp => rep_lst k hp (repL_ints' _))) p hp
  | _ => cases e
def oSorted : List Wv → List Cell → Option Dt := fun ws cs => (o1 dSortV ws cs).or (o1 dSortI ws cs)
section
variable [TabT] {X : Cx} {E : XK} {e : Expr} {p pos : Pos} {ga : EvA}
def dBits : Dt → Option Dt
  | .int i => some (.int (Builtin.Int.intBits i : Nat))
  | _ => none
theorem ev_bits {a : Expr} {f : Ev} {apos : Pos} (ha : EV X E a f) (hbase : attributeBase a "bit_length" X.env (eval a X.env) = eval a X.env := by rfl) (hline : (apos.endLine == pos.line) = true := by rfl) : EV X E (.Call (.Attribute a "bit_length" apos) [] [] pos) (eUn dBits f) :=
  PE.imp (pe_bits ha hbase hline) fun _ _ _ h => un_use (r := fun x H Q => ∃ i, x = V.int i ∧ Q (.int (Builtin.Int.intBits i : Nat)) H) (o := dBits) (fun ω H cs u x z k ru e Q q => by
    cases x with
    | int i =>
      cases ru
      cases e
      exact ⟨i, rfl, q ω H _ (Le.refl _) k (.int _)⟩
    | _ => cases e) h
end
def starW : Wv → Option (List Dt)
  | .dat (.lst l) => some l
  | .dat (.tup l) => some l
  | _ => none
def aStar (f : Ev) (g : EvA) : EvA := fun env => M.bind (f env) fun x => M.bind (M.opt (starW x)) fun ds => M.bind (g env) fun xs => M.ret (ds.map .dat ++ xs)
end DX
namespace DX
open PySem PySem.Spec PyProof.Rows L2
def Wo.lk (ω : Wo) (a : Addr) (p : Obj × HO) : Wo := ⟨ω.Hs, ω.ad, fun b => if b = a then some p else ω.T b, ω.fr⟩
def Wo.unlk (ω : Wo) (T : Addr → Option (Obj × HO)) : Wo := ⟨ω.Hs, ω.ad, T, ω.fr⟩
section
variable [TabT] {K : Frag} {ω ω' : Wo} {H H' : Hp} {cs cs' : List Cell} {a : Addr} {i : Nat} {od : Obj} {vs : List (Key × V)} {ws : List (Key × Wv)} {T : Addr → Option (Obj × HO)}
theorem RepW.unlk {v : V} {w : Wv} (r : RepW K ω v w) : RepW K (ω.unlk T) v w := by cases w <;> exact r
theorem RepWs.unlk {vs : List V} {ws : List Wv} (r : RepWs K ω vs ws) : RepWs K (ω.unlk T) vs ws := by
  induction r with
  | nil => exact .nil
  | cons h1 _ ih => exact .cons h1.unlk ih
theorem RepWk.unlk {vs : List (Key × V)} {ws : List (Key × Wv)} (r : RepWk K ω vs ws) : RepWk K (ω.unlk T) vs ws := by
  induction r with
  | nil => exact .nil
  | cons h1 _ ih => exact .cons h1.unlk ih
theorem RepWf.unlk {vs : List (Str × V)} {ws : List (Str × Wv)} (r : RepWf K ω vs ws) : RepWf K (ω.unlk T) vs ws := by
  induction r with
  | nil => exact .nil
  | cons h1 _ ih => exact .cons h1.unlk ih
theorem StRep.unlk {σ : L2.St} {env : En} (h : StRep K ω σ env) : StRep K (ω.unlk T) σ env := ⟨h.len, fun i w e => let ⟨v, e1, r⟩ := h.get i w e; ⟨v, e1, r.unlk⟩⟩
theorem Ok.slot {j : Nat} {b : Addr} {c : Cell} (k : Ok K ω H cs) (e : ω.ad[i]? = some a) (hj : ¬ i = j) (e1 : ω.ad[j]? = some b) : b ≠ a := fun z => by
  subst z
  obtain ⟨h1, g1⟩ := List.getElem?_eq_some_iff.mp e
  obtain ⟨h2, g2⟩ := List.getElem?_eq_some_iff.mp e1
  exact hj ((List.getElem_inj k.nd).mp (g1.trans g2.symm))
theorem RepWt.unlk {vs : List (List Key × V)} {ws : List (List Key × Wv)} (r : RepWt K ω vs ws) : RepWt K (ω.unlk T) vs ws := by
  induction r with
  | nil => exact .nil
  | cons h1 _ ih => exact .cons h1.unlk ih
theorem Ok.noT {u : HO} (k : Ok K ω H cs) (hH : H a = some u) (pl : Plain u) : ω.T a = none := by
  cases q : ω.T a with
  | none => rfl
  | some p =>
    have q2 := k.lk a p.1 p.2 q
    rw [hH] at q2
    cases q2
    exact pl.elim
theorem Ok.lock {u : HO} {c' : Cell} (k : Ok K ω H cs) (e : ω.ad[i]? = some a) (hH : H a = some u) (pl : Plain u) (hn : ω.Hs a = none ∧ ω.fr a = none) (hc : CellAt K (ω.lk a (od, u)) (upd H a (.frz od u)) a c') : Ok K (ω.lk a (od, u)) (upd H a (.frz od u)) (cs.set i c') := by
  have nT : ω.T a = none := k.noT hH pl
  refine ⟨fun b u hb => ?_, by rw [List.length_set]; exact k.len, k.nd, fun j b c e1 e2 => ?_, ?_, fun b u hb => ?_, k.dj, k.nt, k.nf, fun b oo us eb => ?_⟩
  · have hb : ω.Hs b = some u := hb
    rw [upd_ne (ne_of_none hb hn.1)]
    exact k.ex b u hb
  · by_cases hj : i = j
    · subst hj
      have e1 : ω.ad[i]? = some b := e1
      rw [e] at e1
      cases e1
      rw [List.getElem?_set_self (by rw [k.len]; exact (List.getElem?_eq_some_iff.mp e).1)] at e2
      cases e2
      exact hc
    · rw [List.getElem?_set_ne hj] at e2
      have e1 : ω.ad[j]? = some b := e1
      have ne : b ≠ a := k.slot (c := c) e hj e1
      have q := k.cel j b c e1 e2
      cases c with
      | lst ws => obtain ⟨h0, vs, h1, h2⟩ := q; exact ⟨h0, vs, by rw [upd_ne ne]; exact h1, h2.unlk⟩
      | dic ws => obtain ⟨h0, vs, h1, h2⟩ := q; exact ⟨h0, vs, by rw [upd_ne ne]; exact h1, h2.unlk⟩
      | ins C ws => obtain ⟨h0, dx, vs, h1, h2⟩ := q; exact ⟨h0, dx, vs, by rw [upd_ne ne]; exact h1, h2.unlk⟩
      | dead => exact q
      | lck ws => obtain ⟨h0, oo, vs, ht, h1, h2⟩ := q; exact ⟨h0, oo, vs, (if_neg ne).trans ht, by rw [upd_ne ne]; exact h1, h2.unlk⟩
      | dit bb ws => obtain ⟨h0, vs, h1, h2⟩ := q; exact ⟨h0, vs, h1.mono (fun p z => (if_neg ne).trans z) (fun o z => by rw [upd_ne ne]; exact z), h2.unlk⟩
  · have t := k.tab
    intro q hq
    obtain ⟨ps, h1, h2, h3⟩ := t q hq
    have ne : ∀ {b w}, H b = some w → u ≠ w → b ≠ a := fun {b w} e d z => by
      rw [z, hH] at e
      exact d (Option.some.inj e)
    refine ⟨ps, by rw [upd_ne (ne h1 (fun z => by rw [z] at pl; exact pl))]; exact h1, h2, fun pos cv hc => ?_⟩
    obtain ⟨c, e1, e2⟩ := h3 pos cv hc
    exact ⟨c, e1, by rw [upd_ne (ne e2 (fun z => by rw [z] at pl; unfold LamX.CodeO at pl; exact pl))]; exact e2⟩
  · have hb : ω.fr b = some u := hb
    rw [upd_ne (ne_of_none hb hn.2)]
    exact k.frx b u hb
  · have eb : (if b = a then some (od, u) else ω.T b) = some (oo, us) := eb
    by_cases h : b = a
    · rw [if_pos h] at eb
      cases eb
      rw [h, upd_same]
    · rw [if_neg h] at eb
      rw [upd_ne h]
      exact k.lk b oo us eb
theorem Ok.unlock {u : HO} {c' : Cell} (k : Ok K ω' H' cs') (hT : ω'.T = (ω.lk a (od, u)).T) (nT : ω.T a = none) (e : ω'.ad[i]? = some a) (h1 : H' a = some (.frz od u)) (hn : ω'.Hs a = none ∧ ω'.fr a = none) (hc : CellAt K (ω'.unlk ω.T) (upd H' a u) a c') :
    Ok K (ω'.unlk ω.T) (upd H' a u) (cs'.set i c') := by
  refine ⟨fun b u hb => ?_, by rw [List.length_set]; exact k.len, k.nd, fun j b c e1 e2 => ?_, ?_, fun b u hb => ?_, k.dj, k.nt, k.nf, fun b oo us eb => ?_⟩
  · have hb : ω'.Hs b = some u := hb
    rw [upd_ne (ne_of_none hb hn.1)]
    exact k.ex b u hb
  · by_cases hj : i = j
    · subst hj
      have e1 : ω'.ad[i]? = some b := e1
      rw [e] at e1
      cases e1
      rw [List.getElem?_set_self (by rw [k.len]; exact (List.getElem?_eq_some_iff.mp e).1)] at e2
      cases e2
      exact hc
    · rw [List.getElem?_set_ne hj] at e2
      have e1 : ω'.ad[j]? = some b := e1
      have ne : b ≠ a := k.slot (c := c) e hj e1
      have q := k.cel j b c e1 e2
      cases c with
      | lst ws => obtain ⟨h0, vs, h1, h2⟩ := q; exact ⟨h0, vs, by rw [upd_ne ne]; exact h1, h2.unlk⟩
      | dic ws => obtain ⟨h0, vs, h1, h2⟩ := q; exact ⟨h0, vs, by rw [upd_ne ne]; exact h1, h2.unlk⟩
      | ins C ws => obtain ⟨h0, dx, vs, h1, h2⟩ := q; exact ⟨h0, dx, vs, by rw [upd_ne ne]; exact h1, h2.unlk⟩
      | dead => exact q
      | lck ws =>
        obtain ⟨h0, oo, vs, ht, h1, h2⟩ := q
        rw [hT] at ht
        exact ⟨h0, oo, vs, (show ω.T b = some (oo, .dK vs) from (if_neg ne).symm.trans ht), by rw [upd_ne ne]; exact h1, h2.unlk⟩
      | dit bb ws =>
        obtain ⟨h0, vs, h1, h2⟩ := q
        refine ⟨h0, vs, h1.mono (fun p z => ?_) (fun o z => by rw [upd_ne ne]; exact z), h2.unlk⟩
        rw [hT] at z
        exact (if_neg ne).symm.trans z
  · have t := k.tab
    intro q hq
    obtain ⟨ps, g1, g2, g3⟩ := t q hq
    have ne : ∀ {b w}, H' b = some w → HO.frz od u ≠ w → b ≠ a := fun {b w} e d z => by
      rw [z, h1] at e
      exact d (Option.some.inj e)
    refine ⟨ps, by rw [upd_ne (ne g1 (fun z => by cases z))]; exact g1, g2, fun pos cv hc => ?_⟩
    obtain ⟨c, e1, e2⟩ := g3 pos cv hc
    exact ⟨c, e1, by rw [upd_ne (ne e2 (fun z => by unfold LamX.CodeO at z; cases z))]; exact e2⟩
  · have hb : ω'.fr b = some u := hb
    rw [upd_ne (ne_of_none hb hn.2)]
    exact k.frx b u hb
  · have eb : ω.T b = some (oo, us) := eb
    have h : b ≠ a := fun z => by rw [z, nT] at eb; cases eb
    rw [upd_ne h]
    exact k.lk b oo us (by rw [hT]; exact (if_neg h).trans eb)
end
def unlkR {α : Type} (k : Nat) (r : R α) : R α := match r with
  | .ok x cs => match cs[k]? with
    | some (.lck ws) => .ok x (cs.set k (.dic ws))
    | some (.dit true ws) => .ok x (cs.set k (.dit false ws))
    | _ => .bad
  | _ => .bad
/-- the statement while the dict at slot i is locked -/
def sLock (i : Nat) (s : Sv) : Sv := fun env cs => match env[i]? with
  | some (some (.cel k)) => match cs[k]? with
    | some (.dic ws) => unlkR k (s env (cs.set k (.lck ws)))
    | some (.dit false ws) => unlkR k (s env (cs.set k (.dit true ws)))
    | _ => .bad
  | _ => .bad
section
variable [TabT] {X : Cx} {E : XK} {st : Stmt} {e tg : Expr} {f : Ev}
theorem Le.unlk {ω ω' : Wo} {a : Addr} {p : Obj × HO} (l : Le (ω.lk a p) ω') : Le ω (ω'.unlk ω.T) := ⟨l.ex, l.ad, rfl, l.fr⟩
theorem unlk_go {α : Type} {K : Frag} {mg : MG} {ω ω1 : Wo} {H1 : Hp} {cs1 : List Cell} {a : Addr} {k : Nat} {od : Obj} {u : HO} {x : α} {F : α → Wo → List Cell → Hp → Prop} (pl : Plain u) (hu : (∃ vs, u = .dK vs) ∨ ∃ vs, u = .dT vs) (nT : ω.T a = none) (e1 : ω.ad[k]? = some a) (l1 : Le (ω.lk a (od, u)) ω1) (k1 : Ok K ω1 H1 cs1)
    (h : Out K mg E ω (unlkR k (.ok x cs1)) F) : H1 a = some (.frz od u) ∧ ∃ cs2, Ok K (ω1.unlk ω.T) (upd H1 a u) cs2 ∧ F x (ω1.unlk ω.T) cs2 (upd H1 a u) := by
  have e2 := Le.at l1 e1
  have ta : ω1.T a = some (od, u) := by rw [l1.tb]; exact if_pos rfl
  have g1 := k1.lk a od u ta
  unfold unlkR at h
  dsimp only at h
  split at h
  · rename_i ws ec
    obtain ⟨hn, oo, us, ht, g2, g3⟩ := k1.cel k a _ e2 ec
    rw [ta] at ht
    cases ht
    have ok := k1.unlock (c' := .dic ws) l1.tb nT e2 g1 hn ⟨hn, us, upd_same, g3.unlk⟩
    exact ⟨g1, _, ok, h (ω1.unlk ω.T) _ (Le.unlk l1) ok⟩
  · rename_i ws ec
    obtain ⟨hn, us, ht, g3⟩ := k1.cel k a _ e2 ec
    rcases ht with ⟨z, _⟩ | ⟨_, oo, ht, g2⟩
    · cases z
    · rw [ta] at ht
      cases ht
      have ok := k1.unlock (c' := .dit false ws) l1.tb nT e2 g1 hn ⟨hn, us, .inl ⟨rfl, upd_same⟩, g3.unlk⟩
      exact ⟨g1, _, ok, h (ω1.unlk ω.T) _ (Le.unlk l1) ok⟩
  · exact (show False from h).elim
theorem lock_go {D : Ends} {σ : L2.St} {H : Hp} {env : En} {cs : List Cell} {ω : Wo} {s : Sv} {a : Addr} {k : Nat} {u : HO} {c' : Cell} (pl : Plain u) (hu : (∃ vs, u = .dK vs) ∨ ∃ vs, u = .dT vs) (hs : StRep X.K ω σ env) (hk : Ok X.K ω H cs) (e1 : ω.ad[k]? = some a) (h1 : H a = some u) (hn : ω.Hs a = none ∧ ω.fr a = none)
    (hc : ∀ od, CellAt X.K (ω.lk a (od, u)) (upd H a (.frz od u)) a c') (h : Out X.K X.mg E ω (unlkR k (s env (cs.set k c'))) fun fl ω' _ H' => EndAt X.K D fl ω' H') : tLock (tEvS X.K X.mg E s) D σ H := by
  have nT := hk.noT h1 pl
  refine ⟨a, u, h1, by rcases hu with ⟨vs, rfl⟩ | ⟨vs, rfl⟩ <;> exact True.intro, fun od => ⟨env, _, ω.lk a (od, u), hs.unlk, hk.lock e1 h1 pl hn (hc od), ?_⟩⟩
  cases er : s env (cs.set k c') with
  | bad => rw [er] at h; exact (show False from h).elim
  | exc x c => rw [er] at h; exact (show False from h).elim
  | ok fl cs1 =>
    rw [er] at h
    intro ω1 H1 l1 k1
    obtain ⟨z1, cs2, z2, q⟩ := unlk_go pl hu nT e1 l1 k1 h
    cases fl with
    | nx env' => exact fun σ' hs' => ⟨z1, q σ' hs'.unlk⟩
    | rt w => exact fun v' hv => ⟨z1, q v' hv.unlk⟩
    | bk env' => exact fun σ' hs' => ⟨z1, q σ' hs'.unlk⟩
    | ct env' => exact fun σ' hs' => ⟨z1, q σ' hs'.unlk⟩
theorem sv_lock {i : Nat} {s : Sv} (h : SV X E st s) : SV X E st (sLock i s) := PS.imp (ps_lock h) fun D σ H ⟨env, cs, ω, hs, hk, h⟩ => by
  unfold sLock at h
  split at h
  · rename_i k ek
    obtain ⟨v, _, r⟩ := hs.get i _ ek
    obtain ⟨a, e1, rfl⟩ := r
    split at h
    · rename_i ws ec
      obtain ⟨hn, vs, h1, h2⟩ := hk.cel k a _ e1 ec
      exact lock_go (u := .dK vs) (c' := .lck ws) True.intro (.inl ⟨vs, rfl⟩) hs hk e1 h1 hn (fun od => ⟨hn, od, vs, if_pos rfl, upd_same, h2.unlk⟩) h
    · rename_i ws ec
      obtain ⟨hn, vs, h1, h2⟩ := hk.cel k a _ e1 ec
      rcases h1 with ⟨_, h1⟩ | ⟨z, _⟩
      · exact lock_go (u := .dT vs) (c' := .dit true ws) True.intro (.inr ⟨vs, rfl⟩) hs hk e1 h1 hn (fun od => ⟨hn, vs, .inr ⟨rfl, od, if_pos rfl, upd_same⟩, h2.unlk⟩) h
      · cases z
    · exact (show False from h).elim
  · exact (show False from h).elim
def keyD : Key → Dt
  | .inl i => .int i
  | .inr s => .str s
theorem keyD_rep {K : Frag} {H : Hp} (k : Key) : RepD K H (kV k) (keyD k) := by
  cases k with
  | inl i => exact .int i
  | inr s => exact .str s
def asKeys (w : Wv) : M (List Wv) := fun cs => match w with
  | .cel k => match cs[k]? with
    | some (.lck ws) => .ok (ws.map fun p => .dat (keyD p.1)) cs
    | some (.dit true ws) => .ok (ws.map fun p => .dat (.tup (p.1.map keyD))) cs
    | _ => .bad
  | _ => .bad
def iKeysE (f : Ev) : EvI := fun env => M.bind (f env) asKeys
theorem RepWk.key {K : Frag} {ω : Wo} {vs : List (Key × V)} {ws : List (Key × Wv)} (r : RepWk K ω vs ws) : vs.map (·.1) = ws.map (·.1) := by
  induction r with
  | nil => rfl
  | cons _ _ ih => simp [ih]
theorem RepWt.key {K : Frag} {ω : Wo} {vs : List (List Key × V)} {ws : List (List Key × Wv)} (r : RepWt K ω vs ws) : vs.map (·.1) = ws.map (·.1) := by
  induction r with
  | nil => rfl
  | cons _ _ ih => simp [ih]
theorem keysD_rep {K : Frag} {H : Hp} : ∀ k : List Key, RepL K H (k.map kV) (k.map keyD)
  | [] => .nil
  | k :: ks => .cons (keyD_rep k) (keysD_rep ks)
theorem ei_keys (ha : EV X E e f) : EVI X E tg e (iKeysE f) :=
  PI.imp (pi_keys ha) fun σ H R ⟨env, cs, ω, hs, hk, h⟩ => ⟨env, cs, ω, hs, hk, h.bind.imp fun w ω1 cs1 H1 l1 k1 h1 v rv => by
    unfold asKeys at h1
    cases w with
    | dat d => exact (show False from h1).elim
    | cel k =>
      dsimp only at h1
      split at h1
      · rename_i ws ec
        obtain ⟨a, e1, rfl⟩ := rv
        obtain ⟨hn, od, vs, ht, g1, g2⟩ := k1.cel k a _ e1 ec
        have hl : vs.length = ws.length := by
          have := congrArg List.length g2.key
          simpa using this
        refine ⟨a, od, rfl, .inl ⟨vs, g1, h1.now k1 _ ?_⟩⟩
        refine ⟨fun i ω' H' cs' hi l k => ⟨k.lk a od _ (by rw [l.tb]; exact ht), by simpa [hl] using hi⟩, fun ω' H' cs' l k => ⟨k.lk a od _ (by rw [l.tb]; exact ht), by simp [hl]⟩, fun i ω' H' cs' x H2 hi l k q => ?_⟩
        obtain ⟨rfl, key, y, hg, rfl⟩ := q
        refine ⟨ω', Le.refl _, k, .dat (keyD key), ?_, keyD_rep key⟩
        have q1 : (vs.map (·.1))[i]? = some key := by rw [List.getElem?_map, hg]; rfl
        rw [g2.key, List.getElem?_map] at q1
        rw [List.getElem?_map]
        cases q2 : ws[i]? with
        | none => rw [q2] at q1; cases q1
        | some p =>
          rw [q2] at q1
          have q3 : p.1 = key := Option.some.inj q1
          simp [q3]
      · rename_i ws ec
        obtain ⟨a, e1, rfl⟩ := rv
        obtain ⟨hn, vs, ht, g2⟩ := k1.cel k a _ e1 ec
        obtain ⟨od, ht, g1⟩ : ∃ od, ω1.T a = some (od, .dT vs) ∧ H1 a = some (.frz od (.dT vs)) := by
          rcases ht with ⟨z, _⟩ | ⟨_, z⟩
          · cases z
          · exact z
        have hl : vs.length = ws.length := by
          have := congrArg List.length g2.key
          simpa using this
        refine ⟨a, od, rfl, .inr ⟨vs, g1, h1.now k1 _ ?_⟩⟩
        refine ⟨fun i ω' H' cs' hi l k => ⟨k.lk a od _ (by rw [l.tb]; exact ht), by simpa [hl] using hi⟩, fun ω' H' cs' l k => ⟨k.lk a od _ (by rw [l.tb]; exact ht), by simp [hl]⟩, fun i ω' H' cs' x H2 hi l k q => ?_⟩
        obtain ⟨rfl, key, y, b, hg, rfl, hb⟩ := q
        obtain ⟨ω2, l2, k2, hs2⟩ := k.adopt hb
        refine ⟨ω2, l2, k2, .dat (.tup (key.map keyD)), ?_, .tup ⟨hs2⟩ (keysD_rep key)⟩
        have q1 : (vs.map (·.1))[i]? = some key := by rw [List.getElem?_map, hg]; rfl
        rw [g2.key, List.getElem?_map] at q1
        rw [List.getElem?_map]
        cases q2 : ws[i]? with
        | none => rw [q2] at q1; cases q1
        | some p =>
          rw [q2] at q1
          have q3 : p.1 = key := Option.some.inj q1
          simp [q3]
      · exact (show False from h1).elim⟩
end
end DX
namespace DX
open PySem PySem.Spec PyProof.Rows L2
section
variable [TabT] {X : Cx} {E : XK} {e : Expr} {pos p : Pos} {ga : EvA}
theorem sv_parC {i j : Nat} {x y : Str} {a b : Expr} {g : EvA} {px py pt : Pos} {kt k2 pt2} (hc : X.calm = true) (hN : X.N.Nodup) (hi : X.N[i]? = some x) (hj : X.N[j]? = some y)
    (hx : Loc X.env.scope x) (hy : Loc X.env.scope y) (ha : EVA X E [a, b] g) (hw : swappedStores [.Tuple [.Name x px, .Name y py] kt pt] (.Tuple [a, b] k2 pt2) X.env = pure none)
    (hfx : X.fn x = true ∨ X.env.scope.names.lookup x = some .local := by first | exact .inl rfl | exact .inr rfl) (hfy : X.fn y = true ∨ X.env.scope.names.lookup y = some .local := by first | exact .inl rfl | exact .inr rfl)
    (hs : swapsWithSole [.Tuple [.Name x px, .Name y py] kt pt] (.Tuple [a, b] k2 pt2) pos.line X.env = pure false := by rfl) :
    SV X E (.Assign [.Tuple [.Name x px, .Name y py] kt pt] (.Tuple [a, b] k2 pt2) pos) (sPar i j g) :=
  PS.imp (ps_asg (pe_tup ha) (pg_tup hc (pgs_cons (pg_name hN hi hx hfx) (pgs_cons (pg_name hN hj hy hfy) pgs_nil rfl) rfl) rfl rfl) hs hw rfl) fun D σ H ⟨env, cs, ω, hst, hk, h⟩ =>
  ⟨env, cs, ω, hst, hk, h.bind.imp fun ws ω1 cs1 H1 l1 k1 h1 vs rv => by
    match ws, h1, rv with
    | [a, b], h1, rv =>
      obtain ⟨u, v, rfl, q1, q2⟩ := rv.two'
      refine ⟨by rw [sizeLine_eq]; show 2 ≤ 16777216; decide, fun p hp => ⟨p, [u, v], rfl, .inl (.inl upd_same), rfl, u, [v], rfl, v, [], rfl, rfl, ?_⟩⟩
      have l2 : Le ω1 (ω1.froze p (.tup [u, v])) := Le.froze k1 hp
      exact h1 _ _ l2 (k1.froze hp) _ ((((hst.mono l1).mono l2).set i (q1.mono l2)).set j (q2.mono l2))
    | [], h1, rv => exact (show False from h1).elim
    | [_], h1, rv => exact (show False from h1).elim
    | _ :: _ :: _ :: _, h1, rv => exact (show False from h1).elim⟩
def cKeys : Option Cell → Option (List Key)
  | some (.dic ws) => some (ws.map (·.1))
  | some (.lck ws) => some (ws.map (·.1))
  | _ => none
def oKeys : List Wv → List Cell → Option Dt := fun ws cs => match ws with
  | [.cel k] => (cKeys cs[k]?).map fun ks => .lst (ks.map keyD)
  | [.dat (.dic l)] => some (.lst (l.map fun p => keyD p.1))
  | _ => none
theorem keys_rep {K : Frag} {H : Hp} : ∀ l : List Key, RepL K H (l.map kV) (l.map keyD)
  | [] => .nil
  | k :: l => .cons (keyD_rep k) (keys_rep l)
theorem RepK.key {K : Frag} {H : Hp} : ∀ {vs : List (Key × V)} {ws : List (Key × Dt)}, RepK K H vs ws → vs.map (·.1) = ws.map (·.1)
  | _, _, .nil => rfl
  | _, _, .cons _ h => by simp [RepK.key h]
/-- the dict that a value is, its keys -/
theorem keys_use {K : Frag} {ω : Wo} {H : Hp} {cs : List Cell} {vs : List V} {ws : List Wv} {z : Dt} (k : Ok K ω H cs) (rv : RepWs K ω vs ws) (e : oKeys ws cs = some z) :
    ∃ a kvs, vs = [V.ref a] ∧ Rd H a (.dK kvs) ∧ z = .lst ((kvs.map (·.1)).map keyD) := by
  unfold oKeys at e
  split at e
  · rename_i j
    obtain ⟨v, rfl, a, e1, rfl⟩ := rv.one'
    cases hc : cs[j]? with
    | none => rw [hc] at e; cases e
    | some c =>
      rw [hc] at e
      have q := k.cel j a c e1 hc
      cases c with
      | dic ws => obtain ⟨_, us, h1, h2⟩ := q; cases e; exact ⟨a, us, rfl, .inl h1, by rw [h2.key]⟩
      | lck ws => obtain ⟨_, o, us, _, h1, h2⟩ := q; cases e; exact ⟨a, us, rfl, .inr ⟨o, h1⟩, by rw [h2.key]⟩
      | _ => cases e
  · rename_i l
    obtain ⟨v, rfl, r⟩ := rv.one'
    cases e
    cases (show RepD K ω.Hs v (.dic l) from r) with
    | dic h1 h2 => exact ⟨_, _, rfl, .inl (k.ex _ _ h1), by rw [h2.key, List.map_map]; rfl⟩
  · cases e
theorem co_keys {K : Frag} : CallO K (fun xs H Q => ∃ (a : Addr) (kvs : List (Key × V)), xs = [V.ref a] ∧ Rd H a (.dK kvs) ∧ ∀ p, H p = none → Q (.ref p) (upd H p (.lst (kvs.map fun kv => kV kv.1)))) oKeys := fun ω H cs vs ws z k rv e Q q => by
  obtain ⟨a, kvs, rfl, hr, rfl⟩ := keys_use k rv e
  refine ⟨a, kvs, rfl, hr, froze_use k q fun p hp => ?_⟩
  have q2 := keys_rep (K := K) (H := ω.Hs) (kvs.map (·.1))
  rw [List.map_map] at q2
  exact rep_lst k hp q2
def oListK : List Wv → List Cell → Option Dt := fun ws cs => (oListOf ws cs).or (oKeys ws cs)
theorem b_listK (hc : X.calm = true) (hg : Gl X "list") (hm : X.mg "list" = none) (ha : EVA X E [e] ga) (he : starEach [e] X.env = (false, eval e X.env) :: starEach [] X.env := by rfl) : EV X E (.Call (.Name "list" p) [e] [] pos) (eCall oListK ga) :=
  ev_callTy (CallR.or (CallR.or call_list_of (call_listS hc)) (call_listD hc)) (CallO.or (CallO.or co_list co_listS) co_keys) hg hm boot_list ha (by decide) (by decide) he rfl
def intKs : List Key → Option (List Int)
  | [] => some []
  | .inl i :: l => (intKs l).map (i :: ·)
  | .inr _ :: _ => none
theorem intKs_is : ∀ {l : List Key} {ns : List Int}, intKs l = some ns → l = ns.map Sum.inl
  | [], ns, e => by cases e; rfl
  | .inl i :: l, ns, e => by
    have e : (intKs l).map (i :: ·) = some ns := e
    cases h : intKs l with
    | none => rw [h] at e; cases e
    | some ms =>
      rw [h] at e
      cases e
      rw [intKs_is h]
      rfl
  | .inr _ :: _, ns, e => by cases e
theorem intKs_map : ∀ ns : List Int, intKs (ns.map Sum.inl) = some ns
  | [] => rfl
  | n :: ns => by
    show (intKs (ns.map Sum.inl)).map (n :: ·) = _
    rw [intKs_map ns]
    rfl
def keysOf : List Wv → List Cell → Option (List Key) := fun ws cs => match ws with
  | [.cel k] => cKeys cs[k]?
  | [.dat (.dic l)] => some (l.map (·.1))
  | _ => none
def oSortK : List Wv → List Cell → Option Dt := fun ws cs => (keysOf ws cs).bind fun ks => (intKs ks).bind fun ns => if ns.length < 64 then some (.lst ((sortI ns).map .int)) else none
theorem keysOf_is {ws : List Wv} {cs : List Cell} {ks : List Key} (e : keysOf ws cs = some ks) : oKeys ws cs = some (.lst (ks.map keyD)) := by
  unfold keysOf at e
  unfold oKeys
  split at e
  · simp only [e]; rfl
  · cases e; simp
  · cases e
theorem co_sortK {K : Frag} : CallO K (fun xs H Q => ∃ (a : Addr) (kvs : List (Key × V)) (ks : List Int), xs = [V.ref a] ∧ Rd H a (.dK kvs) ∧ kvs.map (·.1) = ks.map Sum.inl ∧ ks.length < 64 ∧
    ∀ (ys : List Int) (p : Addr), ys.Perm ks → ys.Pairwise (· ≤ ·) → H p = none → Q (.ref p) (upd H p (.lst (ys.map V.int)))) oSortK := fun ω H cs vs ws z k rv e Q q => by
  unfold oSortK at e
  cases e1 : keysOf ws cs with
  | none => rw [e1] at e; cases e
  | some ks =>
    rw [e1] at e
    have e : ((intKs ks).bind fun ns => if ns.length < 64 then some (Dt.lst ((sortI ns).map .int)) else none) = some z := e
    cases e2 : intKs ks with
    | none => rw [e2] at e; cases e
    | some ns =>
      rw [e2] at e
      have e : (if ns.length < 64 then some (Dt.lst ((sortI ns).map .int)) else none) = some z := e
      by_cases h64 : ns.length < 64
      · rw [if_pos h64] at e
        cases e
        obtain ⟨a, kvs, rfl, hr, eq⟩ := keys_use k rv (keysOf_is e1)
        have inj : ∀ l m : List Key, l.map keyD = m.map keyD → l = m := by
          intro l
          induction l with
          | nil => intro m h; cases m <;> simp at h ⊢
          | cons x l ih =>
            intro m h
            cases m with
            | nil => simp at h
            | cons y m =>
              simp only [List.map_cons, List.cons.injEq] at h
              rw [ih m h.2]
              congr 1
              cases x <;> cases y <;> simp [keyD] at h <;> simp [h.1]
        have ek : ks = kvs.map (·.1) := inj _ _ (Dt.lst.inj eq)
        refine ⟨a, kvs, ns, rfl, hr, by rw [← ek]; exact intKs_is e2, h64, fun ys p perm srt hp => ?_⟩
        rw [sortI_uniq perm srt]
        exact (froze_use k q (fun p hp => rep_lst k hp (repL_ints' _))) p hp
      · rw [if_neg h64] at e
        cases e
theorem b_sortK (hc : X.calm = true) (hg : Gl X "sorted") (hm : X.mg "sorted" = none) (ha : EVA X E [e] ga) (he : starEach [e] X.env = (false, eval e X.env) :: starEach [] X.env := by rfl) : EV X E (.Call (.Name "sorted" p) [e] [] pos) (eCall oSortK ga) :=
  ev_callB (call_sortedDI hc) co_sortK hg hm boot_sorted ha (by decide) (by decide) he rfl
end
end DX
namespace DX
open PySem PySem.Spec PyProof.Rows L2
section
variable {d x y z : Dt} {u v w : Wv} {cs cs1 : List Cell} {env env1 : En} {f g h : Ev} {p q : EvT} {i j l k : Nat} {ga gb : EvA} {s t : Sv} {ws vs : List Wv} {ds es : List Dt} {n m : Int} {kw : List (Key × Wv)} {α : Type} {a b : α}
def rLk (ow : Option (Option Wv)) (s : Sv) (env : En) (cs : List Cell) : R Fl := match ow with
  | some (some (.cel k)) => match cs[k]? with
    | some (.dic ws) => unlkR k (s env (cs.set k (.lck ws)))
    | some (.dit false ws) => unlkR k (s env (cs.set k (.dit true ws)))
    | _ => .bad
  | _ => .bad
theorem s_lock : sLock i s env cs = rLk env[i]? s env cs := (rfl)
theorem lk_is (h : cs[k]? = some (.dic kw)) : rLk (some (some (.cel k))) s env cs = unlkR k (s env (cs.set k (.lck kw))) := by
  unfold rLk
  dsimp only
  rw [h]
theorem unl_is {β : Type} {r : β} (h : cs[k]? = some (.lck kw)) : unlkR k (.ok r cs) = .ok r (cs.set k (.dic kw)) := by
  unfold unlkR
  dsimp only
  rw [h]
theorem s_keys : iKeysE f env cs = rb (f env cs) asKeys := mb _ _ _
theorem keys_is (h : cs[k]? = some (.lck kw)) : asKeys (.cel k) cs = .ok (kw.map fun p => .dat (keyD p.1)) cs := by
  unfold asKeys
  dsimp only
  rw [h]
theorem cix_k : cIx (some (.lck kw)) y = (keyOf y).bind fun k => valK kw k := (rfl)
theorem k_bits : dBits (.int n) = some (.int (Builtin.Int.intBits n : Nat)) := (rfl)
theorem listk_is (h : cs[k]? = some (.dic kw)) : oListK [.cel k] cs = some (.lst ((kw.map (·.1)).map keyD)) := by
  unfold oListK oKeys
  dsimp only
  rw [h]
  have e : oListOf [.cel k] cs = none := by
    unfold oListOf oSeq
    dsimp only
    rw [h]
    rfl
  rw [e]
  rfl
theorem sortk_is {ns : List Int} (h : cs[k]? = some (.dic kw)) (h2 : intKs (kw.map (·.1)) = some ns) (h3 : ns.length < 64) : oSortK [.cel k] cs = some (.lst ((sortI ns).map .int)) := by
  unfold oSortK keysOf
  dsimp only
  rw [h]
  show ((intKs (kw.map (·.1))).bind fun ns => if ns.length < 64 then some (Dt.lst ((sortI ns).map .int)) else none) = _
  rw [h2]
  exact if_pos h3
def kStar (g : EvA) (env : En) (x : Wv) : M (List Wv) := M.bind (M.opt (starW x)) fun ds => M.bind (g env) fun xs => M.ret (ds.map .dat ++ xs)
def kStar2 (g : EvA) (env : En) (ds : List Dt) : M (List Wv) := M.bind (g env) fun xs => M.ret (ds.map .dat ++ xs)
def kStar3 (ds : List Dt) (xs : List Wv) : M (List Wv) := M.ret (ds.map .dat ++ xs)
theorem s_star : aStar f ga env cs = rb (f env cs) (kStar ga env) := mb _ _ _
theorem k_star : kStar ga env u cs = rb (M.opt (starW u) cs) (kStar2 ga env) := mb _ _ _
theorem k_star2 : kStar2 ga env ds cs = rb (ga env cs) (kStar3 ds) := mb _ _ _
theorem k_star3 : kStar3 ds ws cs = .ok (ds.map .dat ++ ws) cs := (rfl)
theorem k_starl : starW (.dat (.lst ds)) = some ds := (rfl)
theorem k_start : starW (.dat (.tup ds)) = some ds := (rfl)
theorem k_mcell {c : Cell} : mCell c cs = .ok (.cel cs.length) (cs ++ [c]) := (rfl)
theorem ap_0 {c : Cell} : (cs ++ c :: cs1)[cs.length]? = some c := by rw [List.getElem?_append_right (Nat.le_refl _), Nat.sub_self]; rfl
theorem ap_1 {c c' : Cell} : (cs ++ c :: c' :: cs1)[cs.length + 1]? = some c' := by rw [List.getElem?_append_right (by omega), show cs.length + 1 - cs.length = 1 by omega]; rfl
theorem aps_0 {c c' : Cell} : (cs ++ c :: cs1).set cs.length c' = cs ++ c' :: cs1 := by rw [List.set_append_right _ _ (Nat.le_refl _), Nat.sub_self]; rfl
theorem aps_1 {c c' c2 : Cell} : (cs ++ c :: c' :: cs1).set (cs.length + 1) c2 = cs ++ c :: c2 :: cs1 := by rw [List.set_append_right _ _ (by omega), show cs.length + 1 - cs.length = 1 by omega]; rfl
theorem ap_two {c c' : Cell} : (cs ++ [c]) ++ [c'] = cs ++ [c, c'] := by simp
theorem ap_len {c : Cell} : (cs ++ [c]).length = cs.length + 1 := by simp
end
theorem tb_int (r k : Nat) : decide (Builtin.bitAnd ((r : Int) / 2 ^ (k : Int).toNat) 1 = 1) = r.testBit k := by
  rw [PyProof.Rows.bitAnd_m1, Int.toNat_natCast, Nat.testBit_eq_decide_div_mod_eq]
  congr 1
  rw [show ((r : Int) / 2 ^ k % 2) = ((r / 2 ^ k % 2 : Nat) : Int) by simp]
  exact propext ⟨fun h => by exact_mod_cast h, fun h => by exact_mod_cast h⟩
theorem bits_nat {r : Nat} (h : r ≠ 0) : (Builtin.Int.intBits (r : Int) : Nat) = r.log2 + 1 := by
  unfold Builtin.Int.intBits
  rw [if_neg (by simpa using h)]
  rfl
theorem shl_nat (k : Nat) : (1 : Int) * 2 ^ (k : Int).toNat = ((2 ^ k : Nat) : Int) := by
  rw [Int.toNat_natCast, Int.one_mul]
  simp
section
variable {α : Type} {t : Tg} {b : Sv}
theorem ls_fold {β : Type} (en : α → Wv) (P : β → En → List Cell → Prop) (step : β → α → β) : ∀ (l : List α) (s : β) (env : En) (cs : List Cell), (∀ x ∈ l, ∀ s env cs, P s env cs → ∃ env' env'' cs'', t (en x) env = some env' ∧ (b env' cs = .ok (.nx env'') cs'' ∨ b env' cs = .ok (.ct env'') cs'') ∧ P (step s x) env'' cs'') → P s env cs →
    ∃ env' cs', loopS t b (l.map en) env cs = .ok (.nx env') cs' ∧ P (l.foldl step s) env' cs'
  | [], s, env, cs, _, h0 => ⟨env, cs, rfl, h0⟩
  | x :: l, s, env, cs, h, h0 => by
    obtain ⟨env', env'', cs'', e1, e2, h1⟩ := h x List.mem_cons_self s env cs h0
    obtain ⟨env3, cs3, e3, h3⟩ := ls_fold en P step l (step s x) env'' cs'' (fun y hy => h y (List.mem_cons_of_mem _ hy)) h1
    refine ⟨env3, cs3, ?_, h3⟩
    rw [List.map_cons]
    unfold loopS
    rw [e1, mb, m_opt, rb_ok, mb]
    rcases e2 with e2 | e2 <;> rw [e2, rb_ok] <;> exact e3
end
end DX
namespace DX
open PySem PySem.Spec PyProof.Rows L2
def bigM : Int := 4294967296
def nsCode (n : Int) (c : Nat) : Int := n * bigM + (c : Int)
/-- a pair of a number and a sign -/
def NsAt (h : Heap) (v : Value) (n : Int) (c : Nat) : Prop := ∃ (a : Addr) (o : Obj) (k : Nat) (t u : Tok), v = .ref a ∧ h.get? a = some o ∧ o.cls = .type "tuple" ∧ o.data = .seq #[.int n t, .str ⟨#[c]⟩ u] k
theorem NsAt.keeps {h h' : Heap} {v : Value} {n : Int} {c : Nat} (x : NsAt h v n c) (kp : ∀ b o, h.get? b = some o → o.cls = .type "tuple" → h'.get? b = some o) : NsAt h' v n c := by
  obtain ⟨a, o, k, t, u, e, ho, hc, hd⟩ := x
  exact ⟨a, o, k, t, u, e, kp _ _ ho hc, hc, hd⟩
def nsRank (h : Heap) (v : Value) : Int := match v with
  | .ref a => match h.get? a with
    | some o => match o.data with
      | .seq its _ => match its.toList with
        | [.int n _, .str z _] => nsCode n (z.cps.toList.headD 0)
        | _ => 0
      | _ => 0
    | none => 0
  | _ => 0
theorem NsAt.rank {h : Heap} {v : Value} {n : Int} {c : Nat} (x : NsAt h v n c) : nsRank h v = nsCode n c := by
  obtain ⟨a, o, k, t, u, rfl, ho, hc, hd⟩ := x
  unfold nsRank
  dsimp only
  rw [ho]
  dsimp only
  rw [hd]
  rfl
def NsAll (h : Heap) (vs : List Value) : Prop := ∀ v ∈ vs, ∃ n c, NsAt h v n c ∧ c < 4294967296
theorem ns_firsts {h : Heap} : ∀ vs : List Value, NsAll h vs → ∃ fs, PySem.W.KatTups h vs fs ∧ fs.length = vs.length ∧ ∀ f, f ∈ fs → ∃ n t, f = Value.int n t
  | [], _ => ⟨[], PySem.W.KatTups.nil, rfl, fun f hf => (by cases hf)⟩
  | v :: vs, x => by
    obtain ⟨fs, e1, e2, e3⟩ := ns_firsts vs fun u hu => x u (List.mem_cons_of_mem _ hu)
    obtain ⟨n, c, ⟨a, o, k, t, u, rfl, ho, hc, hd⟩, _⟩ := x v List.mem_cons_self
    refine ⟨.int n t :: fs, PySem.W.KatTups.cons ho hc hd rfl e1, by simp [e2], fun f hf => ?_⟩
    rcases List.mem_cons.mp hf with rfl | hf
    · exact ⟨n, t, rfl⟩
    · exact e3 f hf
section
variable {prog : Program} {w : World} {A : Around} {E : Value → Shared → Prop} {s : Shared}
theorem ns_cmp {b : Bool} {p q : Value} {n m : Int} {c d : Nat} {Q : Bool → Shared → Prop} (hp : NsAt s.heap p n c) (hq : NsAt s.heap q m d) (lc : c < 4294967296) (ld : d < 4294967296) (h : Q (decide (nsCode n c < nsCode m d)) s) :
    wpAny (model prog w) A (keyLt' (tuples' b) p q) Q E s := by
  obtain ⟨a, o, k, t, u, rfl, ho, hc, hd⟩ := hp
  obtain ⟨a', o', k', t', u', rfl, ho', hc', hd'⟩ := hq
  unfold nsCode bigM at h
  refine PySem.W.kat_lt ho hd ho' hd' (PySem.W.kat_cons (wpAny_eqBool_int ?_))
  by_cases e : n = m
  · subst e
    rw [beq_self_eq_true]
    refine PySem.W.kat_yes (PySem.W.kat_cons (PySem.wpAny_eqBool_str ?_))
    by_cases e2 : c = d
    · subst e2
      rw [decide_eq_true rfl]
      refine PySem.W.kat_yes (PySem.W.kat_nil ?_)
      rw [decide_eq_false (by omega)] at h
      exact h
    · rw [show decide ((⟨#[c]⟩ : Str) = ⟨#[d]⟩) = false from decide_eq_false (fun z => e2 (by simpa using z))]
      refine PySem.W.kat_no (PyProof.Rows.oneLt_any_str ?_)
      have q : decide (([c] : List Nat) < [d]) = decide (n * 4294967296 + (c : Int) < n * 4294967296 + (d : Int)) := by
        rw [decide_eq_decide]
        constructor
        · intro z
          rcases List.cons_lt_cons_iff.mp z with z | ⟨z, z2⟩
          · omega
          · exact absurd z e2
        · intro z
          exact List.cons_lt_cons_iff.mpr (.inl (by omega))
      rw [← q] at h
      exact h
  · rw [beq_eq_false_iff_ne.mpr e]
    refine PySem.W.kat_no (PyProof.Rows.oneLt_any_int ?_)
    have q : decide (n < m) = decide (n * 4294967296 + (c : Int) < m * 4294967296 + (d : Int)) := by
      rw [decide_eq_decide]
      constructor <;> intro z <;> omega
    rw [q]
    exact h
theorem ns_kind {vs : List Value} (h2 : 2 ≤ vs.length) (x : NsAll s.heap vs) (r : Value → Int) (hr : ∀ v, v ∈ vs → ∀ n c, NsAt s.heap v n c → r v = nsCode n c) (Q : SortKind → Shared → Prop)
    (h : ∀ κ, TS.Cmp prog w A s κ (pairsOf vs) r → Q κ s) : wpAny (model prog w) A (keyKind' vs.toArray) Q E s := by
  obtain ⟨fs, e1, e2, e3⟩ := ns_firsts vs x
  refine PySem.W.kat_kind (T := Value.type "int") e1 (by omega) (fun f hf => ?_) rfl (h _ ?_)
  · obtain ⟨n, t, rfl⟩ := e3 f hf
    exact PySem.W.Looks.of_pure rfl
  · intro p q hp hq Q' E' hQ
    rw [pairsOf_toList] at hp hq
    have hp2 := (mem_zip_self hp).2
    have hq2 := (mem_zip_self hq).2
    obtain ⟨n, c, tp, lp⟩ := x _ hp2
    obtain ⟨m, d, tq, lq⟩ := x _ hq2
    rw [hr _ hp2 _ _ tp, hr _ hq2 _ _ tq] at hQ
    exact ns_cmp tp tq lp lq hQ
theorem ns_sort {a : Addr} {vs : List Value} {n : Nat} {P : PySem.Fin → Shared → Prop} (ho : s.heap.get? a = some (seqObj "list" vs.toArray n)) (h64 : vs.length < 64) (x : NsAll s.heap vs)
    (R : Value → Int) (hR : R = nsRank s.heap) (done : ∀ out : Array Value, out.toList.Perm vs → out.toList.Pairwise (fun u v => R u ≤ R v) → P (.done (.ret .none)) { s with heap := sortedHeap s.heap a vs out }) :
    wpAny (model prog w) A (Builtin.«list.sort» ⟨[.ref a], []⟩) P E s := by
  have kp : ∀ b o, s.heap.get? b = some o → o.cls = .type "tuple" → (TS.midHeap s.heap a vs).get? b = some o := by
    intro b o e c
    refine TS.midHeap_old (fun hb => ?_) e
    subst hb
    cases ho.symm.trans e
    exact absurd (show Value.type "list" = Value.type "tuple" from c) (by decide)
  refine SK.plain_sort (r := R) ho h64 (fun two Q hQ => ?_) fun ps out o1 o2 o3 => done out (TS.out_rank o1 o2 o3).1 (TS.out_rank o1 o2 o3).2
  refine ns_kind (s := { s with heap := TS.midHeap s.heap a vs }) two (fun v hv => ?_) R (fun v hv n c tv => ?_) Q hQ
  · obtain ⟨n, c, q, l⟩ := x v hv
    exact ⟨n, c, q.keeps kp, l⟩
  · obtain ⟨m, d, q, _⟩ := x v hv
    rw [hR, q.rank]
    exact (q.keeps kp).rank.symm.trans tv.rank
theorem ns_sorted {l : Addr} {vs : List Value} {Q : Value → Shared → Prop} (hl : s.heap.IsList l vs.toArray) (h64 : vs.length < 64) (x : NsAll s.heap vs)
    (done : ∀ out : Array Value, out.toList.Perm vs → out.toList.Pairwise (fun u v => nsRank s.heap u ≤ nsRank s.heap v) → Q (.ref (s.heap.objs.size + 1)) { s with heap := sortedAll s.heap vs out }) :
    wpAny (model prog w) A (call (.builtin "sorted") [.ref l]) Q E s := by
  have hz : vs.length ≤ sizeLine := by rw [sizeLine_eq]; omega
  obtain ⟨g, eg⟩ : ∃ g, g = (s.heap.push (seqObj "list" #[] 0)).update s.heap.objs.size (Obj.mapSeq (· ++ vs.toArray)) := ⟨_, rfl⟩
  have ng : g.objs.size = s.heap.objs.size + 1 := by rw [eg, Heap.size_update, size_push']
  have ag : (g.push (seqObj "list" vs.toArray 0)).get? (s.heap.objs.size + 1) = some (seqObj "list" vs.toArray 0) := by
    rw [← ng]
    exact Heap.get?_push_size _ rfl
  have kp : ∀ b o, s.heap.get? b = some o → o.cls = .type "tuple" → (g.push (seqObj "list" vs.toArray 0)).get? b = some o := by
    intro b o e _
    have lt : b < s.heap.objs.size := Heap.lt_size e
    rw [Heap.get?_push_ne _ _ _ (Nat.ne_of_lt (ng ▸ Nat.lt_succ_of_lt lt)), eg, Heap.get?_update_ne _ _ _ _ (Nat.ne_of_lt lt), Heap.get?_push_ne _ _ _ (Nat.ne_of_lt lt)]
    exact e
  have xk : NsAll (g.push (seqObj "list" vs.toArray 0)) vs := fun v hv => by
    obtain ⟨n, c, q, l⟩ := x v hv
    exact ⟨n, c, q.keeps kp, l⟩
  refine Calls.call_function_entry kind_sorted plain_sorted entry_sorted (args_sorted1 _) ?_
  unfold Builtin.«sorted»
  refine wpAny_bind (m := checkCount "sorted" 1 1 _) (wpAny_pure (wpAny_bind (collect_list hl (wpAny_bind (wpAny_newList ?_ hz)) hz)))
  show wpAny _ _ _ _ _ { s with heap := ((s.heap.push (seqObj "list" #[] 0)).update s.heap.objs.size (Obj.mapSeq (· ++ vs.toArray))).push (seqObj "list" vs.toArray 0) }
  rw [← eg, ng]
  refine wpAny_bind (wpAny_holding (wpAny_call_entry slot_list_sort ⟨_, ag, rfl⟩ entry_list_sort ?_ (args_list_sort _)))
  refine ns_sort ag h64 xk _ rfl fun out o1 o2 => ?_
  refine ⟨_, rfl, wpAny_pure ⟨_, rfl, ?_⟩⟩
  rw [eg] at *
  refine done out o1 (List.Pairwise.imp_of_mem (fun {u v} hu hv huv => ?_) o2)
  have r : ∀ y, y ∈ out.toList → nsRank s.heap y = nsRank _ y := fun y hy => by
    obtain ⟨n, c, q, _⟩ := x y (o1.mem_iff.mp hy)
    exact q.rank.trans (q.keeps kp).rank.symm
  rw [r u hu, r v hv]
  exact huv
end
section
variable {X : Cx}
def NsV (K : Frag) (H : Hp) (x : V) (n : Int) (c : Nat) : Prop := ∃ t, x = .ref t ∧ SqT K H t [.int n, .str ⟨#[c]⟩]
def rSortNs (K : Frag) : List V → Hp → VK → Prop := fun us H Q => ∃ (a : Addr) (xs : List V), us = [V.ref a] ∧ SqL K H a xs ∧ xs.length < 64 ∧ (∀ x ∈ xs, ∃ n c, NsV K H x n c ∧ c < 4294967296) ∧
  ∀ (ys : List V) (p : Addr), ys.Perm xs → ys.Pairwise (fun x y => ∀ n c m d, NsV K H x n c → NsV K H y m d → nsCode n c ≤ nsCode m d) → H p = none → Q (.ref p) (upd H p (.lst ys))
theorem ns_raw {pins : List (Addr × Obj)} {σ : L2.St} {H : Hp} {s : Shared} {x : V} {u : Value} {n : Int} {c : Nat} (I : Inv X pins σ H s) (h : NsV X.K H x n c) (r : u = .ref (match x with | .ref t => t | _ => 0)) : NsAt s.heap u n c := by
  obtain ⟨t, rfl, hq⟩ := h
  obtain ⟨its, rv, ⟨o, ho, hc, k, hd⟩, _⟩ := I.tuple hq
  cases rv with
  | cons r1 rv =>
    cases rv with
    | cons r2 rv =>
      cases rv
      obtain ⟨t1, rfl⟩ := r1
      obtain ⟨t2, rfl⟩ := r2
      exact ⟨t, o, k, t1, t2, r, ho, hc, hd⟩
theorem cr_sortNs : CallR X (.builtin "sorted") (rSortNs X.K) := by
  intro pins s σ H vs us Q I r ⟨a, xs, e0, hs, short, all, q⟩
  subst e0
  obtain ⟨its, rv, hl, hz⟩ := I.list hs
  have len : its.length < 64 := rv.length ▸ short
  obtain ⟨ex, er⟩ := bkV_refs rv fun x m => (all x m).elim fun n h => h.elim fun c h => h.1.elim fun t ht => ⟨t, ht.1⟩
  rw [Vals.ref1 r]
  have ok : NsAll s.heap its := fun v hv => by
    obtain ⟨t, rfl⟩ := er v hv
    obtain ⟨n, c, hx, lt⟩ := all (V.ref t) (ex ▸ List.mem_map.mpr ⟨_, hv, rfl⟩)
    exact ⟨n, c, ns_raw I hx rfl, lt⟩
  refine ns_sorted hl.isList len ok fun out o1 o2 => ?_
  obtain ⟨ep, at2⟩ := PyProof.Rows.sortedAll_at s.heap its out
  have perm : (out.toList.map bkV).Perm xs := ex ▸ o1.map bkV
  have size : (out.toList.map bkV).length ≤ sizeLine := perm.length_eq ▸ hz
  have refs : ∀ u ∈ out.toList, ∃ a, u = Value.ref a := fun u hu => er u (o1.mem_iff.mp hu)
  refine ⟨.ref _, upd H (s.heap.objs.size + 1) (.lst (out.toList.map bkV)), I.laid (t' := s.toks) (fun _ _ => PyProof.Rows.sortedAll_old) (Nat.le_succ _) ⟨size, out.toList, ep, bkV_vals refs, at2⟩, rfl, q _ _ perm ?_ (I.hok.fresh (Nat.le_succ _))⟩
  rw [List.pairwise_map]
  refine List.Pairwise.imp_of_mem (fun {u v} hu hv le n c m d h1 h2 => ?_) o2
  have i1 : nsRank s.heap u = nsCode n c := by
    obtain ⟨t, rfl⟩ := refs u hu
    exact (ns_raw I h1 rfl).rank
  have i2 : nsRank s.heap v = nsCode m d := by
    obtain ⟨t, rfl⟩ := refs v hv
    exact (ns_raw I h2 rfl).rank
  exact i1 ▸ i2 ▸ le
end
def nsD (p : Int × Nat) : Dt := .tup [.int p.1, .str ⟨#[p.2]⟩]
def nssOf : List Dt → Option (List (Int × Nat))
  | [] => some []
  | .tup [.int n, .str z] :: r => match z.cps.toList, nssOf r with
    | [c], some l => if c < 4294967296 then some ((n, c) :: l) else none
    | _, _ => none
  | _ :: _ => none
theorem nssOf_is : ∀ {l : List Dt} {ns : List (Int × Nat)}, nssOf l = some ns → l = ns.map nsD ∧ ∀ p ∈ ns, p.2 < 4294967296
  | [], ns, h => by cases h; exact ⟨rfl, fun p h => (by cases h)⟩
  | d :: l, ns, h => by
    unfold nssOf at h
    split at h
    · cases ‹_ :: _ = []›
    · rename_i n z r hd
      cases hd
      split at h
      · rename_i c l2 hc hl
        split at h
        · rename_i lt
          cases h
          obtain ⟨e1, e2⟩ := nssOf_is hl
          have ez : z = ⟨#[c]⟩ := by
            cases z with
            | mk cps =>
              have : cps = #[c] := Array.toList_inj.mp hc
              rw [this]
          refine ⟨by rw [e1, ez]; rfl, fun p hp => ?_⟩
          rcases List.mem_cons.mp hp with rfl | hp
          · exact lt
          · exact e2 p hp
        · cases h
      · cases h
    · cases h
def nsLe (p q : Int × Nat) : Bool := decide (nsCode p.1 p.2 ≤ nsCode q.1 q.2)
def sortNs (ns : List (Int × Nat)) : List (Int × Nat) := ns.mergeSort nsLe
def dSortNs : Dt → Option Dt
  | .lst l => (nssOf l).bind fun ns => if ns.length < 64 then some (.lst ((sortNs ns).map nsD)) else none
  | _ => none
theorem nsCode_inj {p q : Int × Nat} (h1 : p.2 < 4294967296) (h2 : q.2 < 4294967296) (e : nsCode p.1 p.2 = nsCode q.1 q.2) : p = q := by
  unfold nsCode bigM at e
  have a : p.1 = q.1 := by omega
  have b : p.2 = q.2 := by omega
  exact Prod.ext a b
theorem sortNs_srt (ns : List (Int × Nat)) : (sortNs ns).Pairwise fun a b => nsCode a.1 a.2 ≤ nsCode b.1 b.2 := by
  refine (List.pairwise_mergeSort (le := nsLe) (fun a b c => ?_) (fun a b => ?_) ns).imp fun h => of_decide_eq_true h
  · unfold nsLe; simp only [decide_eq_true_eq]; omega
  · unfold nsLe; simp only [Bool.or_eq_true, decide_eq_true_eq]; omega
theorem sortNs_uniq {ns ns' : List (Int × Nat)} (ok : ∀ p ∈ ns, p.2 < 4294967296) (p : ns'.Perm ns) (s : ns'.Pairwise fun a b => nsCode a.1 a.2 ≤ nsCode b.1 b.2) : ns' = sortNs ns := by
  refine List.Perm.eq_of_pairwise (fun a b ha hb h1 h2 => ?_) s (sortNs_srt ns) (p.trans (List.mergeSort_perm ns _).symm)
  exact nsCode_inj (ok a (p.mem_iff.mp ha)) (ok b ((List.mergeSort_perm ns _).mem_iff.mp hb)) (by omega)
def unNs : Dt → Int × Nat
  | .tup [.int n, .str z] => (n, z.cps.toList.headD 0)
  | _ => (0, 0)
theorem unNs_ns (p : Int × Nat) : unNs (nsD p) = p := rfl
theorem repL_ns [TabT] {K : Frag} {H : Hp} : ∀ {xs : List V} {ns : List (Int × Nat)}, RepL K H xs (ns.map nsD) → ∀ x ∈ xs, ∃ p ∈ ns, NsV K H x p.1 p.2
  | _, [], .nil, x, hx => by cases hx
  | _, p :: ns, .cons r rs, x, hx => by
    rcases List.mem_cons.mp hx with rfl | hx
    · refine ⟨p, List.mem_cons_self, ?_⟩
      cases r with
      | tup h1 h2 =>
        cases h2 with
        | cons q1 h2 =>
          cases h2 with
          | cons q2 h2 =>
            cases h2
            cases q1
            cases q2
            exact ⟨_, rfl, h1.sq⟩
    · obtain ⟨q, hq, z⟩ := repL_ns rs x hx
      exact ⟨q, List.mem_cons_of_mem _ hq, z⟩
theorem repL_nsP [TabT] {K : Frag} {H : Hp} {R : Int × Nat → Int × Nat → Prop} : ∀ {xs : List V} {ns : List (Int × Nat)}, RepL K H xs (ns.map nsD) → xs.Pairwise (fun x y => ∀ n c m d, NsV K H x n c → NsV K H y m d → R (n, c) (m, d)) → ns.Pairwise R
  | _, [], .nil, _ => .nil
  | _, p :: ns, .cons r rs, h => by
    rw [List.pairwise_cons] at h
    refine List.Pairwise.cons (fun q hq => ?_) (repL_nsP rs h.2)
    have hp : ∀ (v : V), RepD K H v (nsD p) → NsV K H v p.1 p.2 := fun v r => by
      cases r with
      | tup h1 h2 =>
        cases h2 with
        | cons q1 h2 =>
          cases h2 with
          | cons q2 h2 =>
            cases h2
            cases q1
            cases q2
            exact ⟨_, rfl, h1.sq⟩
    have hm : ∀ {xs : List V} {ns : List (Int × Nat)}, RepL K H xs (ns.map nsD) → q ∈ ns → ∃ x ∈ xs, NsV K H x q.1 q.2 := by
      intro xs ns
      induction ns generalizing xs with
      | nil => intro _ h; cases h
      | cons a l ih =>
        intro rr hq
        cases rr with
        | cons r1 r2 =>
          rcases List.mem_cons.mp hq with e | hq
          · subst e
            refine ⟨_, List.mem_cons_self, ?_⟩
            cases r1 with
            | tup h1 h2 =>
              cases h2 with
              | cons q1 h2 =>
                cases h2 with
                | cons q2 h2 =>
                  cases h2
                  cases q1
                  cases q2
                  exact ⟨_, rfl, h1.sq⟩
          · obtain ⟨x, hx, z⟩ := ih r2 hq
            exact ⟨x, List.mem_cons_of_mem _ hx, z⟩
    obtain ⟨y, hy, z⟩ := hm rs hq
    exact h.1 y hy _ _ _ _ (hp _ r) z
theorem co_sortNs [TabT] {K : Frag} : CallO K (rSortNs K) (o1 dSortNs) := fun ω H cs vs ws z k rv e Q q => by
  obtain ⟨d, rfl, e⟩ := o1_of e
  obtain ⟨v, rfl, r⟩ := rv.one
  cases d with
  | lst l =>
    have e : ((nssOf l).bind fun ns => if ns.length < 64 then some (Dt.lst ((sortNs ns).map nsD)) else none) = some z := e
    cases ht : nssOf l with
    | none => rw [ht] at e; cases e
    | some ns =>
      rw [ht] at e
      have e : (if ns.length < 64 then some (Dt.lst ((sortNs ns).map nsD)) else none) = some z := e
      by_cases h64 : ns.length < 64
      · rw [if_pos h64] at e
        cases e
        obtain ⟨rfl, ok⟩ := nssOf_is ht
        cases r with
        | lst h1 h2 =>
          have h3 := RepL.mono k.ex _ _ h2
          refine ⟨_, _, rfl, SqL.of (k.ex _ _ h1), by rw [h2.len, List.length_map]; exact h64, fun x hx => ?_, fun ys p perm srt hp => ?_⟩
          · obtain ⟨q, hq, z⟩ := repL_ns h3 x hx
            exact ⟨_, _, z, ok q hq⟩
          · obtain ⟨ds, pd, rd⟩ := RepL.perm perm h2
            have em : (ds.map unNs).map nsD = ds := by
              rw [List.map_map]
              refine (List.map_congr_left fun d hd => ?_).trans (List.map_id' _)
              obtain ⟨p, _, rfl⟩ := List.mem_map.mp (pd.mem_iff.mp hd)
              rfl
            have rd2 : RepL K ω.Hs ys ((ds.map unNs).map nsD) := by rw [em]; exact rd
            have pm : (ds.map unNs).Perm ns := by
              have z := pd.map unNs
              rw [List.map_map] at z
              exact z.trans (by rw [show (unNs ∘ nsD) = id from funext unNs_ns, List.map_id])
            have es := sortNs_uniq ok pm (repL_nsP (R := fun a b => nsCode a.1 a.2 ≤ nsCode b.1 b.2) (RepL.mono k.ex _ _ rd2) srt)
            rw [es] at rd2
            exact (froze_use k q fun p hp => rep_lst k hp rd2) p hp
      · rw [if_neg h64] at e
        cases e
  | _ => cases e
def oSorted2 : List Wv → List Cell → Option Dt := fun ws cs => (oSorted ws cs).or (o1 dSortNs ws cs)
section
variable [TabT] {X : Cx} {E : XK} {e : Expr} {p pos : Pos} {ga : EvA}
theorem b_sorted2 (hg : Gl X "sorted") (hm : X.mg "sorted" = none) (ha : EVA X E [e] ga) (he : starEach [e] X.env = (false, eval e X.env) :: starEach [] X.env := by rfl) : EV X E (.Call (.Name "sorted" p) [e] [] pos) (eCall oSorted2 ga) :=
  ev_callB (CallR.or (CallR.or cr_sortV cr_sortedI) cr_sortNs) (CallO.or (CallO.or co_sortV co_sortI) co_sortNs) hg hm boot_sorted ha (by decide) (by decide) he rfl
end
end DX
namespace DX
open PySem PySem.Spec PyProof.Rows L2
def listW : List Wv → List Cell → Option (List Wv) := fun ws cs => match ws with
  | [.dat (.lst l)] => some (l.map .dat)
  | [.dat (.tup l)] => some (l.map .dat)
  | [.cel k] => match cs[k]? with
    | some (.lst ws) => some ws
    | _ => none
  | _ => none
def fListOf (g : EvA) : EvF := fun env => M.bind (g env) fun ws => fun cs => M.opt (listW ws cs) cs
section
variable [TabT] {X : Cx} {E : XK} {e : Expr} {p pos : Pos} {ga : EvA}
theorem ef_list (hg : Gl X "list") (hm : X.mg "list" = none) (ha : EVA X E [e] ga) (he : starEach [e] X.env = (false, eval e X.env) :: starEach [] X.env := by rfl) : EVF X E (.Call (.Name "list" p) [e] [] pos) (fListOf ga) :=
  PE.imp (pe_callTy call_list_of hg hm boot_list ha (by decide) (by decide) he rfl) fun σ H Q ⟨env, cs, ω, hs, hk, h⟩ => ⟨env, cs, ω, hs, hk, h.bind.imp fun ws ω1 cs1 H1 l1 k1 h1 vs rv => by
    obtain ⟨zs, e, h2⟩ := Out.opt h1
    have h3 := h2.now k1
    unfold listW at e
    split at e
    · obtain ⟨v, rfl, r⟩ := rv.one'
      cases e
      cases (show RepD X.K ω1.Hs v _ from r) with
      | lst g1 g2 => exact ⟨_, _, rfl, .inl (SqL.of (k1.ex _ _ g1)), fun l hl => h3 l _ hl (RepWs.of g2)⟩
    · obtain ⟨v, rfl, r⟩ := rv.one'
      cases e
      cases (show RepD X.K ω1.Hs v _ from r) with
      | tup g1 g2 => exact ⟨_, _, rfl, .inr (ex_t k1.ex g1).sq, fun l hl => h3 l _ hl (RepWs.of g2)⟩
    · rename_i k
      obtain ⟨v, rfl, a, e1, rfl⟩ := rv.one'
      cases hc : cs1[k]? with
      | none => rw [hc] at e; cases e
      | some c =>
        rw [hc] at e
        have q := k1.cel k a c e1 hc
        cases c with
        | lst l =>
          obtain ⟨_, us, g1, g2⟩ := q
          cases e
          exact ⟨_, _, rfl, .inl (SqL.of g1), fun l hl => h3 l _ hl g2⟩
        | _ => cases e
    · cases e⟩
end
section
variable {cs : List Cell} {env : En} {ga : EvA} {ws : List Wv} {ds : List Dt} {k : Nat}
def kListW (ws : List Wv) : M (List Wv) := fun cs => M.opt (listW ws cs) cs
theorem s_flist : fListOf ga env cs = rb (ga env cs) kListW := mb _ _ _
theorem k_flist : kListW [.dat (.lst ds)] cs = .ok (ds.map .dat) cs := (rfl)
theorem k_flistt : kListW [.dat (.tup ds)] cs = .ok (ds.map .dat) cs := (rfl)
end
end DX
namespace DX
open PySem PySem.Spec PyProof.Rows L2
open AutoSeq1 (wpAny_loadPart')
theorem enumT_new (t : Addr) (items : Array Value) (n : Nat) (dct : Option Addr) (sl : Array (Option Value)) :
    Meets (Builtin.«enumerate.__new__» ⟨[.type "enumerate", .ref t], []⟩) fun _ R s => s.heap.get? t = some { cls := .type "tuple", dict := dct, data := .seq items n, slots := sl } ∧
      R (.ok (.ret (.ref (s.heap.push { cls := .type "tuple_iterator", data := .fields #[.ref t, .int 0 0] }).objs.size)))
        { s with heap := (s.heap.push { cls := .type "tuple_iterator", data := .fields #[.ref t, .int 0 0] }).push { cls := .type "enumerate", data := .fields #[.none, .bool false, .ref s.heap.objs.size, rawInt 0, .none, .none] } } :=
  .of_wp fun prog w A R s hh => by
    obtain ⟨hp, g, d, tk, os⟩ := s
    obtain ⟨ht, hR⟩ := hh
    have hsub := sub_enumerate
    have hT : Heap.IsTuple (Shared.heap ⟨hp, g, d, tk, os⟩) t items := ⟨_, ht, rfl, n, rfl⟩
    wp_walk using wpAny_loadPart' ht
    refine wpAny_stack_any fun st => wpAny_pure ?_
    split
    · rename_i c _ _ _ _ _
      cases (c == Value.type "enumerate") <;> (wp_walk using wpAny_loadPart' ht, wpAny_pyIter_tuple hT; exact ⟨_, rfl, hR⟩)
    · wp_walk using wpAny_loadPart' ht, wpAny_pyIter_tuple hT
      exact ⟨_, rfl, hR⟩
section
variable {prog : Program} {w : World} {A : Around} {E : Value → Shared → Prop} {s : Shared}
theorem enumT_call {t : Addr} {items : Array Value} {Q : Value → Shared → Prop} (ht : s.heap.IsTuple t items)
    (hQ : ∀ h', IsEnum h' (s.heap.objs.size + 1) s.heap.objs.size 0 .none → h'.IsTupleIter s.heap.objs.size t 0 → (∀ b o, s.heap.get? b = some o → h'.get? b = some o) → Q (.ref (s.heap.objs.size + 1)) { s with heap := h' }) :
    wpAny (model prog w) A (call (.type "enumerate") [.ref t]) Q E s := by
  obtain ⟨⟨c, dct, dt, sl⟩, ho, hc, n, hd⟩ := ht
  obtain rfl : c = .type "tuple" := hc
  obtain rfl : dt = .seq items n := hd
  refine callType_new F.called_enumerate (by decide) (F.typeCall_enumerate_1 _) (F.newCall_enumerate_1 _) (fun obj => F.args_object_init_2 obj _) F.entry_enumerate_new (enumT_new t items n dct sl) ⟨ho, ?_⟩
  obtain ⟨g, eg⟩ : ∃ g, g = s.heap.push { cls := .type "tuple_iterator", data := .fields #[.ref t, .int 0 0] } := ⟨_, rfl⟩
  have gs : g.objs.size = s.heap.objs.size + 1 := by rw [eg]; exact Heap.size_push ..
  have gi : g.get? s.heap.objs.size = some { cls := .type "tuple_iterator", data := .fields #[.ref t, .int 0 0] } := by rw [eg]; exact Heap.get?_push_size _ rfl
  show _ ∧ _
  rw [← eg, gs]
  have en : IsEnum (g.push { cls := .type "enumerate", data := .fields #[.none, .bool false, .ref s.heap.objs.size, rawInt 0, .none, .none] }) (s.heap.objs.size + 1) s.heap.objs.size 0 .none := by
    have z := Heap.get?_push_size g (o := { cls := .type "enumerate", data := .fields #[.none, .bool false, .ref s.heap.objs.size, rawInt 0, .none, .none] }) rfl
    rw [gs] at z
    exact z
  exact ⟨⟨_, en, rfl⟩, hQ _ en ⟨_, Heap.get?_push_of_some _ gi, rfl, rfl⟩ fun b o x => Heap.get?_push_of_some _ (eg ▸ Heap.get?_push_of_some _ x)⟩
end
def IteT (K : Frag) (a : Addr) : It :=
  ⟨fun i H => ∃ (xs : List V) (x : V), SqT K H a xs ∧ xs[i]? = some x, fun i H v H' => ∃ T x, v = .ref T ∧ H T = none ∧ H' = upd H T (.tup [.int (i : Nat), x]) ∧ ∀ xs, SqT K H a xs → xs[i]? = some x, fun i H => ∃ xs : List V, SqT K H a xs ∧ xs.length ≤ i⟩
theorem turn_enumT {P : Program} {w : World} {K : Frag} {elts : List Expr} {kk : Nat} {tpos : Pos} (a e it : Addr) :
    Turn P w K (.Tuple elts kk tpos) (IteT K a) [e, it] e (fun i h => (∃ old, IsEnum h e it ((i : Nat) : Int) old) ∧ h.IsTupleIter it a i ∧ e ≠ it) where
  mem := by simp
  obj := fun i h st b hb => by
    obtain ⟨⟨old, he⟩, ⟨o, ho, hc, hd⟩, _⟩ := st
    rcases List.mem_cons.mp hb with rfl | hb
    · exact ⟨_, he, fun v q => nomatch q⟩
    · obtain rfl := List.mem_singleton.mp hb
      exact ⟨o, ho, fun v q => by rw [hd] at q; cases q⟩
  keep := fun i h h' st kp => by
    obtain ⟨⟨old, he⟩, hi, ne⟩ := st
    exact ⟨⟨old, kp e (by simp) _ he⟩, hi.at fun o q => kp it (by simp) o q, ne⟩
  item := by
    intro X hP hw hK hc i pins s σ H E J hf st hg
    subst hP hw hK
    obtain ⟨⟨old, he⟩, hit, ne⟩ := st
    obtain ⟨xs, x, hq, hx⟩ := hg
    obtain ⟨its, rv, p, hz⟩ := J.tuple hq
    obtain ⟨u, hu, ru⟩ := rv.get hx
    have hel : e < s.heap.objs.size := Heap.lt_size he
    have hil : it < s.heap.objs.size := by obtain ⟨_, q, _⟩ := hit; exact Heap.lt_size q
    have hT : s.heap.IsTuple a its.toArray := p
    have ai : a ≠ it := fun z => by
      obtain ⟨o, ho, hcl, _⟩ := hT
      obtain ⟨o', ho', hcl', _⟩ := hit
      rw [z, ho'] at ho
      cases ho
      rw [hcl'] at hcl
      exact absurd hcl (by decide)
    have ae : e ≠ a := fun z => by
      obtain ⟨o, ho, hcl, _⟩ := hT
      rw [← z, he] at ho
      cases ho
      exact absurd (show Value.type "enumerate" = Value.type "tuple" from hcl) (by decide)
    have D := Draws.tuple (prog := X.prog) (w := X.w) (A := X.A.in1) (J.ok.hd hc) it a ai its.toArray
    have hi : i < its.toArray.size := by
      have := (List.getElem?_eq_some_iff.mp hu).1
      simpa using this
    refine wpAny_pyNext_enum_itemD D he ⟨hit, hT⟩ hi ne (by simpa using ⟨ne, ae⟩) fun y h' tk hy ho st' hn hsz hk => ?_
    have ey : y = u := by
      have hy : its.toArray[i]? = some y := hy
      have : its[i]? = some y := by simpa using hy
      rw [hu] at this
      exact (Option.some.inj this).symm
    subst ey
    refine ⟨_, rfl, wpAny_letOwnedTupleGo_enum (s := { s with heap := h', toks := tk + 1 }) ho fun h'' he' sb => ?_⟩
    have hT2 : h''.get? s.heap.objs.size = some { cls := .type "tuple", data := .seq #[.int i tk, y] } := (sb.2 _ (Nat.ne_of_gt hel)).trans hn
    have new : ObjOk X.prog X.w (upd H s.heap.objs.size (.tup [.int (i : Nat), x])) h'' s.heap.objs.size (.tup [.int (i : Nat), x]) :=
      ⟨by show 2 ≤ sizeLine; decide, [.int i tk, y], .cons ⟨_, rfl⟩ (.cons ru .nil), ⟨_, hT2, rfl, _, rfl⟩⟩
    have J1 : Inv X pins σ (upd H s.heap.objs.size (.tup [.int (i : Nat), x])) { s with heap := h'', toks := tk + 1 } :=
      J.turnedNew (t' := tk + 1) (ch := [e, it]) (fun b ob hb q => (sb.2 b (fun z => hb (by simp [z]))).trans (hk b ob (fun z => hb (by simp [z])) (fun z => hb (by simp [z])) q)) hf (Nat.le_refl _) new
    refine ⟨.ref s.heap.objs.size, _, J1, rfl, ⟨_, x, rfl, J.hok.fresh (Nat.le_refl _), rfl, fun ys hy => by rw [J.tuple_inj hy hq]; exact hx⟩, ⟨⟨y, ?_⟩, st'.1.at fun o q => (sb.2 it (Ne.symm ne)).trans q, ne⟩, fun b hb => ?_⟩
    · rw [show ((i + 1 : Nat) : Int) = (i : Int) + 1 by omega]
      exact he'
    · have lt : b < s.heap.objs.size := by
        rcases List.mem_cons.mp hb with rfl | hb
        · exact hel
        · exact (List.mem_singleton.mp hb) ▸ hil
      rw [upd_ne (Nat.ne_of_lt lt)]
      exact (hf b hb).1
  done := by
    intro X hP hw hK hc i pins s σ H E J hf st hg
    subst hP hw hK
    obtain ⟨⟨old, he⟩, hit, ne⟩ := st
    obtain ⟨xs, hq, hx⟩ := hg
    obtain ⟨its, rv, p, hz⟩ := J.tuple hq
    obtain ⟨f0, f1, f2, f3, f4, f5⟩ := hf it (by simp)
    have hl := rv.length
    have hT : s.heap.IsTuple a its.toArray := p
    have D : Draws X.prog X.w X.A.in1 it [it, a] 0 (fun _ _ => False) (fun _ h => h.IsTupleIter it a i ∧ h.IsTuple a its.toArray) := {
      live := fun _ _ q => let ⟨o, ho, _⟩ := q.1; ⟨o, ho⟩
      frame := fun _ _ _ q hk => ⟨q.1.at fun o e => hk it (by simp) o e, q.2.at fun o e => hk a (by simp) o e⟩
      item := fun j _ _ _ hj _ _ => absurd hj (Nat.not_lt_zero j)
      done := fun s Q E q hE => wpAny_nextOf_tuple_end (J.ok.hd hc) q.1 q.2 (by simp; omega) hE }
    refine wpAny_pyNext_enum_endD D he ⟨hit, hT⟩ fun h' eb => ⟨rfl, J.turned (t' := s.toks) (fun b o hb q => eb b o hb q) f0 f1 f3 f4 f5⟩
  self := fun A i s Q E st h => let ⟨⟨_, he⟩, _⟩ := st; wpAny_pyIter_enum he h
section
variable [TabT] {X : Cx} {E : XK} {e : Expr} {ta : TA} {g : EvA} {p pos tpos : Pos} {elts : List Expr} {kk : Nat}
def iEnT (K : Frag) (ta : TA) : TI := fun σ H R => ta σ H fun vs H1 => ∃ a xs, vs = [.ref a] ∧ SqT K H1 a xs ∧ R (IteT K a) H1
theorem pi_enT (hg : Gl X "enumerate") (hm : X.mg "enumerate" = none) (ha : PA X [e] ta) (hs : starEach [e] X.env = [(false, eval e X.env)] := by rfl) : PI X (.Tuple elts kk tpos) (.Call (.Name "enumerate" p) [e] [] pos) (iEnT X.K ta) := by
  refine ⟨fun pins s σ H R J h => PyProof.Rows.Call_ (ld_blt J hg hm PyProof.Rows.boot_enumerate (PyProof.Rows.callWith_type1 (thn (ha.run pos pins s σ H _ J h) fun us s1 q => ?_) hs rfl))⟩
  obtain ⟨vs, H1, J1, r1, a, xs, ez, hq, qR⟩ := q
  subst ez
  cases r1 with
  | cons r rr =>
    cases rr
    cases r
    obtain ⟨its, rv, p', hz⟩ := J1.tuple hq
    refine enumT_call (show s1.heap.IsTuple a its.toArray from p') fun h' he hit hk => wpAny_pyIter_enum he ?_
    have J2 : Inv X pins σ H1 { s1 with heap := h' } := J1.kept (t' := s1.toks) hk
    refine ⟨s1.heap.objs.size + 1, [s1.heap.objs.size + 1, s1.heap.objs.size], _, _, H1, rfl, J2, turn_enumT a (s1.heap.objs.size + 1) s1.heap.objs.size, ⟨⟨.none, he⟩, hit, Nat.succ_ne_self _⟩, fun b hb => ?_, qR⟩
    have hle : s1.heap.objs.size ≤ b := by
      rcases List.mem_cons.mp hb with y | y
      · rw [y]; exact Nat.le_succ _
      · rw [List.mem_singleton.mp y]; exact Nat.le_refl _
    exact J1.fpOk hle (J1.hok.fresh hle)
theorem wok_enT {K : Frag} {ω : Wo} {a : Addr} {vs : List V} {ds : List Dt} (h : TupAt K ω.Hs a vs) (r : RepL K ω.Hs vs ds) : WOk K (IteT K a) ω (enumW ds) := by
  have en : (enumW ds).length = vs.length := by rw [r.len]; simp [enumW]
  refine ⟨fun i ω' H cs hi l k => ?_, fun ω' H cs l k => ⟨vs, (ex_t k.ex (ex_t l.ex h)).sq, by omega⟩, fun i ω' H cs x H' hi l k q => ?_⟩
  · have hi : i < vs.length := by omega
    exact ⟨vs, vs[i], (ex_t k.ex (ex_t l.ex h)).sq, List.getElem?_eq_getElem hi⟩
  · obtain ⟨T, x, rfl, hT, rfl, e1⟩ := q
    obtain ⟨d, e3, r1⟩ := r.at (e1 vs (ex_t k.ex (ex_t l.ex h)).sq)
    obtain ⟨ω'', l1, k1, r3⟩ := pair_use k hT (RepL.two (.int (i : Nat)) (RepD.mono l.ex _ _ r1))
    exact ⟨ω'', l1, k1, _, by simp [enumW, e3], r3⟩
def asEnumT : List Wv → M (List Wv)
  | [.dat (.tup l)] => M.ret (enumW l)
  | ws => asEnum ws
def iEnumT (g : EvA) : EvI := fun env => M.bind (g env) asEnumT
def fstTup : List Wv → Bool
  | [.dat (.tup _)] => true
  | _ => false
def fstTupR : R (List Wv) → Bool
  | .ok ws _ => fstTup ws
  | _ => false
theorem ei_enumT (hg : Gl X "enumerate") (hm : X.mg "enumerate" = none) (ha : EVA X E [e] g) (hs : starEach [e] X.env = [(false, eval e X.env)] := by rfl) : EVI X E (.Tuple elts kk tpos) (.Call (.Name "enumerate" p) [e] [] pos) (iEnumT g) :=
  PI.imp (PI.orr (ei_enum (E := E) hg hm ha hs) (pi_enT hg hm ha hs)) fun σ H R ⟨env, cs, ω, hst, hk, h⟩ => by
    cases hkd : fstTupR (g env cs) with
    | false =>
      refine .inl ⟨env, cs, ω, hst, hk, ?_⟩
      have e : iEnumT g env cs = iEnumE g env cs := by
        unfold iEnumT iEnumE M.bind
        cases e1 : g env cs with
        | ok ws c =>
          rw [e1] at hkd
          have hkd : fstTup ws = false := hkd
          show asEnumT ws c = asEnum ws c
          unfold asEnumT
          split
          · cases hkd
          · rfl
        | exc x c => rfl
        | bad => rfl
      rw [e] at h
      exact h
    | true =>
      refine .inr ⟨env, cs, ω, hst, hk, h.bind.impE fun ws ω1 cs1 H1 e1 l1 k1 h1 vs rv => ?_⟩
      rw [e1] at hkd
      have hkd : fstTup ws = true := hkd
      unfold fstTup at hkd
      split at hkd
      · obtain ⟨v, rfl, r⟩ := rv.one'
        cases (show RepD X.K ω1.Hs v _ from r) with
        | tup g1 g2 => exact ⟨_, _, rfl, (ex_t k1.ex g1).sq, h1.now k1 _ (wok_enT g1 g2)⟩
      · cases hkd
end
section
variable {cs : List Cell} {env : En} {ga : EvA} {ds : List Dt} {a : Str}
theorem s_enumT : iEnumT ga env cs = rb (ga env cs) asEnumT := mb _ _ _
theorem k_enumT_t : asEnumT [.dat (.tup ds)] cs = .ok (enumW ds) cs := (rfl)
theorem k_enumT_l : asEnumT [.dat (.lst ds)] cs = .ok (enumW ds) cs := (rfl)
theorem k_enumT_s : asEnumT [.dat (.str a)] cs = .ok (enumW (signD a)) cs := (rfl)
end
end DX
namespace DX
open PySem PySem.Spec PyProof.Rows L2
open HT
def dGeT : Dt → Dt → Option Dt
  | .tup a, .tup b => match DX.intsOf a, DX.intsOf b with
    | some ns, some ms => some (.bl (!lexLt ns ms))
    | _, _ => none
  | _, _ => none
theorem s_geT {ns ms : List Int} : dGeT (tupI ns) (tupI ms) = some (.bl (!lexLt ns ms)) := by
  show (match DX.intsOf (ns.map .int), DX.intsOf (ms.map .int) with | some ns, some ms => some (Dt.bl (!lexLt ns ms)) | _, _ => none) = _
  rw [ints_map, ints_map]
def revS (a : Str) : Str := ⟨a.cps.toList.reverse.toArray⟩
def dRevT : Dt → Option Dt
  | .tup l => some (.tup l.reverse)
  | .str a => if decide (a.length ≤ 16777216) = true then some (.str (revS a)) else none
  | _ => none
def wRevT : Wv → Option Dt
  | .dat d => dRevT d
  | _ => none
def mRevT (x : Wv) : M Wv := fun cs => M.opt ((wRevT x).map .dat) cs
def eRevT (f : Ev) : Ev := fun env => M.bind (f env) mRevT
theorem s_revTe {f : Ev} {env : En} {cs : List Cell} : eRevT f env cs = rb (f env cs) mRevT := mb _ _ _
theorem s_revS {a : Str} {cs : List Cell} (h : a.length ≤ 16777216) : mRevT (.dat (.str a)) cs = .ok (.dat (.str (revS a))) cs := by
  unfold mRevT wRevT dRevT
  dsimp only
  rw [if_pos (decide_eq_true h)]
  rfl
theorem s_revT {l : List Dt} {cs : List Cell} : mRevT (.dat (.tup l)) cs = .ok (.dat (.tup l.reverse)) cs := (rfl)
end DX
namespace DX
open PySem PySem.Spec PyProof.Rows L2
def dReprP : Dt → Option Dt
  | .non => some (.str "None")
  | .bl b => some (.str (if b then "True" else "False"))
  | .str x => if szOk (reprText x).length = true then some (.str (reprText x)) else none
  | _ => none
def rReprP : List V → Hp → VK → Prop := fun xs H Q => (xs = [.non] ∧ Q (.str "None") H) ∨ (∃ b, xs = [.bl b] ∧ Q (.str (if b then "True" else "False")) H) ∨ ∃ x : Str, xs = [.str x] ∧ (reprText x).length ≤ sizeLine ∧ Q (.str (reprText x)) H
theorem cr_reprP {X : Cx} : CallR X (.builtin "repr") rReprP := by
  intro pins s σ H xs us Q I r h
  rcases h with ⟨rfl, q⟩ | ⟨b, rfl, q⟩ | ⟨x, rfl, hz, q⟩
  · obtain ⟨u, rfl, e⟩ := vals1 r
    cases (show u = Value.none from e)
    exact PySem.P.repr_of_none ⟨.str _, H, I.tok _, ⟨_, rfl⟩, q⟩
  · obtain ⟨u, rfl, e⟩ := vals1 r
    cases (show u = Value.bool b from e)
    refine PySem.P.repr_of_bool ⟨.str (if b then "True" else "False"), H, I.tok _, ⟨s.toks, ?_⟩, q⟩
    cases b <;> rfl
  · obtain ⟨u, rfl, t, rfl⟩ := vals1 r
    exact PySem.P.repr_of_str ⟨.str _, H, I.tok _, ⟨_, rfl⟩, q⟩ hz
theorem co_reprP [TabT] {K : Frag} : CallO K rReprP (o1 dReprP) := fun ω H cs vs ws z k rv e Q q => by
  obtain ⟨d, rfl, e⟩ := o1_of e
  obtain ⟨v, rfl, r⟩ := rv.one
  cases d with
  | non => cases r; cases e; exact .inl ⟨rfl, q ω H _ (Le.refl _) k (.str _)⟩
  | bl b => cases r; cases e; exact .inr (.inl ⟨b, rfl, q ω H _ (Le.refl _) k (.str _)⟩)
  | str x =>
    cases r
    have e : (if szOk (reprText x).length = true then some (Dt.str (reprText x)) else none) = some z := e
    split at e
    · rename_i h
      cases e
      exact .inr (.inr ⟨x, rfl, szOk_of h, q ω H _ (Le.refl _) k (.str _)⟩)
    · cases e
  | _ => cases e
def oReprA : List Wv → List Cell → Option Dt := fun ws cs => (o1 dRepr ws cs).or (o1 dReprP ws cs)
section
variable [TabT] {X : Cx} {E : XK} {e : Expr} {p pos : Pos} {ga : EvA}
theorem b_reprA (hgd : X.A.guards = some []) (hu : X.A.units + 66 < cLine) (hg : Gl X "repr") (hm : X.mg "repr" = none) (ha : EVA X E [e] ga) (he : starEach [e] X.env = (false, eval e X.env) :: starEach [] X.env := by rfl) : EV X E (.Call (.Name "repr" p) [e] [] pos) (eCall oReprA ga) := ev_callB (CallR.or (CallR.or (cr_repr hgd hu) SkE.call_repr_int) cr_reprP) (CallO.or co_repr co_reprP) hg hm boot_repr ha (by decide) (by decide) he rfl
end
theorem reprA_of {d z : Dt} {cs : List Cell} (h : dRepr d = some z) : oReprA [.dat d] cs = some z := by
  show (dRepr d).or _ = _
  rw [h]
  rfl
end DX
namespace DX
open PySem PySem.Spec PyProof.Rows L2
theorem fng_any [TabT] {P : Program} {w : World} {K : Frag} {mg : MG} {base : Heap} {gd gd' : Bool} {k : Nat} {f : Addr} {fd : FuncData} {ps : List Str} {m : Fn} (h : gd = true → gd' = true) (F : FnG P w K mg base gd k f fd ps m) : FnG P w K mg base gd' k f fd ps m :=
  ⟨fun A outer s H args us vs Q E ω cs ws hr hgd => F.run A outer s H args us vs Q E ω cs ws hr fun e => hgd (h e)⟩
end DX
namespace DX
open PySem PySem.Spec PyProof.Rows L2
def mKd (l : List (Str × Str)) (y : Wv) : M Wv := match y with
  | .dat (.str z) => M.opt ((l.lookup z).map fun v => .dat (.str v))
  | _ => M.bad
def eKd (l : List (Str × Str)) (g : Ev) : Ev := fun env => M.bind (g env) (mKd l)
def wRevL : Wv → Option Dt
  | .dat (.lst l) => some (.lst l.reverse)
  | _ => none
def mRevL (x : Wv) : M Wv := fun cs => M.opt ((wRevL x).map .dat) cs
def eRevL (f : Ev) : Ev := fun env => M.bind (f env) mRevL
section
variable {f g : Ev} {env : En} {cs : List Cell} {u : Wv} {l : List (Str × Str)} {ds : List Dt} {z v : Str}
theorem k_kde : eKd l g env cs = rb (g env cs) (mKd l) := mb _ _ _
theorem k_kd (h : l.lookup z = some v) : mKd l (.dat (.str z)) cs = .ok (.dat (.str v)) cs := by
  unfold mKd
  dsimp only
  rw [h]
  rfl
theorem k_revLe : eRevL f env cs = rb (f env cs) mRevL := mb _ _ _
theorem k_revL : mRevL (.dat (.lst ds)) cs = .ok (.dat (.lst ds.reverse)) cs := (rfl)
end
end DX
namespace DX
open PySem PySem.Spec PyProof.Rows L2
theorem Lf.at {ω ω' : Wo} (h : Lf ω ω') {k : Nat} {a : Addr} (e : ω.ad[k]? = some a) : ω'.ad[k]? = some a := by
  obtain ⟨t, ht⟩ := h.ad
  rw [← ht, List.getElem?_append_left (List.getElem?_eq_some_iff.mp e).1]
  exact e
end DX
namespace SX
open PySem PySem.W PySem.Calls PyProof.Rows PySem.HandSPX
/-- what a state tells of the modules' names -/
structure Names (K : Frag) (mg : Str → Option Value) (h : Heap) : Prop where
  kin : K.In h
  glob : h.Ns mainGlobals mg
  blt : ∃ mb, h.Ns builtinsNs mb ∧ mb "super" = some (.type "super")
  lim : h.NoLimit
theorem Names.keeps {K : Frag} {mg : Str → Option Value} {h h' : Heap} (N : Names K mg h) (k : ∀ b o, h.get? b = some o → h'.get? b = some o) : Names K mg h' :=
  ⟨N.kin.keeps k, N.glob.keeps k, N.blt.imp fun mb q => ⟨q.1.keeps k, q.2⟩, N.lim.keeps k⟩
end SX
namespace DX
open PySem PySem.Spec PyProof.Rows L2
def mRaise1 (x f : Str) (w : Wv) : M Fl := fun cs => match w with
  | .dat d => .exc ⟨x, [(f, d)]⟩ cs
  | .cel _ => .bad
def sRaise1 (x f : Str) (g : Ev) : Sv := fun env => M.bind (g env) (mRaise1 x f)
def wXf (Ds : List Addr) (f : Str) : Wv → Option Wv
  | .dat (.exn C l) => if decide (C ∈ Ds) = true then (l.lookup f).map .dat else none
  | _ => none
def mXf (Ds : List Addr) (f : Str) (w : Wv) : M Wv := fun cs => M.opt (wXf Ds f w) cs
def eXf (Ds : List Addr) (f : Str) (g : Ev) : Ev := fun env => M.bind (g env) (mXf Ds f)
section
variable [TabT] {X : Cx} {E : XK} {a e : Expr} {f g : Ev} {pos : Pos}
theorem RepF.at {K : Frag} {H : Hp} {n : Str} : ∀ {xs : List (Str × V)} {ds : List (Str × Dt)} {d : Dt}, RepF K H xs ds → ds.lookup n = some d → ∃ v, xs.lookup n = some v ∧ RepD K H v d
  | _, [], _, _, e => nomatch e
  | _, (m, d) :: ds, _, h, e => by
    cases h with
    | cons h1 h2 =>
      rw [List.lookup_cons] at e ⊢
      cases q : (n == m) with
      | true =>
        rw [q] at e
        cases e
        exact ⟨_, rfl, h1⟩
      | false =>
        rw [q] at e
        exact RepF.at h2 e
end
section
variable {f g : Ev} {env : En} {cs : List Cell} {x n : Str} {d : Dt} {Ds : List Addr} {C : Addr} {l : List (Str × Dt)}
theorem k_r1e : sRaise1 x n g env cs = rb (g env cs) (mRaise1 x n) := mb _ _ _
theorem k_r1 : mRaise1 x n (.dat d) cs = .exc ⟨x, [(n, d)]⟩ cs := (rfl)
theorem k_xfe : eXf Ds n f env cs = rb (f env cs) (mXf Ds n) := mb _ _ _
theorem k_xf (h : C ∈ Ds) : mXf Ds n (.dat (.exn C ((n, d) :: l))) cs = .ok (.dat d) cs := by
  unfold mXf wXf
  dsimp only
  rw [if_pos (decide_eq_true h), List.lookup_cons, beq_self_eq_true]
  rfl
end
def kApp2 (ws zs : List Wv) : M (List Wv) := M.ret (ws ++ zs)
def kApp (np : Nat) (h : EvA) (env : En) (ws : List Wv) : M (List Wv) := if ws.length = np then M.bind (h env) (kApp2 ws) else M.bad
def aApp (np : Nat) (g h : EvA) : EvA := fun env => M.bind (g env) (kApp np h env)
section
variable [TabT] {X : Cx} {E : XK} {gd : Bool} {k np : Nat} {f : Addr} {fd : FuncData} {ps ks : List Str} {m : Fn} {x : Str} {e : Expr} {es : List Expr} {kws : List Keyword} {g h : EvA} {p pos : Pos}
theorem RepWs.more {K : Frag} {ω ω' : Wo} {vs us : List V} {ws zs : List Wv} (a : RepWs K ω vs ws) (l : Le ω ω') (b : RepWs K ω' us zs) : RepWs K ω' (vs ++ us) (ws ++ zs) := (a.mono l).app b
end
section
variable {g h : EvA} {env : En} {cs : List Cell} {np : Nat} {u v : Wv} {ws zs : List Wv}
theorem s_aapp : aApp np g h env cs = rb (g env cs) (kApp np h env) := mb _ _ _
theorem k_app1 : kApp 1 h env [u] cs = rb (h env cs) (kApp2 [u]) := mb _ _ _
theorem k_app2 : kApp 2 h env [u, v] cs = rb (h env cs) (kApp2 [u, v]) := mb _ _ _
theorem k_appc1 : kApp2 [u] zs cs = .ok (u :: zs) cs := (rfl)
theorem k_appc2 : kApp2 [u, v] zs cs = .ok (u :: v :: zs) cs := (rfl)
end
end DX
namespace DX
open PySem PySem.Spec PyProof.Rows L2
section
variable [TabT] {X : Cx} {E : XK} {a b e e2 e3 : Expr} {f : Ev} {g ga : EvA} {tg : Expr} {p p2 pos pos2 apos cpos : Pos}
theorem RepWs.reverse {K : Frag} {ω : Wo} : ∀ {vs : List V} {ws : List Wv}, RepWs K ω vs ws → RepWs K ω vs.reverse ws.reverse
  | _, _, .nil => .nil
  | _, _, .cons h r => by
    rw [List.reverse_cons, List.reverse_cons]
    exact (RepWs.reverse r).app (.cons h .nil)
end
end DX
namespace DX
open PySem PySem.Spec PyProof.Rows L2
section
variable [TabT] {X : Cx} {E : XK} {pos : Pos}
theorem evV (i : Nat) {x : Str} (hN : X.N[i]? = some x := by rfl) (hv : Vis X.env.scope x := by first | exact .inl rfl | exact .inr (.inl rfl) | exact .inr (.inr rfl)) (hd : (x == ("__debug__" : Str)) = false := by decide) (hcd : (x == ("__classdict__" : Str)) = false := by decide) : EV X E (.Name x pos) (eVar i) := ev_var hN hv hd hcd
end
def mPutL (x y w : Wv) : M Unit := fun cs => match x, y with
  | .cel k, .dat (.int i) => match cs[k]? with
    | some (.lst l) => match ixN l.length i with
      | some j => .ok () (cs.set k (.lst (l.set j w)))
      | none => .bad
    | _ => .bad
  | _, _ => .bad
theorem RepWs.put {K : Frag} {ω : Wo} {vs : List V} {ws : List Wv} (r : RepWs K ω vs ws) {v : V} {w : Wv} (h : RepW K ω v w) : ∀ j : Nat, RepWs K ω (vs.set j v) (ws.set j w) := by
  induction r with
  | nil => intro j; exact .nil
  | cons h1 h2 ih =>
    intro j
    cases j with
    | zero => exact .cons h h2
    | succ j => exact .cons h1 (ih j)
end DX
namespace DX
open PySem PySem.Spec PyProof.Rows L2
structure ZSt (h : Heap) (z TI TO i1 i2 l1 l2 S : Addr) (us ws : List Value) (i : Nat) : Prop where
  ti : IsPair h TI (.ref i1) (.ref i2)
  h1 : h.IsListIter i1 l1 i
  h2 : h.IsListIter i2 l2 i
  g1 : h.IsList l1 us.toArray
  g2 : h.IsList l2 ws.toArray
  st : (IsZip h z TI TO .none ∧ ∃ a b, IsPair h TO a b) ∨ ∃ T f oT, IsZipHeld h z TI TO T f ∧ h.get? T = some oT ∧ T ≠ z ∧ T ≠ i1 ∧ T ≠ i2 ∧ T ≠ S
structure ZOff (z TI TO i1 i2 l1 l2 S : Addr) : Prop where
  z : S ≠ z
  ti : S ≠ TI
  to : S ≠ TO
  i1 : S ≠ i1
  i2 : S ≠ i2
  l1 : S ≠ l1
  l2 : S ≠ l2
theorem ZSt.frame {h h' : Heap} {z TI TO i1 i2 l1 l2 S : Addr} {us ws : List Value} {i : Nat} (o : ZOff z TI TO i1 i2 l1 l2 S) (st : ZSt h z TI TO i1 i2 l1 l2 S us ws i) (hk : ∀ b ob, b ≠ S → h.get? b = some ob → h'.get? b = some ob) : ZSt h' z TI TO i1 i2 l1 l2 S us ws i := by
  obtain ⟨a1, a2, a3, a4, a5, a6⟩ := st
  refine ⟨hk _ _ (Ne.symm o.ti) a1, a2.at fun q e => hk _ q (Ne.symm o.i1) e, a3.at fun q e => hk _ q (Ne.symm o.i2) e, a4.at fun q e => hk _ q (Ne.symm o.l1) e, a5.at fun q e => hk _ q (Ne.symm o.l2) e, ?_⟩
  rcases a6 with ⟨hz, a, b, hTO⟩ | ⟨T, f, oT, hz, hT, r1, r2, r3, r4⟩
  · exact .inl ⟨hk _ _ (Ne.symm o.z) hz, a, b, hk _ _ (Ne.symm o.to) hTO⟩
  · exact .inr ⟨T, f, oT, hk _ _ (Ne.symm o.z) hz, hk _ _ r4 hT, r1, r2, r3, r4⟩
end DX
namespace DX
open PySem PySem.Spec PyProof.Rows L2
def gO (x y : Wv) (cs : List Cell) : Option (Option Wv) := match x, y with
  | .dat (.dic l), .dat d => (keyOf d).map fun k => (valK l k).map .dat
  | .dat (.dit l), .dat d => (keyT d).map fun k => (valT l k).map .dat
  | .cel i, .dat d => match cs[i]? with
    | some (.dic l) => (keyOf d).map fun k => valK l k
    | some (.lck l) => (keyOf d).map fun k => valK l k
    | some (.dit _ l) => (keyT d).map fun k => valT l k
    | _ => none
  | _, _ => none
def isDicO (x : Wv) (cs : List Cell) : Bool := match x with
  | .dat (.dic _) => true
  | .dat (.dit _) => true
  | .cel i => match cs[i]? with
    | some (.dic _) => true
    | some (.lck _) => true
    | some (.dit _ _) => true
    | _ => false
  | _ => false
/-- the look-up's answer and its reading -/
def RepO (K : Frag) (ω : Wo) (r : Option V) (o : Option Wv) : Prop := match o with
  | some w => ∃ v, r = some v ∧ RepW K ω v w
  | none => r = none
def mGet (x y : Wv) : M (Option Wv) := fun cs => M.opt (gO x y cs) cs
def isDM (x : Wv) : M Unit := fun cs => if isDicO x cs = true then .ok () cs else .bad
def eHasT (neg : Bool) (f g : Ev) : Ev := fun env => M.bind (f env) fun x => M.bind (g env) fun y => M.bind (mGet y x) fun o => M.ret (.dat (.bl (if neg then !o.isSome else o.isSome)))
def eGet2 (f g h : Ev) : Ev := fun env => M.bind (f env) fun x => M.bind (isDM x) fun _ => M.bind (g env) fun y => M.bind (h env) fun z => M.bind (mGet x y) fun o => M.ret (o.getD z)
section
variable [TabT] {X : Cx} {E : XK} {a b c : Expr} {f g h : Ev} {pos apos cpos : Pos}
theorem RepO.some {K : Frag} {ω : Wo} {r : Option V} {o : Option Wv} (h : RepO K ω r o) : r.isSome = o.isSome := by
  cases o with
  | none => rw [show r = none from h]; rfl
  | some w => obtain ⟨v, rfl, _⟩ := h; rfl
theorem RepO.getD {K : Frag} {ω : Wo} {r : Option V} {o : Option Wv} {d : V} {z : Wv} (h : RepO K ω r o) (hd : RepW K ω d z) : RepW K ω (r.getD d) (o.getD z) := by
  cases o with
  | none => rw [show r = none from h]; exact hd
  | some w => obtain ⟨v, rfl, hv⟩ := h; exact hv
end
def putT {α : Type} (l : List (List Key × α)) (k : List Key) (w : α) : List (List Key × α) := if (l.any fun p => decide (p.1 = k)) = true then l.map (fun p => if p.1 = k then (p.1, w) else p) else l ++ [(k, w)]
theorem RepWt.any {K : Frag} {ω : Wo} {vs : List (List Key × V)} {ws : List (List Key × Wv)} (r : RepWt K ω vs ws) (k : List Key) : (vs.any fun p => decide (p.1 = k)) = ws.any fun p => decide (p.1 = k) := by
  induction r with
  | nil => rfl
  | cons _ _ ih => simp only [List.any_cons, ih]
theorem RepWt.map {K : Frag} {ω : Wo} {k : List Key} {v : V} {w : Wv} {vs : List (List Key × V)} {ws : List (List Key × Wv)} (r : RepWt K ω vs ws) (h : RepW K ω v w) : RepWt K ω (vs.map fun p => if p.1 = k then (p.1, v) else p) (ws.map fun p => if p.1 = k then (p.1, w) else p) := by
  induction r with
  | nil => exact .nil
  | @cons k' v' vs' w' ws' h1 _ ih =>
    simp only [List.map_cons]
    by_cases e : k' = k
    · simp only [e, if_true]
      exact .cons h ih
    · simp only [e, if_false]
      exact .cons h1 ih
theorem RepWt.app {K : Frag} {ω : Wo} {vs us : List (List Key × V)} {ws zs : List (List Key × Wv)} (r : RepWt K ω vs ws) (q : RepWt K ω us zs) : RepWt K ω (vs ++ us) (ws ++ zs) := by
  induction r with
  | nil => exact q
  | cons h1 _ ih => exact .cons h1 ih
theorem RepWt.put {K : Frag} {ω : Wo} {k : List Key} {v : V} {w : Wv} {vs : List (List Key × V)} {ws : List (List Key × Wv)} (r : RepWt K ω vs ws) (h : RepW K ω v w) : RepWt K ω (putK vs k v) (putT ws k w) := by
  unfold putK putT
  rw [r.any k]
  split
  · exact r.map h
  · exact r.app (.cons h .nil)
theorem RepWt.len {K : Frag} {ω : Wo} {vs : List (List Key × V)} {ws : List (List Key × Wv)} (r : RepWt K ω vs ws) : vs.length = ws.length := by
  induction r with
  | nil => rfl
  | cons _ _ ih => simp [ih]
def mPutT (x y w : Wv) : M Unit := fun cs => match x, y with
  | .cel k, .dat y => match cs[k]?, keyT y with
    | some (.dit false l), some key => if decide (l.length < 16777216) = true then .ok () (cs.set k (.dit false (putT l key w))) else .bad
    | _, _ => .bad
  | _, _ => .bad
def sPutT (fo fi fv : Ev) : Sv := fun env => M.bind (fv env) fun w => M.bind (fo env) fun x => M.bind (fi env) fun y => M.bind (mPutT x y w) fun _ => M.ret (.nx env)
/-- l[i], m[j] = pair -/
def sPutTup (fo fi go gi fv : Ev) : Sv := fun env => M.bind (fv env) fun w => match w with
  | .dat (.tup [d, e]) => M.bind (fo env) fun x => M.bind (fi env) fun y => M.bind (mPutL x y (.dat d)) fun _ => M.bind (go env) fun x' => M.bind (gi env) fun y' => M.bind (mPutL x' y' (.dat e)) fun _ => M.ret (.nx env)
  | _ => M.bad
/-- l[i] = m[j] = x -/
def sPut2 (fo fi go gi fv : Ev) : Sv := fun env => M.bind (fv env) fun w => M.bind (fo env) fun x => M.bind (fi env) fun y => M.bind (mPutL x y w) fun _ => M.bind (go env) fun x' => M.bind (gi env) fun y' => M.bind (mPutL x' y' w) fun _ => M.ret (.nx env)
def frzAll : List Wv → M (List Dt)
  | [] => M.ret []
  | w :: ws => M.bind (mFrz w) fun x => match x with
    | .dat d => M.bind (frzAll ws) fun ds => M.ret (d :: ds)
    | .cel _ => M.bad
/-- a live list of live lists -/
def mFrz2 (w : Wv) : M Wv := fun cs => match w with
  | .cel k => match cs[k]? with
    | some (.lst ws) => M.bind (frzAll ws) (fun ds => fun cs' => if cs'[k]? = none then .bad else match cs'[k]? with
      | some (.lst _) => .ok (.dat (.lst ds)) (cs'.set k .dead)
      | _ => .bad) cs
    | _ => .bad
  | _ => .bad
def eFrz2 (f : Ev) : Ev := fun env => M.bind (f env) mFrz2
end DX
namespace DX
open PySem PySem.Spec PyProof.Rows L2
def loopD (put : Wv → Wv → Wv → M Unit) (c : Wv) (t : Tg) (p : EvT) (fk fv : Ev) (env : En) : List Wv → M Unit
  | [] => M.ret ()
  | w :: ws => M.bind (M.opt (t w env)) fun env' => M.bind (M.nx (p env')) fun b => if b = true then M.bind (M.nx (fk env')) fun y => M.bind (M.nx (fv env')) fun z => M.bind (put c y z) fun _ => loopD put c t p fk fv env ws else loopD put c t p fk fv env ws
/-- a dict comprehension: the new dict is a cell -/
def eDc (e0 : Cell) (put : Wv → Wv → Wv → M Unit) (fi : EvI) (t : Tg) (p : EvT) (fk fv : Ev) (own : List Nat) : Ev := fun env => M.bind (fi env) fun ws => if szOk ws.length = true then M.bind (mCell e0) fun c => M.bind (loopD put c t p fk fv (wipeE env own) ws) fun _ => M.ret c else M.bad
end DX
namespace DX
open PySem PySem.Spec PyProof.Rows L2
def kMulA (x y : Wv) : M (List Wv) := match x, y with
  | .dat (.lst z), .dat (.int n) => if (decide (0 ≤ n) && decide (n ≤ 16777216) && szOk (z.length * n.toNat)) = true then M.ret ((List.replicate n.toNat z).flatten.map .dat) else M.bad
  | _, _ => M.bad
def fMul (f g : Ev) : EvF := fun env => M.bind (f env) fun x => M.bind (g env) fun y => kMulA x y
section
variable {d x y z : Dt} {u v w : Wv} {cs cs1 : List Cell} {env : En} {f g h : Ev} {fo fi go gi fv : Ev} {i j : Nat} {o : Option Wv} {neg : Bool} {b : Bool} {kt : List (List Key × Wv)} {ky : List Key} {n : Int} {zs : List Dt}
def rH (neg : Bool) (o : Option (Option Wv)) (cs : List Cell) : R Wv := match o with
  | some o => .ok (.dat (.bl (if neg then !o.isSome else o.isSome))) cs
  | none => .bad
def rG (o : Option (Option Wv)) (z : Wv) (cs : List Cell) : R Wv := match o with
  | some o => .ok (o.getD z) cs
  | none => .bad
def kHasT (neg : Bool) (g : Ev) (env : En) (x : Wv) : M Wv := M.bind (g env) fun y => M.bind (mGet y x) fun o => M.ret (.dat (.bl (if neg then !o.isSome else o.isSome)))
def kHasT2 (neg : Bool) (x y : Wv) : M Wv := M.bind (mGet y x) fun o => M.ret (.dat (.bl (if neg then !o.isSome else o.isSome)))
theorem s_hasT : eHasT neg f g env cs = rb (f env cs) (kHasT neg g env) := mb _ _ _
theorem k_hasT : kHasT neg g env u cs = rb (g env cs) (kHasT2 neg u) := mb _ _ _
theorem k_hasT2 : kHasT2 neg u v cs = rH neg (gO v u cs) cs := by
  unfold kHasT2 rH
  rw [mb]
  unfold mGet
  cases gO v u cs <;> rfl
theorem k_rH : rH neg (some o) cs = .ok (.dat (.bl (if neg then !o.isSome else o.isSome))) cs := (rfl)
def kGet2 (g h : Ev) (env : En) (x : Wv) : M Wv := M.bind (isDM x) fun _ => M.bind (g env) fun y => M.bind (h env) fun z => M.bind (mGet x y) fun o => M.ret (o.getD z)
def kGet2b (h : Ev) (env : En) (x y : Wv) : M Wv := M.bind (h env) fun z => M.bind (mGet x y) fun o => M.ret (o.getD z)
def kGet2c (x y z : Wv) : M Wv := M.bind (mGet x y) fun o => M.ret (o.getD z)
theorem s_get2 : eGet2 f g h env cs = rb (f env cs) (kGet2 g h env) := mb _ _ _
theorem k_get2 (hd : isDicO u cs = true) : kGet2 g h env u cs = rb (g env cs) (kGet2b h env u) := by
  unfold kGet2
  rw [mb]
  unfold isDM
  rw [if_pos hd]
  exact mb _ _ _
theorem k_get2b : kGet2b h env u v cs = rb (h env cs) (kGet2c u v) := mb _ _ _
theorem k_get2c : kGet2c u v w cs = rG (gO u v cs) w cs := by
  unfold kGet2c rG
  rw [mb]
  unfold mGet
  cases gO u v cs <;> rfl
theorem k_rG : rG (some o) w cs = .ok (o.getD w) cs := (rfl)
theorem cix_dit : cIx (some (.dit b kt)) y = (keyT y).bind fun k => valT kt k := (rfl)
def kPutT (fo fi : Ev) (env : En) (w : Wv) : M Fl := M.bind (fo env) fun x => M.bind (fi env) fun y => M.bind (mPutT x y w) fun _ => M.ret (.nx env)
def kPutT2 (fi : Ev) (env : En) (w x : Wv) : M Fl := M.bind (fi env) fun y => M.bind (mPutT x y w) fun _ => M.ret (.nx env)
def kPutT3 (env : En) (w x y : Wv) : M Fl := M.bind (mPutT x y w) fun _ => M.ret (.nx env)
theorem s_putT : sPutT fo fi f env cs = rb (f env cs) (kPutT fo fi env) := mb _ _ _
theorem k_putT : kPutT fo fi env w cs = rb (fo env cs) (kPutT2 fi env w) := mb _ _ _
theorem k_putT2 : kPutT2 fi env w u cs = rb (fi env cs) (kPutT3 env w u) := mb _ _ _
theorem k_putT3 : kPutT3 env w u v cs = rb (mPutT u v w cs) (kPut4 env) := mb _ _ _
def kLA (fo fi : Ev) (env : En) (k : M Fl) (w : Wv) : M Fl := M.bind (fo env) fun x => M.bind (fi env) fun y => M.bind (mPutL x y w) fun _ => k
def kLB (fi : Ev) (env : En) (k : M Fl) (w x : Wv) : M Fl := M.bind (fi env) fun y => M.bind (mPutL x y w) fun _ => k
def kLC (k : M Fl) (w x y : Wv) : M Fl := M.bind (mPutL x y w) fun _ => k
def kLD (k : M Fl) (_ : Unit) : M Fl := k
def kNx (env : En) : M Fl := M.ret (.nx env)
def kP2 (fo fi go gi : Ev) (env : En) (w : Wv) : M Fl := kLA fo fi env (kLA go gi env (kNx env) w) w
def kPT (fo fi go gi : Ev) (env : En) (w : Wv) : M Fl := match w with
  | .dat (.tup [d, e]) => kLA fo fi env (kLA go gi env (kNx env) (.dat e)) (.dat d)
  | _ => M.bad
theorem s_put2 : sPut2 fo fi go gi fv env cs = rb (fv env cs) (kP2 fo fi go gi env) := mb _ _ _
theorem k_p2 : kP2 fo fi go gi env w cs = kLA fo fi env (kLA go gi env (kNx env) w) w cs := (rfl)
theorem s_putTup : sPutTup fo fi go gi fv env cs = rb (fv env cs) (kPT fo fi go gi env) := by
  unfold sPutTup
  rw [mb]
  congr 1
theorem k_pt : kPT fo fi go gi env (.dat (.tup [x, y])) cs = kLA fo fi env (kLA go gi env (kNx env) (.dat y)) (.dat x) cs := (rfl)
variable {k : M Fl}
theorem k_la : kLA fo fi env k w cs = rb (fo env cs) (kLB fi env k w) := mb _ _ _
theorem k_lb : kLB fi env k w u cs = rb (fi env cs) (kLC k w u) := mb _ _ _
theorem k_lcc : kLC k w u v cs = rb (mPutL u v w cs) (kLD k) := mb _ _ _
theorem k_ld {un : Unit} : kLD k un cs = k cs := (rfl)
theorem k_nx : kNx env cs = .ok (.nx env) cs := (rfl)
def kMul (g : Ev) (env : En) (x : Wv) : M (List Wv) := M.bind (g env) fun y => kMulA x y
theorem s_fmul : fMul f g env cs = rb (f env cs) (kMul g env) := mb _ _ _
theorem k_mul : kMul g env u cs = rb (g env cs) (kMulA u) := mb _ _ _
theorem k_mulA (h0 : 0 ≤ n) (h1 : zs.length * n.toNat ≤ 16777216) (h2 : n ≤ 16777216) : kMulA (.dat (.lst zs)) (.dat (.int n)) cs = .ok ((List.replicate n.toNat zs).flatten.map .dat) cs := by
  unfold kMulA
  dsimp only
  rw [if_pos (by simp only [Bool.and_eq_true, decide_eq_true_eq]; exact ⟨⟨h0, h2⟩, decide_eq_true h1⟩)]
  rfl
theorem s_frz2 : eFrz2 f env cs = rb (f env cs) mFrz2 := mb _ _ _
variable {e0 : Cell} {put : Wv → Wv → Wv → M Unit} {gi0 : EvI} {t : Tg} {p : EvT} {fk : Ev} {own : List Nat} {ws : List Wv}
def kDc (e0 : Cell) (put : Wv → Wv → Wv → M Unit) (t : Tg) (p : EvT) (fk fv : Ev) (own : List Nat) (env : En) (ws : List Wv) : M Wv := if szOk ws.length = true then M.bind (mCell e0) fun c => M.bind (loopD put c t p fk fv (wipeE env own) ws) fun _ => M.ret c else M.bad
def kDcR (c : Wv) (_ : Unit) : M Wv := M.ret c
theorem s_dc : eDc e0 put gi0 t p fk fv own env cs = rb (gi0 env cs) (kDc e0 put t p fk fv own env) := mb _ _ _
theorem k_dc (h : ws.length ≤ 16777216) : kDc e0 put t p fk fv own env ws cs = rb (loopD put (.cel cs.length) t p fk fv (wipeE env own) ws (cs ++ [e0])) (kDcR (.cel cs.length)) := by
  unfold kDc szOk
  rw [if_pos (decide_eq_true h), mb]
  exact mb _ _ _
theorem k_dcr {un : Unit} : kDcR u un cs = .ok u cs := (rfl)
theorem k_frzT {ks : List (List Key × Dt)} (hc : cs[i]? = some (.dit false kt)) (hd : datT kt = some ks) : mFrz (.cel i) cs = .ok (.dat (.dit ks)) (cs.set i .dead) := by
  unfold mFrz
  dsimp only
  rw [hc]
  show (match (datT kt).map Dt.dit with
    | some d => R.ok (Wv.dat d) (cs.set i .dead)
    | none => .bad) = _
  rw [hd]
  rfl
end
end DX
namespace DX
open PySem PySem.Spec PyProof.Rows L2
def sAug (o : Dt → Dt → Option Dt) (i : Nat) (f : Ev) : Sv := fun env cs => match env[i]? with
  | some (some x) => M.bind (f env) (fun y => M.bind (liftB o x y) fun z => M.ret (.nx (env.set i (some z)))) cs
  | _ => .bad
section
variable {env : En} {cs : List Cell} {f : Ev} {o : Dt → Dt → Option Dt} {i : Nat} {w : Wv} {z : Dt}
def kAug (o : Dt → Dt → Option Dt) (i : Nat) (f : Ev) (env : En) (ow : Option (Option Wv)) : M Fl := fun cs => match ow with
  | some (some x) => M.bind (f env) (fun y => M.bind (liftB o x y) fun z => M.ret (.nx (env.set i (some z)))) cs
  | _ => .bad
def kAug2 (o : Dt → Dt → Option Dt) (i : Nat) (env : En) (x y : Wv) : M Fl := M.bind (liftB o x y) fun z => M.ret (.nx (env.set i (some z)))
def kAug3 (i : Nat) (env : En) (z : Wv) : M Fl := M.ret (.nx (env.set i (some z)))
theorem s_aug : sAug o i f env cs = kAug o i f env env[i]? cs := (rfl)
theorem k_aug : kAug o i f env (some (some w)) cs = rb (f env cs) (kAug2 o i env w) := mb _ _ _
theorem k_aug2 {x y : Wv} : kAug2 o i env x y cs = rb (liftB o x y cs) (kAug3 i env) := mb _ _ _
theorem k_aug3 : kAug3 i env w cs = .ok (.nx (env.set i (some w))) cs := (rfl)
end
end DX
namespace DX
open PySem PySem.Calls PyProof.Rows PySem.W PySem.SeqAt
section
variable {A : Around} {s : Shared}
variable {prog : Program} {w : World} {E : Value → Shared → Prop}
abbrev encW (ns : List Int) : PyData := .tuple (ns.map .int)
theorem reads_ints {h : Heap} : ∀ {vs : List Value} {ns : List Int}, IntsAre vs ns → ∃ as, ReadsAll h vs (ns.map PyData.int) as
  | _, _, .nil => ⟨_, .nil⟩
  | _, _, .cons n t i => by
    obtain ⟨as, r⟩ := reads_ints (h := h) i
    exact ⟨_, .cons (.int n t) r⟩
theorem reads_tup {h : Heap} {v : Value} {ns : List Int} (t : TS.TupInts h v ns) : ∃ as, Reads h v (encW ns) as := by
  obtain ⟨a, xs, rfl, ⟨o, ho, hc, n, hd⟩, i⟩ := t
  obtain ⟨as, r⟩ := reads_ints (h := h) i
  exact ⟨_, .tuple ho hc hd r⟩
theorem depth_encW (a : List Int) : (encW a).depth ≤ 1 := by
  simp only [PyData.depth, depth_ints]
  omega
end
end DX
namespace DX
open PySem PySem.Spec PyProof.Rows L2
theorem lamO_ok {P : Program} {w : World} {H : Hp} {h : Heap} {f c' : Addr} {L : LamK} {pm ctv : Value} (e : h.get? f = some (PySem.W.kla_obj "<lambda>" L.q L.pa L.bd L.sc (cloFrom L.cl L.sc.names []) pm c' ctv)) : ObjOk P w H h f (LamO f c' L) :=
  ⟨⟨pm, ctv, e⟩, ⟨_, e⟩, fun _ _ ⟨pm, ctv, q⟩ k => ⟨pm, ctv, k _ q⟩⟩
section
variable {X : Cx} {pins : List (Addr × Obj)} {σ : L2.St} {H HZ : Hp} {s : Shared}
/-- the lambda is made and known from now on -/
theorem lam_new {T : List (Addr × Str)} {c P : Addr} {params : Arguments} {body : Expr} {scope : Scope} {pos : Pos} {E : Value → Shared → Prop} {Q : Value → Shared → Prop} (I : Inv X pins σ H s) (TB : LamX.TabB X.base X.mg c P) (hcode : X.env.code = .ref c)
    (hm : (P, X.env.qual ++ "<lambda>") ∈ T) (hu : ∀ p ∈ T, p.1 = P → p.2 = X.env.qual ++ "<lambda>") (hT : LamX.Tabs T H) (hdef : defaultsOf params X.env = ([], [])) (hfree : ∀ y ∈ scope.names, y.2 = .free → ∃ c, X.env.cells.lookup y.1 = some c)
    (h : ∀ (f c' : Addr) (H1 : Hp) (s' : Shared), LamX.ExtN H H1 → LamX.Tabs T H1 → H1 c' = some (LamX.CodeO c' (X.env.qual ++ "<lambda>")) → H1 f = none → Inv X pins σ (upd H1 f (LamO f c' ⟨X.env.qual ++ "<lambda>", params, body, scope, X.env.cells⟩)) s' → Q (.ref f) s') :
    wpAny (model X.prog X.w) X.A (eval (.Lambda params body scope pos) X.env) Q E s := by
  obtain ⟨ps, hP, ht, ha⟩ := hT _ hm
  have hP' : s.heap.get? P = some { cls := .none, data := .fields ps } := I.hok P _ hP
  have bP : s.heap.BuiltinsAt X.mg P := TB.bm.keeps I.bk
  have go : ∀ (c' : Addr) (ctv pm : Value) (h' : Heap) (tk : Nat) (H1 : Hp), s.heap.objs.size ≤ h'.objs.size → LamX.ExtN H H1 → LamX.Tabs T H1 → H1 c' = some (LamX.CodeO c' (X.env.qual ++ "<lambda>")) → Inv X pins σ H1 { s with heap := h', toks := tk } →
      Q (.ref h'.objs.size) { s with heap := h'.push (PySem.W.kla_obj "<lambda>" (X.env.qual ++ "<lambda>") params body scope (cloFrom X.env.cells scope.names []) pm c' ctv), toks := tk } := fun c' ctv pm h' tk H1 hsz hE hT1 hc I1 => by
    have nf : H1 h'.objs.size = none := I1.hok.fresh (Nat.le_refl _)
    refine h h'.objs.size c' H1 _ hE hT1 hc nf ?_
    exact I1.laid (t' := tk) (h' := h'.push (PySem.W.kla_obj "<lambda>" (X.env.qual ++ "<lambda>") params body scope (cloFrom X.env.cells scope.names []) pm c' ctv)) (fun b o e => Heap.get?_push_of_some _ e) (Nat.le_refl _) (lamO_ok (L := ⟨X.env.qual ++ "<lambda>", params, body, scope, X.env.cells⟩) (pm := pm) (ctv := ctv) (Heap.get?_push_size _ rfl))
  refine PySem.W.kla_eval hdef ?_
  cases hc : codeAmong pos ps.toList with
  | some cv =>
    obtain ⟨c', e, hco⟩ := ha pos cv hc
    subst e
    refine PySem.W.kla_makeFunctionHit (mg := X.mg) (c := c) (P := P) (ps := ps) (closure_ok hfree) I.ok.glob (I.mod.glob.keeps I.bk) hcode (TB.code.keeps I.bk) hP' ht hc bP fun ctv h' tk hx hsz => ?_
    exact go c' ctv _ h' tk H hsz (LamX.ExtN.refl H) hT hco (I.kept fun b o e => hx b o e)
  | none =>
    refine PySem.W.kla_makeFunction (mg := X.mg) (c := c) (P := P) (ps := ps) (closure_ok hfree) I.ok.glob (I.mod.glob.keeps I.bk) hcode (TB.code.keeps I.bk) hP' ht hc TB.gP bP fun c' ctv h' tk hx hge hlt hrec htb => ?_
    obtain ⟨c2, oc, vs, t, e2, hoc, hd, hv⟩ := hrec
    cases e2
    have nC : H c' = none := I.hok.fresh hge
    have hE : LamX.ExtN H (upd (upd H P (.tbl (ps ++ #[rawInt pos.line, rawInt pos.col, .ref c']))) c' (LamX.CodeO c' (X.env.qual ++ "<lambda>"))) := fun b o e n => by
      rw [upd_ne (ne_of_none e nC), upd_ne (fun z => n ps (Option.some.inj (e.symm.trans (by rw [z]; exact hP))))]
      exact e
    refine go c' ctv _ h' tk _ (Nat.le_trans hge (Nat.le_of_lt hlt)) hE (fun p hp => ?_) upd_same (LamX.inv_table (t' := tk) (more := #[rawInt pos.line, rawInt pos.col, .ref c']) I hP (fun b o hb e => hx b o hb e) htb hge ⟨oc, vs, t, hoc, hd, hv⟩)
    by_cases hb : p.1 = P
    · rw [hu p hp hb, hb]
      refine ⟨_, by rw [upd_ne (ne_of_none hP nC), upd_same], ?_, fun p' cv hcv => ?_⟩
      · rw [show (ps ++ #[rawInt pos.line, rawInt pos.col, .ref c']).toList = ps.toList ++ [rawInt pos.line, rawInt pos.col, .ref c'] by simp]
        exact PySem.TriplesOk_snoc _ _ _ _ ht
      · rw [show (ps ++ #[rawInt pos.line, rawInt pos.col, .ref c']).toList = ps.toList ++ [rawInt pos.line, rawInt pos.col, .ref c'] by simp] at hcv
        rcases LamX.among_app _ ht hcv with z | z
        · obtain ⟨c0, e1, e2⟩ := ha p' cv z
          exact ⟨c0, e1, hE _ _ e2 LamX.codeO_ne⟩
        · exact ⟨c', z, upd_same⟩
    · obtain ⟨ps', a1, a2, a3⟩ := hT p hp
      refine ⟨ps', by rw [upd_ne (ne_of_none a1 nC), upd_ne hb]; exact a1, a2, fun p' cv hcv => ?_⟩
      obtain ⟨c0, e1, e2⟩ := a3 p' cv hcv
      exact ⟨c0, e1, hE _ _ e2 LamX.codeO_ne⟩
end
section
variable [TabT] {K : Frag} {ω : Wo} {H : Hp} {cs : List Cell}
/-- what is known of an object becomes known for good -/
theorem Ok.adoptX {q : Addr} {φ : Heap → Prop} (k : Ok K ω H cs) (hq : H q = some (.ext φ)) : ∃ ω', Le ω ω' ∧ Ok K ω' H cs ∧ ω'.Hs q = some (.ext φ) := by
  have hf : ω.fr q = none := by
    cases e : ω.fr q with
    | none => rfl
    | some o =>
      have e2 := k.frx q o e
      rw [hq] at e2
      cases e2
      exact (k.nf q _ e).elim
  cases e : ω.Hs q with
  | some o =>
    have e2 := k.ex q o e
    rw [hq] at e2
    cases e2
    exact ⟨ω, Le.refl ω, k, e⟩
  | none =>
    have le : Le ω ⟨upd ω.Hs q (.ext φ), ω.ad, ω.T, ω.fr⟩ := ⟨Ex.new e, List.prefix_refl _, rfl, rfl⟩
    refine ⟨⟨upd ω.Hs q (.ext φ), ω.ad, ω.T, ω.fr⟩, le, ⟨fun a u h => ?_, k.len, k.nd, fun i a c e1 e2 => ?_, k.tab, k.frx, fun a u h => ?_, fun a u h => ?_, k.nf, k.lk⟩, upd_same⟩
    · have h : upd ω.Hs q (.ext φ) a = some u := h
      by_cases ha : a = q
      · rw [ha, upd_same] at h
        cases h
        rw [ha]
        exact hq
      · rw [upd_ne ha] at h
        exact k.ex a u h
    · have z := k.cel i a c e1 e2
      have ne : a ≠ q := fun ha => by
        subst ha
        cases c with
        | lst ws => obtain ⟨_, vs, h1, _⟩ := z; rw [hq] at h1; cases h1
        | dic ws => obtain ⟨_, vs, h1, _⟩ := z; rw [hq] at h1; cases h1
        | ins C ws => obtain ⟨_, dx, vs, h1, _⟩ := z; rw [hq] at h1; cases h1
        | dead => obtain ⟨o, h1⟩ := z; rw [e] at h1; cases h1
        | lck ws => obtain ⟨_, o, vs, _, h1, _⟩ := z; rw [hq] at h1; cases h1
        | dit b ws =>
          obtain ⟨_, vs, h1, _⟩ := z
          rcases h1.at with h1 | ⟨o, h1⟩ <;> rw [hq] at h1 <;> cases h1
      exact z.mono le (fun h => by show upd ω.Hs q _ a = none; rw [upd_ne ne]; exact h) fun _ h => h
    · have h : ω.fr a = some u := h
      show upd ω.Hs q _ a = none
      rw [upd_ne (ne_of_none h hf)]
      exact k.dj a u h
    · have h : upd ω.Hs q (.ext φ) a = some u := h
      by_cases ha : a = q
      · rw [ha, upd_same] at h
        cases h
        exact True.intro
      · rw [upd_ne ha] at h
        exact k.nt a u h
end
section
variable [TabT] {X : Cx} {E : XK}
def eLam (k : Nat) (L : LamK) : Ev := fun _ => M.ret (.dat (.lam k L))
end
end DX
namespace DX
open PySem PySem.Spec PyProof.Rows L2
def lamN : LamK := ⟨"", ⟨[], [], none, [], [], none, []⟩, .Constant .none 0 ⟨0, 0, 0, 0⟩, ⟨.function, [], false, false, []⟩, []⟩
end DX
set_option maxHeartbeats 3200000
namespace DX
open PySem PySem.Spec PyProof.Rows L2
theorem lam1_run {CX : CXT} {P : Program} {w : World} {K : PySem.W.Frag} {mg : Str → Option Value} {base : Heap} {k : Nat} {f c' : Addr} {q x : Str} {pa : Arguments} {bd : Expr} {sc : Scope} {pm ctv u : Value} {A : Around} {outer : List Env} {s : Shared} {H : Hp} {Q : VK} {E : XK} {N : List Str} {v : V} {tb : TE}
    (S : FnScope N [x] sc) (hbind : bindArgs (PySem.W.kla_fn "<lambda>" q pa bd sc [] pm (.ref c') ctv) ⟨[u], []⟩ = pure [(x, u)])
    (hr : Room (k + 1) A) (e0 : Env0 P w K mg base A outer s H) (of1 : s.heap.get? f = some (PySem.W.kla_obj "<lambda>" q pa bd sc [] pm c' ctv)) (hcd : s.heap.CodeRec (.ref c') q) (r : L2.RelV v u)
    (hbody : PE (cxOf CX P w K mg base N q sc f (.ref c') A outer s H E) bd tb) (ht : tb (L2.start N [v]) H Q) :
    codeAny (model P w) A (.call (.ref f) ⟨[u], []⟩) (CR CX outer P w H s Q E) s := by
  have lim : s.heap.NoLimit := e0.mod.nolimit.keeps fun b o e => (e0.bs b o e).1
  have hkind : ∀ y ∈ [(x, u)], sc.names.lookup y.1 = some .local ∨ (sc.names.lookup y.1 = some .cell ∧ ((cellsFrom (s.heap.objs.size + 1) sc.names []).lookup y.1).isSome = true) := fun y hy => by
    rw [List.mem_singleton.mp hy]
    rcases S.par x List.mem_cons_self with q | q
    · exact .inl q
    · exact .inr ⟨q, PySem.W.cellsFrom_some _ _ _ (.inl q)⟩
  refine PySem.W.kla_callFunE hr.depth of1 rfl S.co S.gen rfl hcd ?_
  rw [hbind]
  refine wpAny_pure (wpAny_newFunctionEnv_cells S.kind hkind fun env he s1 xx => ?_)
  subst he
  refine ⟨lim.keeps xx.toInCall.keep, PySem.W.kla_codeExpr ?_⟩
  have I : Inv (cxOf CX P w K mg base N q sc f (.ref c') A outer s H E) [] (L2.start N [v]) H s1 := inv_start S hr.hd e0 rfl (.cons r .nil) xx
  refine wpAny_mono (hbody.run [] s1 _ H Q I ht) (fun u' s' hs => ?_) fun e s' hs => hs
  obtain ⟨v', H', J, rv, hq⟩ := hs
  exact ⟨v', H', J.os, J.bare, J.base, J.hok, rv, hq⟩
/-- what the lambda's body reads -/
theorem key_body {X : Cx} {x : Str} {p1 p2 p3 p4 p5 : Pos} {tc : Nat} (hN : X.N[0]? = some x) (hv : Vis X.env.scope x) (hg : Gl X "len") (hm : X.mg "len" = none)
    (hd : (x == ("__debug__" : Str)) = false := by decide) (hc : (x == ("__classdict__" : Str)) = false := by decide) :
    PE X (.Tuple [.Call (.Name "len" p1) [.Name x p2] [] p3, .Name x p4] tc p5) (tTup (tCons (tCB (fun xs H Q => ∃ p ys, xs = [V.ref p] ∧ (SqL X.K H p ys ∨ SqT X.K H p ys) ∧ Q (.int ys.length) H) (tCons (tVar 0) tNil)) (tCons (tVar 0) tNil))) :=
  pe_tup (pa_cons (pe_callB call_len_seq hg hm (by rfl) (pa_cons (pe_var hN hv hd hc) pa_nil)) (pa_cons (pe_var hN hv hd hc) pa_nil))
section
variable {X : Cx} {pins : List (Addr × Obj)} {σ : L2.St} {H : Hp} {s : Shared}
/-- a lambda that tells (len(x), x) -/
structure KeyLam (X : Cx) (L : LamK) (x : Str) : Prop where
  S : FnScope [x] [x] L.sc
  cl : cloFrom L.cl L.sc.names [] = []
  bind : ∀ (pm cv ctv u : Value), bindArgs (PySem.W.kla_fn "<lambda>" L.q L.pa L.bd L.sc [] pm cv ctv) ⟨[u], []⟩ = pure [(x, u)]
  bd : ∃ (p1 p2 p3 p4 p5 : Pos) (tc : Nat), L.bd = .Tuple [.Call (.Name "len" p1) [.Name x p2] [] p3, .Name x p4] tc p5
  gl : L.sc.names.lookup ("len" : Str) = some .globalImplicit
  mg : X.mg "len" = none
  d1 : (x == ("__debug__" : Str)) = false
  d2 : (x == ("__classdict__" : Str)) = false
theorem key_call {f c' p : Addr} {L : LamK} {x : Str} {xs : List V} {k : Nat} {E : Value → Shared → Prop} {Q : Value → Shared → Prop} {A : Around} (KL : KeyLam X L x) (I : Inv X pins σ H s) (hr : Room (k + 1) A) (eA : Env0 X.prog X.w X.K X.mg X.base A X.stack s H)
    (hf : H f = some (LamO f c' L)) (hc : H c' = some (LamX.CodeO c' L.q)) (hp : H p = some (.tup xs))
    (h : ∀ (t : Addr) (tk : Tok) (c : Nat) (o : Obj) (s' : Shared), Inv X pins σ H s' → (∀ b o, s.heap.get? b = some o → b ∉ frs X.stack → s'.heap.get? b = some o) → s.heap.get? t = none → s'.heap.get? t = some o → o.cls = .type "tuple" → o.data = .seq #[.int xs.length tk, .ref p] c → Q (.ref t) s') :
    wpAny (model X.prog X.w) A (call (.ref f) [.ref p]) Q E s := by
  obtain ⟨its, rv, ⟨op, hop, hcl, n, hdt⟩, hz⟩ := I.tuple (SqT.of hp)
  obtain ⟨Hc, hHc⟩ : ∃ Hc : Hp, Hc = fun b => if b = p then some (.frz op (.tup xs)) else none := ⟨_, rfl⟩
  have hcp : Hc p = some (.frz op (.tup xs)) := by rw [hHc]; exact if_pos rfl
  have hcn : ∀ b, b ≠ p → Hc b = none := fun b hb => by rw [hHc]; exact if_neg hb
  have hok : HOk X.prog X.w Hc s.heap := fun a o ha => by
    by_cases hb : a = p
    · subst hb
      cases hcp.symm.trans ha
      exact ⟨hop, hz, its, rv, op, hop, hcl, n, hdt⟩
    · rw [hcn a hb] at ha
      cases ha
  have e0 : Env0 X.prog X.w X.K X.mg X.base A X.stack s Hc := ⟨eA.frames, eA.mod, fun b o e => ⟨(eA.bs b o e).1, hcn b (fun z => by
    have := (eA.bs b o e).2
    rw [z, hp] at this
    cases this)⟩, eA.bsz, eA.funs, fun b hb => hcn b (fun z => by
    have := eA.frf b hb
    rw [z, hp] at this
    cases this), hok, eA.bare⟩
  obtain ⟨⟨pm, ctv, of1⟩, _, _⟩ := I.hok f _ hf
  obtain ⟨⟨oc, vs, t0, hoc, hdc, hvc⟩, _, _⟩ := I.hok c' _ hc
  rw [KL.cl] at of1
  obtain ⟨p1, p2, p3, p4, p5, tc, hbd⟩ := KL.bd
  have rc : codeAny (model X.prog X.w) A (.call (.ref f) ⟨[.ref p], []⟩) (CR C8.CX0 X.stack X.prog X.w Hc s (fun v H' => ∃ t, v = V.ref t ∧ Hc t = none ∧ H' = upd Hc t (.tup [.int xs.length, .ref p])) C8.E0) s := by
    have KB := key_body (X := cxOf C8.CX0 X.prog X.w X.K X.mg X.base [x] L.q L.sc f (.ref c') A X.stack s Hc C8.E0) (x := x) (p1 := p1) (p2 := p2) (p3 := p3) (p4 := p4) (p5 := p5) (tc := tc) rfl ((KL.S.par x List.mem_cons_self).elim .inl fun q => .inr (.inl q)) KL.gl KL.mg KL.d1 KL.d2
    rw [← hbd] at KB
    refine lam1_run (N := [x]) (v := .ref p) KL.S (KL.bind pm _ ctv (.ref p)) hr e0 of1 ⟨c', oc, vs, t0, rfl, hoc, hdc, hvc⟩ rfl KB ?_
    exact ⟨.ref p, rfl, p, xs, rfl, .inr (.inl (.inr ⟨op, hcp⟩)), (.ref p), rfl, (by show 2 ≤ sizeLine; decide), fun t ht => ⟨t, rfl, ht, rfl⟩⟩
  refine wpAny_call (codeAny_mono rc fun r s' hq => ?_)
  cases r with
  | error e => exact (show False from hq).elim
  | ok fl =>
    cases fl with
    | next => exact False.elim hq
    | brk => exact False.elim hq
    | cont => exact False.elim hq
    | ret u =>
      obtain ⟨v, H', os, bare, un, hok', rv', t, rfl, htn, rfl⟩ := hq
      obtain rfl : u = Value.ref t := rv'
      have kept : ∀ b o, s.heap.get? b = some o → b ∉ frs X.stack → s'.heap.get? b = some o := fun b o e nb => by
        by_cases hb : b = p
        · subst hb
          obtain ⟨e3, _⟩ := hok' b _ (un.frzs b op (.tup xs) hcp)
          rw [hop] at e
          cases e
          exact e3
        · exact un.keep b o e (hcn b hb) nb (by simp)
      have nt : s.heap.get? t = none := by
        cases e : s.heap.get? t with
        | none => rfl
        | some o =>
          have z := un.free t o e htn (by simp)
          rw [upd_same] at z
          cases z
      obtain ⟨_, its2, rv2, o2, ho2, hc2, n2, hd2⟩ := hok' t _ upd_same
      obtain ⟨u1, u2, rfl, r1, r2⟩ := vals2 rv2
      obtain ⟨tk, rfl⟩ := r1
      obtain rfl : u2 = Value.ref p := r2
      have un2 : Un (frs X.stack) [] H H s.heap s'.heap := ⟨fun b o e n nb _ => kept b o e nb, fun b o e n hb _ => un.slot b o e (hcn b fun z => by rw [z, hp] at n; cases n) hb (by simp), fun b o e n _ => n, fun b o e _ => un.there b o e (by simp), fun _ _ e => e, fun _ _ _ e => e, fun b ps e => ⟨#[], by rw [e]; simp⟩⟩
      have hok2 : HOk X.prog X.w H s'.heap := fun a o ha => (I.hok a o ha).stay (fun b u hb e => kept b u e fun nb => by
        rcases hb with rfl | z
        · rw [eA.frf _ nb] at ha; cases ha
        · rw [eA.frf b nb] at z; cases z) (fun _ q => q) (fun _ _ q => q)
      exact h t tk n2 o2 s' (I.call' (ch := []) os un2 hok2 bare (fun b z => absurd z (by simp))) kept nt ho2 hc2 hd2
/-- a thing of ours has turned, two of them -/
theorem inv_moved {s1 s2 : Shared} {S J : Addr} (I1 : Inv X pins σ H s1) (hS : H S = none) (hJ : H J = none) (hch : ∀ b ∈ [S, J], (b ∈ X.ex ∨ X.s_0.heap.objs.size ≤ b) ∧ b ≠ X.env.locals ∧ (∀ x c, X.env.cells.lookup x = some c → c ≠ b) ∧ ∀ p ∈ X.pn ++ pins, p.1 ≠ b)
    (m : Moved [S, J] (fun a b => b = a) s1 s2) : Inv X pins σ H s2 := by
  have nh : ∀ b ∈ [S, J], H b = none := fun b hb => by
    rcases List.mem_cons.mp hb with rfl | hb
    · exact hS
    · rw [List.mem_singleton.mp hb]; exact hJ
  refine I1.call' (ch := [S, J]) m.os ⟨fun b o e _ _ hx => m.heap b o hx e, fun b o e _ _ hx => ⟨o.slots, m.heap b o hx e⟩, fun _ _ _ n _ => n, fun b o e hx => ⟨o, m.heap b o hx e⟩, fun _ _ e => e, fun _ _ _ e => e, fun b ps e => ⟨#[], by rw [e]; simp⟩⟩ (fun a o ha => (I1.hok a o ha).stay (fun b u hb e => m.heap b u (fun z => by
    have n := nh b z
    rcases hb with rfl | q
    · rw [n] at ha; cases ha
    · rw [n] at q; cases q) e) (fun _ q => q) (fun _ _ q => q)) (by rw [m.gens]; exact I1.bare) hch
def dkW (ns : List Int) : PyData := .tuple [.int ns.length, encW ns]
def btW (nss : List (List Int)) (i j : Nat) : Bool := PySem.W.dataLt (dkW (nss.getD i [])) (dkW (nss.getD j []))
def minLenI (nss : List (List Int)) : Nat := argBest (btW nss) (nss.length - 1)
theorem valsR : ∀ {L : List (Addr × List Int)} {its : List Value}, Vals (L.map fun q => V.ref q.1) its → its = L.map fun q => Value.ref q.1
  | [], _, .nil => rfl
  | q :: L, _, .cons r t => by
    obtain rfl := r
    rw [valsR t]
    rfl
theorem argBest_le {bt : Nat → Nat → Bool} : ∀ k, argBest bt k ≤ k
  | 0 => Nat.le_refl _
  | k + 1 => by
    unfold argBest
    split
    · exact Nat.le_refl _
    · exact Nat.le_succ_of_le (argBest_le k)
theorem min_len_run {f c' l : Addr} {L : LamK} {x : Str} {ps : List (Addr × List Int)} {Q : VK} (KL : KeyLam X L x) (I : Inv X pins σ H s) (hr : Room 4 X.A) (hf : H f = some (LamO f c' L)) (hc : H c' = some (LamX.CodeO c' L.q))
    (hl : H l = some (.lst (ps.map fun q => V.ref q.1))) (hp : ∀ q ∈ ps, H q.1 = some (.tup (q.2.map V.int))) (ne : 0 < ps.length) (hq : ∀ q, ps[minLenI (ps.map (·.2))]? = some q → Q (.ref q.1) H) :
    wpAny (model X.prog X.w) X.A (call (.builtin "min") [.ref l] [(Str.ofString "key", .ref f)]) (EP X pins σ Q) X.xe s := by
  obtain ⟨its, rv, pl, hz⟩ := I.list (SqL.of hl)
  have ei := valsR rv
  have hls := pl.isList
  have hlen : its.toArray.size = ps.length := by rw [List.size_toArray, ei, List.length_map]
  have hli : l < s.heap.objs.size := by
    obtain ⟨o, ho, _⟩ := hls
    exact Heap.lt_size ho
  have hh : X.A.in1.handled = none := hr.in1.hd
  -- fresh addresses
  have fr0 : ∀ b, s.heap.objs.size ≤ b → H b = none := fun b hb => I.hok.fresh hb
  have nfr : ∀ b, s.heap.objs.size ≤ b → b ∉ frs X.stack := fun b hb z => (List.mem_cons.mp (I.stkSub b z)).elim (fun e => absurd hb (by rw [e]; exact Nat.not_le.mpr I.lt)) (I.nofs hb)
  have hch : ∀ b, s.heap.objs.size ≤ b → (b ∈ X.ex ∨ X.s_0.heap.objs.size ≤ b) ∧ b ≠ X.env.locals ∧ (∀ x c, X.env.cells.lookup x = some c → c ≠ b) ∧ ∀ p ∈ X.pn ++ pins, p.1 ≠ b := fun b hb => by
    refine ⟨.inr (Nat.le_trans I.sz hb), fun e => absurd hb (by rw [e]; exact Nat.not_le.mpr I.lt), fun x c e z => ?_, fun p hp z => ?_⟩
    · obtain ⟨v, o, ho, _⟩ := I.cell x c e
      exact absurd hb (by rw [← z]; exact Nat.not_le.mpr (Heap.lt_size ho))
    · obtain ⟨e, _⟩ := I.pin p hp
      exact absurd hb (by rw [← z]; exact Nat.not_le.mpr (Heap.lt_size e))
  refine PySem.call_min_walkK ?_
  refine wpAny_pyIter_list hls ?_
  obtain ⟨h2, hh2⟩ : ∃ h2, h2 = s.heap.push { cls := .type "list_iterator", data := .fields #[.ref l, .int 0 0] } := ⟨_, rfl⟩
  have sz2 : h2.objs.size = s.heap.objs.size + 1 := by rw [hh2, Heap.size_push]
  rw [← hh2]
  have kp2 : ∀ b o, s.heap.get? b = some o → h2.get? b = some o := fun b o e => by rw [hh2]; exact Heap.get?_push_of_some _ e
  have I2 : Inv X pins σ H { s with heap := h2 } := I.kept (t' := s.toks) kp2
  have gI : h2.get? s.heap.objs.size = some { cls := .type "list_iterator", data := .fields #[.ref l, .int 0 0] } := by rw [hh2]; exact Heap.get?_push_size _ rfl
  have hlI : l ≠ s.heap.objs.size := Nat.ne_of_lt hli
  have W := (Walks.list (prog := X.prog) (w := X.w) (A := X.A.in1) hh s.heap.objs.size l hlI its.toArray).toS
  have nlf : l ∉ frs X.stack := fun z => by
    have := I.stkFree l z
    rw [hl] at this
    cases this
  refine ⟨s.heap.objs.size, _, _, _, _, _, _, (fun s1 => Inv X pins σ H s1), (fun i k s1 => ∃ (t : Addr) (tk : Tok) (c : Nat) (o : Obj) (q : Addr × List Int), ps[i]? = some q ∧ k = Value.ref t ∧ s1.heap.get? t = some o ∧ o.cls = .type "tuple" ∧ o.data = .seq #[.int q.2.length tk, .ref q.1] c ∧ t ∉ frs X.stack ∧ t ≠ h2.objs.size ∧ t ≠ s.heap.objs.size), btW (ps.map (·.2)), rfl, W, ⟨⟨_, gI, rfl, rfl⟩, hls.at fun o e => kp2 l o e⟩, fun b hb => ?_, by rw [hlen]; exact ne, ⟨?_, ?_, ?_, ?_⟩, I2, ?_⟩
  · show b < h2.objs.size
    rw [sz2]
    rcases List.mem_cons.mp hb with rfl | hb
    · exact Nat.lt_succ_self _
    · rw [List.mem_singleton.mp hb]; exact Nat.lt_succ_of_lt hli
  · exact fun s1 s2 I1 m => inv_moved I1 (fr0 _ (by show s.heap.objs.size ≤ h2.objs.size; rw [sz2]; exact Nat.le_succ _)) (fr0 _ (Nat.le_refl _)) (fun b hb => hch b (by
      rcases List.mem_cons.mp hb with rfl | hb
      · show s.heap.objs.size ≤ h2.objs.size; rw [sz2]; exact Nat.le_succ _
      · rw [List.mem_singleton.mp hb]; exact Nat.le_refl _)) m
  · rintro i k s1 s2 ⟨t, tk, c, o, q, e0, e1, e2, e3, e4, e5, e6, e7⟩ m
    exact ⟨t, tk, c, o, q, e0, e1, m.heap t o (fun z => by
      rcases List.mem_cons.mp z with z | z
      · exact e6 z
      · exact e7 (List.mem_singleton.mp z)) e2, e3, e4, e5, e6, e7⟩
  · intro i v s1 o Q1 E1 hi hP J hst hS k
    have hP : its.toArray[i]? = some v := hP
    obtain ⟨q, hqi, rfl⟩ : ∃ q, ps[i]? = some q ∧ v = Value.ref q.1 := by
      rw [List.getElem?_toArray, ei, List.getElem?_map] at hP
      cases e : ps[i]? with
      | none => rw [e] at hP; cases hP
      | some q => rw [e] at hP; exact ⟨q, rfl, (Option.some.inj hP).symm⟩
    have hst : s1.heap.IsListIter s.heap.objs.size l (i + 1) ∧ s1.heap.IsList l its.toArray := hst
    refine key_call (k := 2) KL J (show Room 3 X.A.in1 from Room.in1 hr) J.env0.in1 hf hc (hp q (List.mem_of_getElem? hqi)) fun t tk c o2 s2 I2 kept nt ho2 hc2 hd2 => ?_
    rw [List.length_map] at hd2
    refine k _ s2 I2 ⟨hst.1.at fun o e => kept _ o e (nfr _ (Nat.le_refl _)), hst.2.at fun o e => kept _ o e nlf⟩ (kept _ o hS (nfr _ (by show s.heap.objs.size ≤ h2.objs.size; rw [sz2]; exact Nat.le_succ _))) ⟨t, tk, c, o2, q, hqi, rfl, ho2, hc2, hd2, fun z => ?_, fun z => ?_, fun z => ?_⟩ ?_
    · obtain ⟨_, ob, e, _⟩ := J.stack.mem z
      rw [nt] at e
      cases e
    · subst z
      have hS : s1.heap.get? h2.objs.size = some o := hS
      rw [nt] at hS
      cases hS
    · subst z
      obtain ⟨⟨ob, e, _⟩, _⟩ := hst
      rw [nt] at e
      cases e
    · rintro j k' ⟨t, tk, c, o, q, e0, e1, e2, e3, e4, e5, e6, e7⟩
      exact ⟨t, tk, c, o, q, e0, e1, kept t o e2 e5, e3, e4, e5, e6, e7⟩
  · rintro i j ki kj s1 Q1 E1 J ⟨t, tk, c, o, q, e0, rfl, e2, e3, e4, _⟩ ⟨t', tk', c', o', q', e0', rfl, e2', e3', e4', _⟩ hQ
    have rd : ∀ q ∈ ps, ∃ as, PySem.Reads s1.heap (.ref q.1) (encW q.2) as := fun q hm => by
      obtain ⟨its, rv, it, _⟩ := J.tuple (SqT.of (hp q hm))
      exact reads_tup ⟨q.1, its.toArray, rfl, it, by simpa using Vals.ints rv⟩
    obtain ⟨as, ra⟩ := rd q (List.mem_of_getElem? e0)
    obtain ⟨as', ra'⟩ := rd q' (List.mem_of_getElem? e0')
    have e5 : btW (ps.map (·.2)) i j = PySem.W.dataLt (dkW q.2) (dkW q'.2) := by
      unfold btW
      rw [List.getD_eq_getElem?_getD, List.getD_eq_getElem?_getD, List.getElem?_map, List.getElem?_map, e0, e0']
      rfl
    rw [e5] at hQ
    refine PySem.W.rcLt_alike (dkW q.2) (dkW q'.2) X.A.in1 s1 _ _ _ _ (.tuple e2 e3 e4 (.cons (.int _ _) (.cons ra .nil))) (.tuple e2' e3' e4' (.cons (.int _ _) (.cons ra' .nil))) ?_ (fun z => nomatch z) ?_ X.prog X.w E1 Q1 hQ
    · simp only [dkW, PySem.W.alike, PySem.W.alikeAll, PySem.W.alike_ints, Bool.and_true, Bool.true_and]
      try exact PySem.W.alike_ints _ _
    · have h1 := hr.un
      have h2 : (dkW q.2).depth ≤ 2 := by
        have := depth_encW q.2
        simp only [dkW, PyData.depth, PyData.depthAll] at this ⊢
        omega
      show X.A.units + 1 + min _ _ < cLine
      omega
  · intro v s1 hP J
    have hP : its.toArray[argBest (btW (ps.map (·.2))) (its.toArray.size - 1)]? = some v := hP
    have e : argBest (btW (ps.map (·.2))) (its.toArray.size - 1) = minLenI (ps.map (·.2)) := by
      unfold minLenI
      rw [hlen, List.length_map]
    rw [e, List.getElem?_toArray, ei, List.getElem?_map] at hP
    cases e2 : ps[minLenI (ps.map (·.2))]? with
    | none => rw [e2] at hP; cases hP
    | some q =>
      rw [e2] at hP
      cases hP
      exact ⟨.ref q.1, H, J, rfl, hq q e2⟩
end
def rMinLen (K : Frag) (L : LamK) : List V → List V → Hp → VK → Prop := fun vs zs H Q => ∃ (l f c' : Addr) (ps : List (Addr × List Int)), vs = [V.ref l] ∧ zs = [V.ref f] ∧ H l = some (.lst (ps.map fun q => V.ref q.1)) ∧ (∀ q ∈ ps, H q.1 = some (.tup (q.2.map V.int))) ∧ 0 < ps.length ∧
  H f = some (LamO f c' L) ∧ H c' = some (LamX.CodeO c' L.q) ∧ ∀ q, ps[minLenI (ps.map (·.2))]? = some q → Q (.ref q.1) H
theorem crk_minLen {X : Cx} {L : LamK} {x : Str} (KL : KeyLam X L x) (hr : Room 4 X.A) : CallRK X (.builtin "min") [Str.ofString "key"] (rMinLen X.K L) := by
  intro pins s σ H vs zs us ws Q I r rz h
  obtain ⟨l, f, c', ps, rfl, rfl, h1, h2, h3, h4, h5, h6⟩ := h
  obtain rfl := Vals.ref1 r
  obtain rfl := Vals.ref1 rz
  exact min_len_run KL I hr h4 h5 h1 h2 h3 h6
/-- the least, shorter ones first -/
def mMinLen (w : Wv) : M Wv := fun cs => match w with
  | .dat (.lst ds) => match tupsI ds with
    | some (n :: ns) => .ok (.dat (DX.tupI ((n :: ns).getD (minLenI (n :: ns)) []))) cs
    | _ => .bad
  | _ => .bad
def eMinLen (f : Ev) : Ev := fun env => M.bind (f env) mMinLen
theorem repL_ps [TabT] {K : Frag} {H : Hp} : ∀ (ns : List (List Int)) {xs : List V}, RepL K H xs (ns.map DX.tupI) → ∃ ps : List (Addr × List Int), xs = ps.map (fun q => V.ref q.1) ∧ ps.map (·.2) = ns ∧ ∀ q ∈ ps, H q.1 = some (.tup (q.2.map V.int))
  | [], _, r => by
    cases r
    exact ⟨[], rfl, rfl, fun q h => nomatch h⟩
  | n :: ns, _, r => by
    cases r with
    | cons r1 r2 =>
      obtain ⟨ps, rfl, e, h⟩ := repL_ps ns r2
      cases r1 with
      | @tup a xs ds h1 h2 =>
        refine ⟨(a, n) :: ps, rfl, by rw [List.map_cons, e], fun q hq => ?_⟩
        rcases List.mem_cons.mp hq with rfl | hq
        · rw [← h2.ints (ints_map n)]
          exact h1.at_
        · exact h q hq
section
variable [TabT] {X : Cx} {E : XK}
theorem clo_nil {cells : List (Str × Addr)} : ∀ {names : List (Str × NameKind)} {acc : List (Str × Addr)}, (∀ y ∈ names, y.2 ≠ .free) → cloFrom cells names acc = acc
  | [], _, _ => rfl
  | (n, k) :: r, acc, h => by
    unfold cloFrom
    have hk : k ≠ .free := h (n, k) List.mem_cons_self
    rw [if_neg (by simpa using hk)]
    exact clo_nil fun y hy => h y (List.mem_cons_of_mem _ hy)
theorem ev_lam0 {k : Nat} {c P : Addr} {params : Arguments} {body : Expr} {scope : Scope} {pos : Pos} {L : LamK} (hL : L = ⟨X.env.qual ++ "<lambda>", params, body, scope, X.env.cells⟩) (TB : LamX.TabB X.base X.mg c P) (hcode : X.env.code = .ref c)
    (hmT : (P, X.env.qual ++ "<lambda>") ∈ TabT.T) (hu : ∀ p ∈ TabT.T, p.1 = P → p.2 = X.env.qual ++ "<lambda>") (hnf : ∀ y ∈ scope.names, y.2 ≠ .free) (hdef : defaultsOf params X.env = ([], [])) :
    EV X E (.Lambda params body scope pos) (eLam k L) := by
  refine ⟨fun pins s σ H Q I h => ?_⟩
  obtain ⟨env, cs, ω, hs, hk, h⟩ := h
  refine lam_new I TB hcode hmT hu hk.tab hdef (fun y hy e => absurd e (hnf y hy)) fun f c' H1 s' eN T1 hc nf I1 => ?_
  obtain ⟨ω1, l1, k1, h1⟩ := (hk.extN eN T1).adoptX (q := c') hc
  have k2 := k1.froze (o := LamO f c' L) nf
  have l2 := l1.trans (Le.froze (o := LamO f c' L) k1 nf)
  have h : Out X.K X.mg E ω (.ok (Wv.dat (.lam k L)) cs) _ := h
  have ne : c' ≠ f := fun z => by rw [z, nf] at hc; cases hc
  subst hL
  exact ⟨.ref f, _, I1, rfl, h _ _ l2 k2 _ (.lam upd_same ((upd_ne ne).trans h1))⟩
theorem ev_minLen {c P : Addr} {params : Arguments} {e body : Expr} {scope : Scope} {p pos lpos kpos p1 p2 p3 p4 p5 : Pos} {tc : Nat} {x : Str} {f : Ev} (TB : LamX.TabB X.base X.mg c P) (hcode : X.env.code = .ref c)
    (hmT : (P, X.env.qual ++ "<lambda>") ∈ TabT.T) (hu : ∀ p ∈ TabT.T, p.1 = P → p.2 = X.env.qual ++ "<lambda>") (hdef : defaultsOf params X.env = ([], []))
    (S : FnScope [x] [x] scope) (hb : ∀ (q : Str) (pm cv ctv u : Value), bindArgs (PySem.W.kla_fn "<lambda>" q params body scope [] pm cv ctv) ⟨[u], []⟩ = pure [(x, u)])
    (hbd : body = .Tuple [.Call (.Name "len" p1) [.Name x p2] [] p3, .Name x p4] tc p5) (hgl : scope.names.lookup ("len" : Str) = some .globalImplicit) (hml : X.mg "len" = none)
    (hr : Room 4 X.A) (hg : Gl X "min") (hm : X.mg "min" = none) (he : EV X E e f) (d1 : (x == ("__debug__" : Str)) = false := by decide) (d2 : (x == ("__classdict__" : Str)) = false := by decide)
    (h1 : backTo pos (starEach [e] X.env) = (false, eval e X.env) :: backTo pos (starEach [] X.env) := by rfl) (h2 : (backTo pos (starEach [e] X.env)).any (·.1) = false := by rfl) (h3 : starEach [e] X.env = (false, eval e X.env) :: starEach [] X.env := by rfl)
    (hall : (backToKw pos (keywordEach [⟨some "key", .Lambda params body scope lpos, kpos⟩] X.env)).all (·.1.isSome) = true := by rfl) (hnone : (backToKw pos (keywordEach [⟨some "key", .Lambda params body scope lpos, kpos⟩] X.env)).any (·.1.isNone) = false := by rfl) (hks : (backToKw pos (keywordEach [⟨some "key", .Lambda params body scope lpos, kpos⟩] X.env)).filterMap (·.1) = [Str.ofString "key"] := by rfl) :
    EV X E (.Call (.Name "min" p) [e] [⟨some "key", .Lambda params body scope lpos, kpos⟩] pos) (eMinLen f) := by
  obtain ⟨L, hL⟩ : ∃ L : LamK, L = ⟨X.env.qual ++ "<lambda>", params, body, scope, X.env.cells⟩ := ⟨_, rfl⟩
  have KL : KeyLam X L x := by
    subst hL
    exact ⟨S, clo_nil S.nofree, fun pm cv ctv u => hb _ pm cv ctv u, ⟨p1, p2, p3, p4, p5, tc, hbd⟩, hgl, hml, d1, d2⟩
  refine PE.imp (pe_callBK (crk_minLen KL hr) hg hm boot_min (pa_cons he pa_nil h3) (pk_cons (ev_lam0 (E := E) (k := 0) hL TB hcode hmT hu S.nofree hdef) pk_nil) (by decide) (by decide) h1 h2 hall hnone hks) fun σ H Q h => ?_
  obtain ⟨env, cs, ω, hs, hk, h⟩ := h
  refine ⟨env, cs, ω, hs, hk, h.bind.imp fun w ω1 cs1 H1 l1 k1 h1 v rv => ⟨env, cs1, ω1, hs.mono l1, k1, fun ω2 H2 l2 k2 v2 rv2 => ?_⟩⟩
  unfold mMinLen at h1
  cases w with
  | cel i => exact (show False from h1).elim
  | dat d =>
  cases d with
  | lst ds =>
    dsimp only at h1
    cases ht : tupsI ds with
    | none => rw [ht] at h1; exact (show False from h1).elim
    | some nss =>
      rw [ht] at h1
      cases nss with
      | nil => exact (show False from h1).elim
      | cons n ns =>
        have hds := tupsI_is ht
        subst hds
        have rv : RepD X.K ω1.Hs v (.lst ((n :: ns).map DX.tupI)) := rv
        have rv2 : RepD X.K ω2.Hs v2 (.lam 0 L) := rv2
        cases rv with
        | @lst a xs _ h3 h4 =>
          cases rv2 with
          | @lam g c2 _ _ h5 h6 =>
            obtain ⟨ps, rfl, e, hps⟩ := repL_ps (n :: ns) h4
            refine ⟨a, g, c2, ps, rfl, rfl, k2.ex _ _ (l2.ex _ _ h3), fun q hq => k2.ex _ _ (l2.ex _ _ (hps q hq)), ?_, k2.ex _ _ h5, k2.ex _ _ h6, fun q hq => ?_⟩
            · have := congrArg List.length e
              rw [List.length_map, List.length_cons] at this
              omega
            · refine h1 ω2 H2 l2 k2 (.ref q.1) ?_
              rw [e] at hq
              have e2 : (n :: ns).getD (minLenI (n :: ns)) [] = q.2 := by
                rw [List.getD_eq_getElem?_getD, ← e, List.getElem?_map, e, hq]
                rfl
              rw [e2]
              exact .tup ⟨l2.ex _ _ (hps q (List.mem_of_getElem? hq))⟩ (repL_ints' q.2)
  | _ => exact (show False from h1).elim
end
end DX
namespace GF
theorem xor_cancel (x a : Nat) : (x ^^^ a) ^^^ a = x := by rw [Nat.xor_assoc, Nat.xor_self, Nat.xor_zero]
theorem xor_right_comm (x a b : Nat) : (x ^^^ a) ^^^ b = (x ^^^ b) ^^^ a := by rw [Nat.xor_assoc, Nat.xor_comm a b, ← Nat.xor_assoc]
/-- x is a sum of some of the rows -/
def sp : List Nat → Nat → Bool
  | [], x => x == 0
  | a :: L, x => sp L x || sp L (x ^^^ a)
theorem sp_zero : ∀ L : List Nat, sp L 0 = true
  | [] => rfl
  | a :: L => by simp [sp, sp_zero L]
theorem sp_skip {L : List Nat} {a x : Nat} (h : sp L x = true) : sp (a :: L) x = true := by simp [sp, h]
theorem sp_add : ∀ {L : List Nat} {x y : Nat}, sp L x = true → sp L y = true → sp L (x ^^^ y) = true
  | [], x, y, h1, h2 => by
    have e1 : x = 0 := by simpa [sp] using h1
    have e2 : y = 0 := by simpa [sp] using h2
    subst e1 e2
    rfl
  | a :: L, x, y, h1, h2 => by
    have h1 : (sp L x || sp L (x ^^^ a)) = true := h1
    have h2 : (sp L y || sp L (y ^^^ a)) = true := h2
    show (sp L (x ^^^ y) || sp L ((x ^^^ y) ^^^ a)) = true
    rw [Bool.or_eq_true] at h1 h2 ⊢
    rcases h1 with h1 | h1 <;> rcases h2 with h2 | h2
    · exact .inl (sp_add h1 h2)
    · refine .inr ?_
      rw [Nat.xor_assoc]
      exact sp_add h1 h2
    · refine .inr ?_
      rw [xor_right_comm]
      exact sp_add h1 h2
    · refine .inl ?_
      have q := sp_add h1 h2
      have e : (x ^^^ a) ^^^ (y ^^^ a) = x ^^^ y := by
        rw [← Nat.xor_assoc, xor_right_comm x a y, xor_cancel]
      rwa [e] at q
theorem sp_mem : ∀ {L : List Nat} {a : Nat}, a ∈ L → sp L a = true
  | b :: L, a, h => by
    show (sp L a || sp L (a ^^^ b)) = true
    rw [Bool.or_eq_true]
    rcases List.mem_cons.mp h with rfl | h
    · exact .inr (by rw [Nat.xor_self]; exact sp_zero L)
    · exact .inl (sp_mem h)
theorem sp_le : ∀ {L M : List Nat}, (∀ a ∈ L, sp M a = true) → ∀ {x : Nat}, sp L x = true → sp M x = true
  | [], M, _, x, h => by
    have e : x = 0 := by simpa [sp] using h
    subst e
    exact sp_zero M
  | a :: L, M, hL, x, h => by
    have h : (sp L x || sp L (x ^^^ a)) = true := h
    rw [Bool.or_eq_true] at h
    have hL' : ∀ b ∈ L, sp M b = true := fun b hb => hL b (List.mem_cons_of_mem _ hb)
    rcases h with h | h
    · exact sp_le hL' h
    · have q := sp_add (sp_le hL' h) (hL a List.mem_cons_self)
      rwa [xor_cancel] at q
theorem sp_ext {L M : List Nat} (h1 : ∀ a ∈ L, sp M a = true) (h2 : ∀ a ∈ M, sp L a = true) : sp L = sp M := by
  funext x
  rw [Bool.eq_iff_iff]
  exact ⟨sp_le h1, sp_le h2⟩
theorem sp_bit : ∀ {L : List Nat} {k : Nat}, (∀ a ∈ L, a.testBit k = false) → ∀ {x : Nat}, sp L x = true → x.testBit k = false
  | [], k, _, x, h => by
    have e : x = 0 := by simpa [sp] using h
    subst e
    exact Nat.zero_testBit k
  | a :: L, k, hL, x, h => by
    have h : (sp L x || sp L (x ^^^ a)) = true := h
    rw [Bool.or_eq_true] at h
    have hL' : ∀ b ∈ L, b.testBit k = false := fun b hb => hL b (List.mem_cons_of_mem _ hb)
    rcases h with h | h
    · exact sp_bit hL' h
    · have q := sp_bit hL' h
      rw [Nat.testBit_xor, hL a List.mem_cons_self] at q
      simpa using q
theorem sp_lt {L : List Nat} {N : Nat} (hL : ∀ a ∈ L, a < 2 ^ N) {x : Nat} (h : sp L x = true) : x < 2 ^ N := by
  refine Nat.lt_pow_two_of_testBit _ fun i hi => ?_
  exact sp_bit (fun a ha => Nat.testBit_lt_two_pow (Nat.lt_of_lt_of_le (hL a ha) (Nat.pow_le_pow_right (by omega) hi))) h
def rk : List Nat → Nat
  | [] => 0
  | a :: L => if sp L a = true then rk L else rk L + 1
theorem sp_in {L : List Nat} {a : Nat} (h : sp L a = true) : sp (a :: L) = sp L :=
  sp_ext (fun b hb => (List.mem_cons.mp hb).elim (fun e => e ▸ h) sp_mem) fun b hb => sp_skip (sp_mem hb)
theorem count_or {α : Type} (p q : α → Bool) : ∀ l : List α, (∀ x ∈ l, ¬ (p x = true ∧ q x = true)) → l.countP (fun x => p x || q x) = l.countP p + l.countP q
  | [], _ => rfl
  | x :: l, h => by
    have ih := count_or p q l fun y hy => h y (List.mem_cons_of_mem _ hy)
    have h0 := h x List.mem_cons_self
    simp only [List.countP_cons, ih]
    cases hp : p x <;> cases hq : q x <;> simp_all <;> omega
theorem count_xor {N a : Nat} (ha : a < 2 ^ N) (p : Nat → Bool) : (List.range (2 ^ N)).countP (fun x => p (x ^^^ a)) = (List.range (2 ^ N)).countP p := by
  have e : (List.range (2 ^ N)).countP (fun x => p (x ^^^ a)) = ((List.range (2 ^ N)).map (· ^^^ a)).countP p := by rw [List.countP_map]; rfl
  rw [e]
  have inj : ∀ x y : Nat, x ^^^ a = y ^^^ a → x = y := fun x y h => by
    have h2 := congrArg (· ^^^ a) h
    simp only [xor_cancel] at h2
    exact h2
  have nd : ((List.range (2 ^ N)).map (· ^^^ a)).Nodup := by
    rw [List.Nodup, List.pairwise_map]
    exact List.Pairwise.imp (fun {x y} hn he => hn (inj x y he)) List.nodup_range
  refine List.Perm.countP_eq p ((List.perm_ext_iff_of_nodup nd List.nodup_range).mpr fun x => ?_)
  simp only [List.mem_map, List.mem_range]
  constructor
  · rintro ⟨y, hy, rfl⟩
    exact Nat.xor_lt_two_pow hy ha
  · intro hx
    exact ⟨x ^^^ a, Nat.xor_lt_two_pow hx ha, xor_cancel x a⟩
theorem count_sp {N : Nat} : ∀ {L : List Nat}, (∀ a ∈ L, a < 2 ^ N) → (List.range (2 ^ N)).countP (sp L) = 2 ^ rk L
  | [], _ => by
    show (List.range (2 ^ N)).countP (fun x => x == 0) = 2 ^ 0
    have h : (List.range (2 ^ N)).countP (fun x => x == 0) = (List.range (2 ^ N)).count 0 := rfl
    rw [h, List.Nodup.count List.nodup_range, if_pos (List.mem_range.mpr (Nat.two_pow_pos N))]
  | a :: L, hL => by
    have ih := count_sp fun b hb => hL b (List.mem_cons_of_mem _ hb)
    unfold rk
    by_cases h : sp L a = true
    · rw [if_pos h, sp_in h, ih]
    · rw [if_neg h]
      show (List.range (2 ^ N)).countP (fun x => sp L x || sp L (x ^^^ a)) = _
      rw [count_or _ _ _ fun x _ ⟨h1, h2⟩ => h (by
        have q := sp_add h1 h2
        rwa [← Nat.xor_assoc, Nat.xor_self, Nat.zero_xor] at q), count_xor (hL a List.mem_cons_self) (sp L), ih, Nat.pow_succ]
      omega
theorem big_of : ∀ L : List Nat, ∃ N, ∀ a ∈ L, a < 2 ^ N
  | [] => ⟨0, fun a h => nomatch h⟩
  | a :: L => by
    obtain ⟨N, hN⟩ := big_of L
    refine ⟨max N (a + 1), fun b hb => ?_⟩
    rcases List.mem_cons.mp hb with rfl | hb
    · exact Nat.lt_of_lt_of_le Nat.lt_two_pow_self (Nat.pow_le_pow_right (by omega) (by omega))
    · exact Nat.lt_of_lt_of_le (hN b hb) (Nat.pow_le_pow_right (by omega) (by omega))
theorem rk_mono {L M : List Nat} (h : ∀ a ∈ L, sp M a = true) : rk L ≤ rk M := by
  obtain ⟨N, hN⟩ := big_of (L ++ M)
  have h1 := count_sp (N := N) fun a ha => hN a (List.mem_append_left M ha)
  have h2 := count_sp (N := N) fun a ha => hN a (List.mem_append_right L ha)
  have h3 : (List.range (2 ^ N)).countP (sp L) ≤ (List.range (2 ^ N)).countP (sp M) := List.countP_mono_left fun x _ hx => sp_le h hx
  rw [h1, h2] at h3
  exact (Nat.pow_le_pow_iff_right (by omega)).mp h3
theorem rk_ext {L M : List Nat} (h1 : ∀ a ∈ L, sp M a = true) (h2 : ∀ a ∈ M, sp L a = true) : rk L = rk M := Nat.le_antisymm (rk_mono h1) (rk_mono h2)
theorem rk_len : ∀ L : List Nat, rk L ≤ L.length
  | [] => Nat.le_refl _
  | a :: L => by
    have := rk_len L
    unfold rk
    split <;> simp <;> omega
/-- rows with a figure of their own each -/
theorem rk_own : ∀ {L : List (Nat × Nat)}, (∀ p ∈ L, p.2.testBit p.1 = true) → L.Pairwise (fun p q => q.2.testBit p.1 = false) → rk (L.map (·.2)) = L.length
  | [], _, _ => rfl
  | p :: L, h1, h2 => by
    rw [List.pairwise_cons] at h2
    have ih := rk_own (fun q hq => h1 q (List.mem_cons_of_mem _ hq)) h2.2
    have hn : ¬ sp (L.map (·.2)) p.2 = true := fun h => by
      have q := sp_bit (k := p.1) (fun a ha => by obtain ⟨q, hq, rfl⟩ := List.mem_map.mp ha; exact h2.1 q hq) h
      rw [h1 p List.mem_cons_self] at q
      cases q
    show rk (p.2 :: L.map (·.2)) = _
    unfold rk
    rw [if_neg hn, ih]
    rfl
end GF
namespace GF
/-- key, row, tag -/
abbrev KT := Nat × Nat × Nat
def d1 (p : Nat × Nat) (q : KT) : Nat × Nat := if p.1.testBit q.1 = true then (p.1 ^^^ q.2.1, p.2 ^^^ q.2.2) else p
def down (kept : List KT) (p : Nat × Nat) : Nat × Nat := kept.foldl d1 p
def up1 (at' : Nat) (p : Nat × Nat) (q : KT) : KT := if q.2.1.testBit at' = true then (q.1, q.2.1 ^^^ p.1, q.2.2 ^^^ p.2) else q
def put1 (S : List KT × List Nat) (p : Nat × Nat) : List KT × List Nat :=
  if p.1 = 0 then (S.1, S.2 ++ [p.2]) else (S.1.map (up1 p.1.log2 p) ++ [(p.1.log2, p.1, p.2)], S.2)
def rstep (S : List KT × List Nat) (p : Nat × Nat) : List KT × List Nat := put1 S (down S.1 p)
def red (ps : List (Nat × Nat)) : List KT × List Nat := ps.foldl rstep ([], [])
/-- rows kept: each with its key as the highest figure, no key in another row -/
structure Kp (l : List KT) : Prop where
  top : ∀ q ∈ l, q.2.1.testBit q.1 = true ∧ q.2.1 < 2 ^ (q.1 + 1)
  nd : (l.map (·.1)).Nodup
  own : ∀ q ∈ l, ∀ r ∈ l, q.1 ≠ r.1 → r.2.1.testBit q.1 = false
theorem Kp.nil : Kp [] := ⟨fun q h => (by cases h), List.nodup_nil, fun q h => (by cases h)⟩
theorem Kp.tail {q : KT} {l : List KT} (h : Kp (q :: l)) : Kp l := by
  have nd := h.nd
  rw [List.map_cons, List.nodup_cons] at nd
  exact ⟨fun r hr => h.top r (List.mem_cons_of_mem _ hr), nd.2, fun r hr s hs => h.own r (List.mem_cons_of_mem _ hr) s (List.mem_cons_of_mem _ hs)⟩
theorem Kp.ne {q r : KT} {l : List KT} (h : Kp (q :: l)) (hr : r ∈ l) : q.1 ≠ r.1 := fun e => by
  have nd := h.nd
  rw [List.map_cons, List.nodup_cons] at nd
  exact nd.1 (e ▸ List.mem_map.mpr ⟨r, hr, rfl⟩)
def rows (l : List KT) : List Nat := l.map (·.2.1)
theorem d1_bit {p : Nat × Nat} {q : KT} {k : Nat} (h : q.2.1.testBit k = false) : (d1 p q).1.testBit k = p.1.testBit k := by
  unfold d1
  split
  · show (p.1 ^^^ q.2.1).testBit k = _
    rw [Nat.testBit_xor, h, Bool.xor_false]
  · rfl
theorem down_bit : ∀ {l : List KT} {p : Nat × Nat} {k : Nat}, (∀ q ∈ l, q.2.1.testBit k = false) → (down l p).1.testBit k = p.1.testBit k
  | [], _, _, _ => rfl
  | q :: l, p, k, h => (down_bit (l := l) (p := d1 p q) fun r hr => h r (List.mem_cons_of_mem _ hr)).trans (d1_bit (h q List.mem_cons_self))
theorem down_key : ∀ {l : List KT} {p : Nat × Nat}, Kp l → ∀ q ∈ l, (down l p).1.testBit q.1 = false
  | r :: l, p, h, q, hq => by
    show (down l (d1 p r)).1.testBit q.1 = false
    rcases List.mem_cons.mp hq with rfl | hq
    · rw [down_bit fun s hs => h.own q List.mem_cons_self s (List.mem_cons_of_mem _ hs) (h.ne hs)]
      unfold d1
      split
      · rename_i e
        show (p.1 ^^^ q.2.1).testBit q.1 = false
        rw [Nat.testBit_xor, e, (h.top q List.mem_cons_self).1]
        rfl
      · rename_i e
        simpa using e
    · exact down_key h.tail q hq
theorem sp_sub {L : List Nat} {a b : Nat} (h : sp L a = true) : sp L (b ^^^ a) = sp L b := by
  rw [Bool.eq_iff_iff]
  constructor
  · intro g
    have q := sp_add g h
    rwa [xor_cancel] at q
  · intro g
    exact sp_add g h
theorem down_sp : ∀ {l : List KT} {M : List Nat} {p : Nat × Nat}, (∀ q ∈ l, sp M q.2.1 = true) → sp M ((down l p).1 ^^^ p.1) = true
  | [], M, p, _ => by
    show sp M (p.1 ^^^ p.1) = true
    rw [Nat.xor_self]
    exact sp_zero M
  | q :: l, M, p, h => by
    have ih := down_sp (l := l) (M := M) (p := d1 p q) fun r hr => h r (List.mem_cons_of_mem _ hr)
    show sp M ((down l (d1 p q)).1 ^^^ p.1) = true
    have e : sp M ((d1 p q).1 ^^^ p.1) = true := by
      unfold d1
      split
      · show sp M ((p.1 ^^^ q.2.1) ^^^ p.1) = true
        rw [xor_right_comm, Nat.xor_self, Nat.zero_xor]
        exact h q List.mem_cons_self
      · rw [Nat.xor_self]; exact sp_zero M
    have z := sp_add ih e
    rwa [← Nat.xor_assoc, xor_cancel] at z
theorem down_rel {P : Nat → Nat → Prop} (hP : ∀ a b c d, P a b → P c d → P (a ^^^ c) (b ^^^ d)) : ∀ {l : List KT} {p : Nat × Nat}, (∀ q ∈ l, P q.2.1 q.2.2) → P p.1 p.2 → P (down l p).1 (down l p).2
  | [], _, _, h => h
  | q :: l, p, h, hp => by
    refine down_rel hP (l := l) (p := d1 p q) (fun r hr => h r (List.mem_cons_of_mem _ hr)) ?_
    unfold d1
    split
    · exact hP _ _ _ _ hp (h q List.mem_cons_self)
    · exact hp
theorem log2_top {n : Nat} (h : n ≠ 0) : n.testBit n.log2 = true ∧ n < 2 ^ (n.log2 + 1) := by
  refine ⟨?_, Nat.lt_log2_self⟩
  rw [Nat.testBit_eq_decide_div_mod_eq, decide_eq_true_eq]
  have h1 : 2 ^ n.log2 ≤ n := Nat.log2_self_le h
  have h2 : n < 2 ^ (n.log2 + 1) := Nat.lt_log2_self
  have e : n / 2 ^ n.log2 = 1 := by
    refine Nat.div_eq_of_lt_le (by omega) ?_
    rw [Nat.pow_succ] at h2
    omega
  rw [e]
theorem top_log2 {n k : Nat} (h : n.testBit k = true) (h2 : n < 2 ^ (k + 1)) : n.log2 = k := by
  have h0 : n ≠ 0 := fun z => by rw [z, Nat.zero_testBit] at h; cases h
  have g := log2_top h0
  have h1 : 2 ^ k ≤ n := Nat.ge_two_pow_of_testBit h
  have a1 : n.log2 ≤ k := Nat.le_of_lt_succ ((Nat.pow_lt_pow_iff_right (by omega : 1 < 2)).mp (Nat.lt_of_le_of_lt (Nat.log2_self_le h0) h2))
  have a2 : k ≤ n.log2 := Nat.le_of_lt_succ ((Nat.pow_lt_pow_iff_right (by omega : 1 < 2)).mp (Nat.lt_of_le_of_lt h1 g.2))
  omega
theorem testBit_big {n k : Nat} (h : n < 2 ^ k) {i : Nat} (hi : k ≤ i) : n.testBit i = false := Nat.testBit_lt_two_pow (Nat.lt_of_lt_of_le h (Nat.pow_le_pow_right (by omega) hi))
theorem up1_key {k : Nat} {p : Nat × Nat} {q : KT} : (up1 k p q).1 = q.1 := by unfold up1; split <;> rfl
/-- the rows kept, one more put -/
theorem Kp.put {l : List KT} {p : Nat × Nat} (h : Kp l) (hp : p.1 ≠ 0) (hk : ∀ q ∈ l, p.1.testBit q.1 = false) : Kp (l.map (up1 p.1.log2 p) ++ [(p.1.log2, p.1, p.2)]) := by
  have t := log2_top hp
  have nk : ∀ q ∈ l, q.1 ≠ p.1.log2 := fun q hq e => by
    have := hk q hq
    rw [e, t.1] at this
    cases this
  have ub : ∀ q : KT, ∀ k : Nat, p.1.testBit k = false → (up1 p.1.log2 p q).2.1.testBit k = q.2.1.testBit k := fun q k e => by
    unfold up1
    split
    · show (q.2.1 ^^^ p.1).testBit k = _
      rw [Nat.testBit_xor, e, Bool.xor_false]
    · rfl
  refine ⟨fun r hr => ?_, ?_, fun q hq r hr ne => ?_⟩
  · rcases List.mem_append.mp hr with hr | hr
    · obtain ⟨q, hq, rfl⟩ := List.mem_map.mp hr
      have g := h.top q hq
      rw [up1_key]
      refine ⟨(ub q q.1 (hk q hq)).trans g.1, ?_⟩
      unfold up1
      split
      · rename_i e
        show q.2.1 ^^^ p.1 < 2 ^ (q.1 + 1)
        have lt : p.1.log2 < q.1 + 1 := by
          refine Nat.lt_of_not_le fun z => ?_
          rw [testBit_big g.2 z] at e
          cases e
        exact Nat.xor_lt_two_pow g.2 (Nat.lt_of_lt_of_le t.2 (Nat.pow_le_pow_right (by omega) (by omega)))
      · exact g.2
    · rw [List.mem_singleton.mp hr]
      exact t
  · rw [List.map_append, List.map_map, List.map_congr_left (g := (·.1)) fun q _ => up1_key, List.nodup_append]
    refine ⟨h.nd, by simp, fun a ha b hb e => ?_⟩
    obtain ⟨q, hq, rfl⟩ := List.mem_map.mp ha
    have : b = p.1.log2 := by simpa using hb
    exact nk q hq (e.trans this)
  · rcases List.mem_append.mp hq with hq | hq <;> rcases List.mem_append.mp hr with hr | hr
    · obtain ⟨q, hq', rfl⟩ := List.mem_map.mp hq
      obtain ⟨r, hr', rfl⟩ := List.mem_map.mp hr
      rw [up1_key, up1_key] at ne
      rw [up1_key, ub r q.1 (hk q hq')]
      exact h.own q hq' r hr' ne
    · obtain ⟨q, hq', rfl⟩ := List.mem_map.mp hq
      rw [List.mem_singleton.mp hr, up1_key]
      exact hk q hq'
    · obtain ⟨r, hr, rfl⟩ := List.mem_map.mp hr
      rw [List.mem_singleton.mp hq]
      show (up1 p.1.log2 p r).2.1.testBit p.1.log2 = false
      unfold up1
      split
      · rename_i e
        show (r.2.1 ^^^ p.1).testBit p.1.log2 = false
        rw [Nat.testBit_xor, e, t.1]
        rfl
      · rename_i e
        simpa using e
    · rw [List.mem_singleton.mp hq, List.mem_singleton.mp hr] at ne
      exact absurd rfl ne
theorem rows_up {l : List KT} {p : Nat × Nat} {x : Nat} : sp (rows (l.map (up1 p.1.log2 p) ++ [(p.1.log2, p.1, p.2)])) x = sp (p.1 :: rows l) x := by
  have e : sp (rows (l.map (up1 p.1.log2 p) ++ [(p.1.log2, p.1, p.2)])) = sp (p.1 :: rows l) := by
    refine sp_ext (fun a ha => ?_) fun a ha => ?_
    · unfold rows at ha
      rw [List.map_append, List.mem_append] at ha
      rcases ha with ha | ha
      · obtain ⟨r, hr, rfl⟩ := List.mem_map.mp ha
        obtain ⟨q, hq, rfl⟩ := List.mem_map.mp hr
        have m : sp (p.1 :: rows l) q.2.1 = true := sp_mem (List.mem_cons_of_mem _ (List.mem_map.mpr ⟨q, hq, rfl⟩))
        unfold up1
        split
        · exact sp_add m (sp_mem List.mem_cons_self)
        · exact m
      · have : a = p.1 := by simpa using ha
        rw [this]
        exact sp_mem List.mem_cons_self
    · have mp : sp (rows (l.map (up1 p.1.log2 p) ++ [(p.1.log2, p.1, p.2)])) p.1 = true := sp_mem (List.mem_map.mpr ⟨_, List.mem_append_right _ (List.mem_singleton.mpr rfl), rfl⟩)
      rcases List.mem_cons.mp ha with rfl | ha
      · exact mp
      · obtain ⟨q, hq, rfl⟩ := List.mem_map.mp ha
        have m : sp (rows (l.map (up1 p.1.log2 p) ++ [(p.1.log2, p.1, p.2)])) (up1 p.1.log2 p q).2.1 = true := sp_mem (List.mem_map.mpr ⟨_, List.mem_append_left _ (List.mem_map.mpr ⟨q, hq, rfl⟩), rfl⟩)
        unfold up1 at m
        split at m
        · have z := sp_add m mp
          rwa [xor_cancel] at z
        · exact m
  rw [e]
/-- what the rows kept and the idle tags are, behind some rows -/
structure Rd (ps : List (Nat × Nat)) (S : List KT × List Nat) : Prop where
  kp : Kp S.1
  spn : sp (rows S.1) = sp (ps.map (·.1))
  many : S.1.length + S.2.length = ps.length
theorem down_in {l : List KT} (h : Kp l) {p : Nat × Nat} : (down l p).1 = 0 ↔ sp (rows l) p.1 = true := by
  have s := down_sp (l := l) (M := rows l) (p := p) fun q hq => sp_mem (List.mem_map.mpr ⟨q, hq, rfl⟩)
  constructor
  · intro e
    rw [e, Nat.zero_xor] at s
    exact s
  · intro g
    have m : sp (rows l) (down l p).1 = true := by
      have z := sp_add s g
      rwa [xor_cancel] at z
    refine Nat.eq_of_testBit_eq fun i => ?_
    rw [Nat.zero_testBit]
    -- the highest figure of a sum of kept rows is a key
    have key : ∀ (l : List KT), Kp l → ∀ x, sp (rows l) x = true → (∀ q ∈ l, x.testBit q.1 = false) → x = 0 := by
      intro l
      induction l with
      | nil => intro _ x hx _; simpa [rows, sp] using hx
      | cons q l ih =>
        intro hk x hx hq
        have hx : (sp (rows l) x || sp (rows l) (x ^^^ q.2.1)) = true := hx
        rw [Bool.or_eq_true] at hx
        rcases hx with hx | hx
        · exact ih hk.tail x hx fun r hr => hq r (List.mem_cons_of_mem _ hr)
        · have b : (x ^^^ q.2.1).testBit q.1 = false := sp_bit (fun a ha => by
            obtain ⟨r, hr, rfl⟩ := List.mem_map.mp ha
            exact hk.own q List.mem_cons_self r (List.mem_cons_of_mem _ hr) (hk.ne hr)) hx
          rw [Nat.testBit_xor, hq q List.mem_cons_self, (hk.top q List.mem_cons_self).1] at b
          cases b
    rw [key l h _ m fun q hq => down_key h q hq, Nat.zero_testBit]
theorem Rd.step {ps : List (Nat × Nat)} {S : List KT × List Nat} (h : Rd ps S) (p : Nat × Nat) : Rd (ps ++ [p]) (rstep S p) := by
  have dk : ∀ q ∈ S.1, (down S.1 p).1.testBit q.1 = false := fun q hq => down_key h.kp q hq
  have ds : sp (rows S.1) ((down S.1 p).1 ^^^ p.1) = true := down_sp fun q hq => sp_mem (List.mem_map.mpr ⟨q, hq, rfl⟩)
  have e0 : sp ((ps ++ [p]).map (·.1)) = sp (p.1 :: ps.map (·.1)) := by
    rw [List.map_append]
    refine sp_ext (fun a ha => sp_mem (by simpa [or_comm] using ha)) fun a ha => sp_mem (by simpa [or_comm] using ha)
  have e2 : sp (p.1 :: ps.map (·.1)) = sp (p.1 :: rows S.1) := by
    funext x
    show (sp (ps.map (·.1)) x || sp (ps.map (·.1)) (x ^^^ p.1)) = (sp (rows S.1) x || sp (rows S.1) (x ^^^ p.1))
    rw [h.spn]
  unfold rstep put1
  by_cases hz : (down S.1 p).1 = 0
  · rw [if_pos hz]
    refine ⟨h.kp, ?_, ?_⟩
    · rw [e0, e2, sp_in ((down_in h.kp).mp hz)]
    · have := h.many
      simp only [List.length_append, List.length_singleton]
      omega
  · rw [if_neg hz]
    refine ⟨h.kp.put hz dk, ?_, ?_⟩
    · rw [e0, e2]
      funext x
      rw [rows_up]
      show (sp (rows S.1) x || sp (rows S.1) (x ^^^ (down S.1 p).1)) = (sp (rows S.1) x || sp (rows S.1) (x ^^^ p.1))
      congr 1
      have z := sp_sub (b := x ^^^ p.1) ds
      rw [← z]
      congr 1
      rw [Nat.xor_comm (down S.1 p).1, ← Nat.xor_assoc, xor_cancel]
    · have := h.many
      simp only [List.length_append, List.length_singleton, List.length_map]
      omega
theorem Rd.of (ps : List (Nat × Nat)) : Rd ps (red ps) := by
  have key : ∀ (qs ps : List (Nat × Nat)) (S : List KT × List Nat), Rd ps S → Rd (ps ++ qs) (qs.foldl rstep S) := by
    intro qs
    induction qs with
    | nil => intro ps S h; simpa using h
    | cons q qs ih =>
      intro ps S h
      have z := ih (ps ++ [q]) (rstep S q) (h.step q)
      simpa using z
  exact key ps [] ([], []) ⟨Kp.nil, rfl, rfl⟩
/-- rows and tags -/
theorem red_rel {P : Nat → Nat → Prop} (hP : ∀ a b c d, P a b → P c d → P (a ^^^ c) (b ^^^ d)) {ps : List (Nat × Nat)} (h : ∀ p ∈ ps, P p.1 p.2) : (∀ q ∈ (red ps).1, P q.2.1 q.2.2) ∧ ∀ t ∈ (red ps).2, P 0 t := by
  have key : ∀ (qs : List (Nat × Nat)) (S : List KT × List Nat), (∀ p ∈ qs, P p.1 p.2) → ((∀ q ∈ S.1, P q.2.1 q.2.2) ∧ ∀ t ∈ S.2, P 0 t) → ((∀ q ∈ (qs.foldl rstep S).1, P q.2.1 q.2.2) ∧ ∀ t ∈ (qs.foldl rstep S).2, P 0 t) := by
    intro qs
    induction qs with
    | nil => intro S _ h; exact h
    | cons p qs ih =>
      intro S hq ⟨h1, h2⟩
      refine ih (rstep S p) (fun r hr => hq r (List.mem_cons_of_mem _ hr)) ?_
      have d := down_rel hP h1 (hq p List.mem_cons_self)
      unfold rstep put1
      by_cases hz : (down S.1 p).1 = 0
      · rw [if_pos hz]
        refine ⟨h1, fun t ht => ?_⟩
        rcases List.mem_append.mp ht with ht | ht
        · exact h2 t ht
        · rw [List.mem_singleton.mp ht, ← hz]
          exact d
      · rw [if_neg hz]
        refine ⟨fun q hq => ?_, h2⟩
        rcases List.mem_append.mp hq with hq | hq
        · obtain ⟨r, hr, rfl⟩ := List.mem_map.mp hq
          unfold up1
          split
          · exact hP _ _ _ _ (h1 r hr) d
          · exact h1 r hr
        · rw [List.mem_singleton.mp hq]
          exact d
  exact key ps ([], []) h ⟨fun q h => (by cases h), fun t h => (by cases h)⟩
theorem Kp.rank {l : List KT} (h : Kp l) : rk (rows l) = l.length := by
  have e : rows l = (l.map fun q => (q.1, q.2.1)).map (·.2) := by rw [List.map_map]; rfl
  rw [e, rk_own, List.length_map]
  · intro p hp
    obtain ⟨q, hq, rfl⟩ := List.mem_map.mp hp
    exact (h.top q hq).1
  · rw [List.pairwise_map]
    have nd := h.nd
    rw [List.Nodup, List.pairwise_map] at nd
    refine List.Pairwise.imp_of_mem (fun {a b} ha hb ne => ?_) nd
    exact h.own a ha b hb ne
theorem red_rank (ps : List (Nat × Nat)) : (red ps).1.length = rk (ps.map (·.1)) := by
  have h := Rd.of ps
  rw [← h.kp.rank]
  refine rk_ext (fun a ha => ?_) fun a ha => ?_
  · rw [← h.spn]; exact sp_mem ha
  · rw [h.spn]; exact sp_mem ha
end GF
namespace GF
def xs : List Nat → Nat := List.foldr (· ^^^ ·) 0
theorem xs_cons (a : Nat) (l : List Nat) : xs (a :: l) = a ^^^ xs l := rfl
theorem xs_app : ∀ l m : List Nat, xs (l ++ m) = xs l ^^^ xs m
  | [], m => (Nat.zero_xor _).symm
  | a :: l, m => by rw [List.cons_append, xs_cons, xs_cons, xs_app l m, Nat.xor_assoc]
theorem xs_filter (p : Nat → Bool) (f : Nat → Nat) : ∀ l : List Nat, xs ((l.filter p).map f) = xs (l.map fun i => if p i = true then f i else 0)
  | [] => rfl
  | a :: l => by
    rw [List.filter_cons]
    split
    · rename_i h
      rw [List.map_cons, xs_cons, xs_filter p f l, List.map_cons, xs_cons, if_pos h]
    · rename_i h
      rw [xs_filter p f l, List.map_cons, xs_cons, if_neg h, Nat.zero_xor]
theorem xs_xor (f g : Nat → Nat) : ∀ l : List Nat, xs (l.map fun i => f i ^^^ g i) = xs (l.map f) ^^^ xs (l.map g)
  | [] => (Nat.xor_self 0).symm
  | a :: l => by
    simp only [List.map_cons, xs_cons]
    rw [xs_xor f g l, Nat.xor_assoc, Nat.xor_assoc]
    congr 1
    rw [← Nat.xor_assoc, ← Nat.xor_assoc, Nat.xor_comm (g a)]
theorem xs_one {a i : Nat} : ∀ {l : List Nat}, l.Nodup → xs (l.map fun j => if j = i then a else 0) = if i ∈ l then a else 0
  | [], _ => rfl
  | b :: l, h => by
    rw [List.nodup_cons] at h
    rw [List.map_cons, xs_cons, xs_one h.2]
    by_cases e : b = i
    · subst e
      rw [if_pos rfl, if_neg h.1, if_pos List.mem_cons_self, Nat.xor_zero]
    · rw [if_neg e, Nat.zero_xor]
      by_cases m : i ∈ l
      · rw [if_pos m, if_pos (List.mem_cons_of_mem _ m)]
      · rw [if_neg m, if_neg (fun z => (List.mem_cons.mp z).elim (fun z => e z.symm) m)]
/-- what the rows at the figures of t make -/
def comb (L : List Nat) (t : Nat) : Nat := xs (((List.range L.length).filter t.testBit).map fun i => L.getD i 0)
theorem comb_is (L : List Nat) (t : Nat) : comb L t = xs ((List.range L.length).map fun i => if t.testBit i = true then L.getD i 0 else 0) := xs_filter _ _ _
theorem comb_xor (L : List Nat) (s t : Nat) : comb L (s ^^^ t) = comb L s ^^^ comb L t := by
  rw [comb_is, comb_is, comb_is, ← xs_xor]
  congr 1
  refine List.map_congr_left fun i _ => ?_
  rw [Nat.testBit_xor]
  cases s.testBit i <;> cases t.testBit i <;> simp
theorem comb_zero (L : List Nat) : comb L 0 = 0 := by
  have h := comb_xor L 0 0
  rwa [Nat.xor_self, Nat.xor_self] at h
theorem comb_one {L : List Nat} {i : Nat} (h : i < L.length) : comb L (2 ^ i) = L.getD i 0 := by
  rw [comb_is]
  have e : (List.range L.length).map (fun j => if (2 ^ i).testBit j = true then L.getD j 0 else 0) = (List.range L.length).map fun j => if j = i then L.getD i 0 else 0 := by
    refine List.map_congr_left fun j _ => ?_
    rw [Nat.testBit_two_pow]
    by_cases e : j = i
    · subst e; simp
    · rw [if_neg e, decide_eq_false (fun z => e z.symm)]
      rfl
  rw [e, xs_one List.nodup_range, if_pos (List.mem_range.mpr h)]
theorem comb_sp {L : List Nat} (t : Nat) : sp L (comb L t) = true := by
  have key : ∀ M : List Nat, (∀ a ∈ M, sp L a = true) → sp L (xs M) = true := by
    intro M
    induction M with
    | nil => intro _; exact sp_zero L
    | cons a M ih => intro h; exact sp_add (h a List.mem_cons_self) (ih fun b hb => h b (List.mem_cons_of_mem _ hb))
  refine key _ fun a ha => ?_
  obtain ⟨i, hi, rfl⟩ := List.mem_map.mp ha
  have hi := List.mem_range.mp (List.mem_filter.mp hi).1
  rw [List.getD_eq_getElem?_getD, List.getElem?_eq_getElem hi]
  exact sp_mem (List.getElem_mem hi)
/-- rows with their numbers' figures as tags -/
def tagged (L : List Nat) : List (Nat × Nat) := L.zipIdx.map fun p => (p.1, 2 ^ p.2)
theorem tagged_rows (L : List Nat) : (tagged L).map (·.1) = L := by
  unfold tagged
  rw [List.map_map]
  exact List.zipIdx_map_fst 0 L
theorem xor_two_lt {u m : Nat} (h : u < 2 ^ m) : (2 ^ m ^^^ u).testBit m = true ∧ 2 ^ m ^^^ u < 2 ^ (m + 1) := by
  refine ⟨?_, Nat.xor_lt_two_pow (Nat.pow_lt_pow_right (by omega) (by omega)) (Nat.lt_of_lt_of_le h (Nat.pow_le_pow_right (by omega) (by omega)))⟩
  rw [Nat.testBit_xor, Nat.testBit_two_pow_self, Nat.testBit_lt_two_pow h]
  rfl
theorem down_tag {m : Nat} : ∀ {l : List KT} {p : Nat × Nat}, (∀ q ∈ l, q.2.2 < 2 ^ m) → (down l p).2 ^^^ p.2 < 2 ^ m
  | [], p, _ => by
    show p.2 ^^^ p.2 < 2 ^ m
    rw [Nat.xor_self]
    exact Nat.two_pow_pos m
  | q :: l, p, h => by
    have ih := down_tag (l := l) (p := d1 p q) fun r hr => h r (List.mem_cons_of_mem _ hr)
    show (down l (d1 p q)).2 ^^^ p.2 < 2 ^ m
    have e : (d1 p q).2 ^^^ p.2 < 2 ^ m := by
      unfold d1
      split
      · show (p.2 ^^^ q.2.2) ^^^ p.2 < 2 ^ m
        rw [xor_right_comm, Nat.xor_self, Nat.zero_xor]
        exact h q List.mem_cons_self
      · rw [Nat.xor_self]; exact Nat.two_pow_pos m
    have z := Nat.xor_lt_two_pow ih e
    rwa [← Nat.xor_assoc, xor_cancel] at z
/-- the numbers of the rows that earlier ones make -/
def deps (L : List Nat) : List Nat := (List.range L.length).filter fun i => sp (L.take i) (L.getD i 0)
structure Tg (L : List Nat) (S : List KT × List Nat) : Prop where
  rd : Rd (tagged L) S
  lt : ∀ q ∈ S.1, q.2.2 < 2 ^ L.length
  idl : ∀ t ∈ S.2, t ≠ 0
  tops : S.2.map Nat.log2 = deps L
theorem tagged_snoc (L : List Nat) (a : Nat) : tagged (L ++ [a]) = tagged L ++ [(a, 2 ^ L.length)] := by
  unfold tagged
  rw [List.zipIdx_append, List.map_append]
  simp
theorem deps_snoc (L : List Nat) (a : Nat) : deps (L ++ [a]) = deps L ++ (if sp L a = true then [L.length] else []) := by
  unfold deps
  rw [List.length_append, List.length_singleton, List.range_succ, List.filter_append]
  congr 1
  · refine List.filter_congr fun i hi => ?_
    have hi := List.mem_range.mp hi
    rw [List.take_append_of_le_length (by omega), List.getD_eq_getElem?_getD, List.getD_eq_getElem?_getD, List.getElem?_append_left hi]
  · have e : (L ++ [a]).take L.length = L := List.take_left
    have e2 : (L ++ [a]).getD L.length 0 = a := by rw [List.getD_eq_getElem?_getD, List.getElem?_concat_length]; rfl
    rw [List.filter_cons, e, e2]
    simp
theorem Tg.step {L : List Nat} {S : List KT × List Nat} (h : Tg L S) (a : Nat) : Tg (L ++ [a]) (rstep S (a, 2 ^ L.length)) := by
  have hr := h.rd.step (a, 2 ^ L.length)
  rw [← tagged_snoc] at hr
  have hd := down_tag (p := (a, 2 ^ L.length)) h.lt
  have e : (down S.1 (a, 2 ^ L.length)).2 = 2 ^ L.length ^^^ ((down S.1 (a, 2 ^ L.length)).2 ^^^ 2 ^ L.length) := by
    rw [Nat.xor_comm (down S.1 (a, 2 ^ L.length)).2, ← Nat.xor_assoc, Nat.xor_self, Nat.zero_xor]
  have ht := xor_two_lt hd
  rw [← e] at ht
  have hin := down_in h.rd.kp (p := (a, 2 ^ L.length))
  rw [h.rd.spn, tagged_rows] at hin
  have wide : ∀ {x : Nat}, x < 2 ^ L.length → x < 2 ^ (L.length + 1) := fun hx => Nat.lt_of_lt_of_le hx (Nat.pow_le_pow_right (by omega) (by omega))
  refine ⟨hr, ?_, ?_, ?_⟩
  · intro q hq
    rw [List.length_append, List.length_singleton]
    unfold rstep put1 at hq
    by_cases hz : (down S.1 (a, 2 ^ L.length)).1 = 0
    · rw [if_pos hz] at hq
      exact wide (h.lt q hq)
    · rw [if_neg hz] at hq
      rcases List.mem_append.mp hq with hq | hq
      · obtain ⟨r, hr, rfl⟩ := List.mem_map.mp hq
        unfold up1
        split
        · exact Nat.xor_lt_two_pow (wide (h.lt r hr)) ht.2
        · exact wide (h.lt r hr)
      · rw [List.mem_singleton.mp hq]
        exact ht.2
  · intro t hq
    unfold rstep put1 at hq
    by_cases hz : (down S.1 (a, 2 ^ L.length)).1 = 0
    · rw [if_pos hz] at hq
      rcases List.mem_append.mp hq with hq | hq
      · exact h.idl t hq
      · rw [List.mem_singleton.mp hq]
        intro z
        rw [z, Nat.zero_testBit] at ht
        exact Bool.false_ne_true ht.1
    · rw [if_neg hz] at hq
      exact h.idl t hq
  · rw [deps_snoc]
    unfold rstep put1
    by_cases hz : (down S.1 (a, 2 ^ L.length)).1 = 0
    · rw [if_pos hz, if_pos (hin.mp hz), List.map_append, h.tops, List.map_singleton, top_log2 ht.1 ht.2]
    · rw [if_neg hz, if_neg (fun z => hz (hin.mpr z)), List.append_nil, h.tops]
theorem Tg.of (L : List Nat) : Tg L (red (tagged L)) := by
  have key : ∀ (n : Nat) (L : List Nat), L.length = n → Tg L (red (tagged L)) := by
    intro n
    induction n with
    | zero =>
      intro L hL
      rw [List.length_eq_zero_iff.mp hL]
      exact ⟨Rd.of _, fun q h => (by cases h), fun t h => (by cases h), rfl⟩
    | succ n ih =>
      intro L hL
      have hne : L ≠ [] := fun z => by rw [z] at hL; cases hL
      rw [← List.dropLast_concat_getLast hne, tagged_snoc]
      unfold red
      rw [List.foldl_append]
      exact (ih L.dropLast (by simp [hL])).step _
  exact key _ L rfl
theorem xor_inj {a b c : Nat} (h : a ^^^ c = b ^^^ c) : a = b := by
  have h2 := congrArg (· ^^^ c) h
  simpa only [xor_cancel] using h2
theorem tag_rel (L : List Nat) : (∀ q ∈ (red (tagged L)).1, comb L q.2.2 = q.2.1) ∧ ∀ t ∈ (red (tagged L)).2, comb L t = 0 :=
  red_rel (P := fun r t => comb L t = r) (fun a b c d h1 h2 => by rw [comb_xor, h1, h2]) fun p hp => by
    unfold tagged at hp
    obtain ⟨q, hq, rfl⟩ := List.mem_map.mp hp
    obtain ⟨x, i⟩ := q
    have e := List.mem_zipIdx_iff_getElem?.mp hq
    obtain ⟨hi, e2⟩ := List.getElem?_eq_some_iff.mp e
    show comb L (2 ^ i) = x
    rw [comb_one hi, List.getD_eq_getElem?_getD, e]
    rfl
theorem log2_xor_lt {a b : Nat} (hb : b ≠ 0) (h : a.log2 < b.log2) : (a ^^^ b).log2 = b.log2 := by
  have tb := log2_top hb
  have ha : a < 2 ^ b.log2 := by
    by_cases h0 : a = 0
    · rw [h0]; exact Nat.two_pow_pos _
    · exact Nat.lt_of_lt_of_le (log2_top h0).2 (Nat.pow_le_pow_right (by omega) h)
  refine top_log2 ?_ (Nat.xor_lt_two_pow (Nat.lt_of_lt_of_le ha (Nat.pow_le_pow_right (by omega) (by omega))) tb.2)
  rw [Nat.testBit_xor, tb.1, Nat.testBit_lt_two_pow ha]
  rfl
theorem top_in : ∀ {L : List Nat}, (∀ a ∈ L, a ≠ 0) → (L.map Nat.log2).Nodup → ∀ {x : Nat}, sp L x = true → x ≠ 0 → x.log2 ∈ L.map Nat.log2
  | [], _, _, x, h, hx => absurd (by simpa [sp] using h) hx
  | a :: L, h0, hn, x, h, hx => by
    rw [List.map_cons, List.nodup_cons] at hn
    have h : (sp L x || sp L (x ^^^ a)) = true := h
    have h0' : ∀ b ∈ L, b ≠ 0 := fun b hb => h0 b (List.mem_cons_of_mem _ hb)
    rw [Bool.or_eq_true] at h
    rw [List.map_cons]
    rcases h with h | h
    · exact List.mem_cons_of_mem _ (top_in h0' hn.2 h hx)
    · by_cases hy : x ^^^ a = 0
      · have e : x = a := xor_inj (c := a) (by rw [hy, Nat.xor_self])
        rw [e]
        exact List.mem_cons_self
      · have m := top_in h0' hn.2 h hy
        have ne : (x ^^^ a).log2 ≠ a.log2 := fun z => hn.1 (z ▸ m)
        have e : (x ^^^ a) ^^^ a = x := xor_cancel x a
        rcases Nat.lt_or_gt_of_ne ne with lt | lt
        · rw [← e, log2_xor_lt (h0 a List.mem_cons_self) lt]
          exact List.mem_cons_self
        · rw [← e, Nat.xor_comm, log2_xor_lt hy lt]
          exact List.mem_cons_of_mem _ m
theorem Kp.keys {l : List KT} (h : Kp l) : (rows l).map Nat.log2 = l.map (·.1) := by
  unfold rows
  rw [List.map_map]
  exact List.map_congr_left fun q hq => top_log2 (h.top q hq).1 (h.top q hq).2
theorem Kp.ne0 {l : List KT} (h : Kp l) : ∀ a ∈ rows l, a ≠ 0 := fun a ha z => by
  obtain ⟨q, hq, rfl⟩ := List.mem_map.mp ha
  have := (h.top q hq).1
  rw [z, Nat.zero_testBit] at this
  cases this
/-- distinct highest figures -/
theorem rk_tops : ∀ {L : List Nat}, (∀ a ∈ L, a ≠ 0) → (L.map Nat.log2).Nodup → rk L = L.length
  | [], _, _ => rfl
  | a :: L, h0, hn => by
    have h0' : ∀ b ∈ L, b ≠ 0 := fun b hb => h0 b (List.mem_cons_of_mem _ hb)
    rw [List.map_cons, List.nodup_cons] at hn
    unfold rk
    rw [if_neg (fun z => hn.1 (top_in h0' hn.2 z (h0 a List.mem_cons_self))), rk_tops h0' hn.2]
    rfl
theorem deps_nodup (L : List Nat) : (deps L).Nodup := List.Nodup.sublist List.filter_sublist List.nodup_range
/-- the reduced lots, as numbers -/
structure Lots (L : List Nat) (K : List KT) : Prop where
  kp : Kp K
  zero : ∀ q ∈ K, comb L q.2.1 = 0 ∧ q.2.1 < 2 ^ L.length
  many : K.length + rk L = L.length
  keys : ∀ i, i ∈ K.map (·.1) ↔ i ∈ deps L
  all : ∀ t, t < 2 ^ L.length → comb L t = 0 → sp (rows K) t = true
def lotsK (L : List Nat) : List KT := (red ((red (tagged L)).2.map fun m => (m, 0))).1
theorem idle_rank (L : List Nat) : rk (red (tagged L)).2 = (red (tagged L)).2.length := rk_tops (Tg.of L).idl (by rw [(Tg.of L).tops]; exact deps_nodup L)
theorem second_rows (l : List Nat) : (l.map fun m => (m, 0)).map (·.1) = l := by
  rw [List.map_map]
  exact List.map_id l
theorem idle_lt (L : List Nat) : ∀ t ∈ (red (tagged L)).2, t < 2 ^ L.length := fun t ht => by
  have tg := Tg.of L
  have m : t.log2 ∈ deps L := tg.tops ▸ List.mem_map.mpr ⟨t, ht, rfl⟩
  have m := List.mem_range.mp (List.mem_filter.mp m).1
  exact Nat.lt_of_lt_of_le (log2_top (tg.idl t ht)).2 (Nat.pow_le_pow_right (by omega) m)
theorem Lots.of (L : List Nat) : Lots L (lotsK L) := by
  have tg := Tg.of L
  have hr := Rd.of ((red (tagged L)).2.map fun m => (m, 0))
  have hs : sp (rows (lotsK L)) = sp (red (tagged L)).2 := by
    have := hr.spn
    rwa [second_rows] at this
  have nd : ((red (tagged L)).2.map Nat.log2).Nodup := by rw [tg.tops]; exact deps_nodup L
  have hk : Kp (lotsK L) := hr.kp
  have hz : ∀ x, sp (red (tagged L)).2 x = true → comb L x = 0 ∧ x < 2 ^ L.length := fun x hx => by
    refine ⟨?_, sp_lt (idle_lt L) hx⟩
    have key : ∀ M : List Nat, (∀ a ∈ M, comb L a = 0) → ∀ x, sp M x = true → comb L x = 0 := by
      intro M
      induction M with
      | nil => intro _ x hx; rw [show x = 0 by simpa [sp] using hx, comb_zero]
      | cons a M ih =>
        intro hM x hx
        have hx : (sp M x || sp M (x ^^^ a)) = true := hx
        rw [Bool.or_eq_true] at hx
        have hM' : ∀ b ∈ M, comb L b = 0 := fun b hb => hM b (List.mem_cons_of_mem _ hb)
        rcases hx with hx | hx
        · exact ih hM' x hx
        · have q := ih hM' _ hx
          rwa [comb_xor, hM a List.mem_cons_self, Nat.xor_zero] at q
    exact key _ (tag_rel L).2 x hx
  have keys : ∀ i, i ∈ (lotsK L).map (·.1) ↔ i ∈ deps L := fun i => by
    rw [← hk.keys, ← tg.tops]
    constructor
    · intro h
      obtain ⟨a, ha, rfl⟩ := List.mem_map.mp h
      exact top_in tg.idl nd (by rw [← hs]; exact sp_mem ha) (hk.ne0 a ha)
    · intro h
      obtain ⟨a, ha, rfl⟩ := List.mem_map.mp h
      exact top_in hk.ne0 (by rw [hk.keys]; exact hk.nd) (by rw [hs]; exact sp_mem ha) (tg.idl a ha)
  refine ⟨hk, fun q hq => hz _ (by rw [← hs]; exact sp_mem (List.mem_map.mpr ⟨q, hq, rfl⟩)), ?_, keys, fun t ht hc => ?_⟩
  · have h1 := red_rank ((red (tagged L)).2.map fun m => (m, 0))
    rw [second_rows, idle_rank] at h1
    have h2 := tg.rd.many
    have h3 := red_rank (tagged L)
    rw [tagged_rows] at h3
    have h4 : (tagged L).length = L.length := by unfold tagged; simp
    show (red ((red (tagged L)).2.map fun m => (m, 0))).1.length + rk L = L.length
    omega
  · -- what is left of t when reduced rows are taken from it is nothing
    have key : ∀ t, t < 2 ^ L.length → comb L t = 0 → t ≠ 0 → t.log2 ∈ deps L := fun t ht hc h0 => by
      have top := log2_top h0
      have hi : t.log2 < L.length := (Nat.pow_lt_pow_iff_right (by omega : 1 < 2)).mp (Nat.lt_of_le_of_lt (Nat.log2_self_le h0) ht)
      refine List.mem_filter.mpr ⟨List.mem_range.mpr hi, ?_⟩
      have e : t = 2 ^ t.log2 ^^^ (2 ^ t.log2 ^^^ t) := by rw [← Nat.xor_assoc, Nat.xor_self, Nat.zero_xor]
      have lo : 2 ^ t.log2 ^^^ t < 2 ^ t.log2 := by
        refine Nat.lt_pow_two_of_testBit _ fun i hi2 => ?_
        rw [Nat.testBit_xor, Nat.testBit_two_pow]
        by_cases hE : t.log2 = i
        · rw [← hE, top.1]; simp
        · rw [decide_eq_false hE, testBit_big top.2 (by omega)]; rfl
      rw [e, comb_xor, comb_one hi] at hc
      have e2 : L.getD t.log2 0 = comb L (2 ^ t.log2 ^^^ t) := xor_inj (c := comb L (2 ^ t.log2 ^^^ t)) (by rw [hc, Nat.xor_self])
      rw [e2]
      have e3 : comb L (2 ^ t.log2 ^^^ t) = comb (L.take t.log2) (2 ^ t.log2 ^^^ t) := by
        rw [comb_is, comb_is]
        have e4 : List.range L.length = List.range t.log2 ++ (List.range (L.length - t.log2)).map (t.log2 + ·) := by
          rw [← List.range_add]; congr 1; omega
        rw [e4, List.map_append, xs_app, List.length_take, Nat.min_eq_left (by omega)]
        have e5 : xs (((List.range (L.length - t.log2)).map (t.log2 + ·)).map fun i => if (2 ^ t.log2 ^^^ t).testBit i = true then L.getD i 0 else 0) = 0 := by
          rw [List.map_map]
          have e6 : (List.range (L.length - t.log2)).map ((fun i => if (2 ^ t.log2 ^^^ t).testBit i = true then L.getD i 0 else 0) ∘ (t.log2 + ·)) = (List.range (L.length - t.log2)).map fun j => if j = L.length then 0 else 0 := by
            refine List.map_congr_left fun j _ => ?_
            show (if (2 ^ t.log2 ^^^ t).testBit (t.log2 + j) = true then L.getD (t.log2 + j) 0 else 0) = _
            rw [testBit_big lo (by omega)]
            simp
          rw [e6, xs_one List.nodup_range]
          simp
        rw [e5, Nat.xor_zero]
        congr 1
        refine List.map_congr_left fun i hi2 => ?_
        have hi2 := List.mem_range.mp hi2
        rw [List.getD_eq_getElem?_getD, List.getD_eq_getElem?_getD, List.getElem?_take_of_lt hi2]
      rw [e3]
      exact comb_sp _
    have fin : ∀ (n t : Nat), t < 2 ^ n → t < 2 ^ L.length → comb L t = 0 → sp (rows (lotsK L)) t = true := by
      intro n
      induction n with
      | zero => intro t h0 _ _; rw [show t = 0 by omega]; exact sp_zero _
      | succ n ih =>
        intro t hn ht hc
        by_cases h0 : t = 0
        · rw [h0]; exact sp_zero _
        have m := (keys _).mpr (key t ht hc h0)
        obtain ⟨q, hq, eq⟩ := List.mem_map.mp m
        have sq : sp (rows (lotsK L)) q.2.1 = true := sp_mem (List.mem_map.mpr ⟨q, hq, rfl⟩)
        have zq := hz q.2.1 (by rw [← hs]; exact sq)
        have tq := hk.top q hq
        have top := log2_top h0
        have l2 : t.log2 < n + 1 := (Nat.pow_lt_pow_iff_right (by omega : 1 < 2)).mp (Nat.lt_of_le_of_lt (Nat.log2_self_le h0) hn)
        have lo : t ^^^ q.2.1 < 2 ^ n := by
          refine Nat.lt_pow_two_of_testBit _ fun i hi2 => ?_
          rw [Nat.testBit_xor]
          by_cases hE : i = t.log2
          · rw [hE, top.1, ← eq, tq.1]; rfl
          · have a1 : t.testBit i = false := testBit_big top.2 (by omega)
            have a2 : q.2.1.testBit i = false := testBit_big tq.2 (by omega)
            rw [a1, a2]; rfl
        have s := ih (t ^^^ q.2.1) lo (Nat.xor_lt_two_pow ht zq.2) (by rw [comb_xor, hc, zq.1]; rfl)
        have z := sp_add s sq
        rwa [xor_cancel] at z
    exact fin _ t ht ht hc
end GF
open Lean in
local macro_rules
  | `(tactic| k_state0 [$xs,*]) => do
    let mut ys : Array (TSyntax [`Lean.Parser.Tactic.simpErase, `Lean.Parser.Tactic.simpLemma]) := #[]
    for x in xs.getElems do
      match x with
      | `(-$i:ident) => ys := ys.push ⟨(← `(Parser.Tactic.simpErase| -$i:ident)).raw⟩
      | _ => ys := ys.push ⟨(← `(Parser.Tactic.simpLemma| $x:term)).raw⟩
    `(tactic| simp (disch := (first | assumption | omega | (simp only [List.length_cons, List.length_nil, List.length_map, List.length_append, List.length_replicate] <;> omega))) only [DX.rb_ok, DX.rb_exc, DX.rb_bad, DX.rb_ite, DX.m_ret, DX.m_badE, DX.m_opt, DX.m_optn, DX.m_ite, DX.rO_some, DX.rO_none, DX.rW_some, DX.rW_none, DX.rO_map, DX.rW_map, DX.s_var0, DX.s_varS, DX.s_c, DX.s_bin, DX.k_bin, DX.s_lift, DX.s_un, DX.s_liftU, DX.s_eqc, DX.k_eqc, DX.k_eqc2, DX.eq_ii, DX.ne_ii, DX.eq_ss, DX.ne_ss, DX.eq_bb, DX.ne_bb, DX.s_cmpE, DX.s_asB, DX.s_tru, DX.k_tru, DX.rT_some, DX.tru_d, DX.tru_c, DX.dtru_bl, DX.dtru_non, DX.dtru_int, DX.dtru_lst, DX.dtru_tup, DX.s_and, DX.s_or, DX.s_not, DX.k_and, DX.k_or, DX.k_not, DX.s_yes, DX.m_and, DX.m_or, DX.s_eand, DX.k_eand, DX.k_eand2, DX.s_eor, DX.k_eor, DX.k_eor2, DX.s_enot, DX.k_enot, DX.k_enot2, DX.s_if, DX.k_if, DX.m_iteD, DX.m_iteI, DX.m_iteB, DX.m_iteAnd, DX.m_iteOr, DX.m_iteS, DX.s_chain, DX.k_ch, DX.k_ch2, DX.k_ch3, DX.k_ch4, DX.s_anil, DX.s_acons, DX.k_arg, DX.k_arg2, DX.s_tup, DX.s_lst, DX.k_tup, DX.k_lst, DX.rL_some, DX.dats_nil, DX.dats_cons, DX.opt_map_some, DX.opt_map_none, DX.opt_or_some, DX.opt_or_none, DX.opt_bind_some, DX.s_ix, DX.k_ix, DX.k_ix2, DX.wix_dd, DX.wix_cd, DX.ix_t, DX.ix_l, DX.ix_s, DX.cix_l, DX.cix_d, DX.ix_d, DX.at_0, DX.at_1, DX.at_2, DX.s_sl, DX.k_sl, DX.k_sl2, DX.k_sl3, DX.s_onone, DX.s_osome, DX.k_asI, DX.sl_d, DX.sl_c, DX.sl_l, DX.sl_t, DX.cut_hi, DX.cut_lo, DX.cut_lh, DX.s_fn, DX.k_fn0, DX.k_fn1, DX.k_fn2, DX.k_fn3, DX.k_fn4, DX.k_fn5, DX.k_fn6, DX.s_fnp, DX.k_fnp1, DX.k_fnp2, DX.k_fnp2r, DX.k_fnp3, DX.s_call, DX.k_call, DX.s_o1, DX.s_o2, DX.len_d, DX.len_c, DX.len_l, DX.len_t, DX.len_scr, DX.len_s, DX.clen_l, DX.int_i, DX.int_b, DX.min_i, DX.max_i, DX.sq_dl, DX.sq_cl, DX.csq_l, DX.lof_t, DX.lof_l, DX.tof_t, DX.tof_l, DX.s_meth, DX.k_meth, DX.k_meth_str, DX.ok_str, DX.mt_str1, DX.mt_join, DX.d_I0, DX.d_mod, DX.d_div, DX.d_pow, DX.d_shr, DX.d_neg, DX.d_mulL, DX.d_mulR, DX.d_mulS, DX.d_addI, DX.d_addS, DX.d_addL, DX.d_addT, DX.s_seq, DX.k_seq_nx, DX.k_seq_rt, DX.k_seq_bk, DX.k_seq_ct, DX.s_nil, DX.s_ret, DX.k_ret, DX.s_retn, DX.s_brk, DX.s_cnt, DX.s_expr, DX.k_expr, DX.s_sif, DX.k_sif, DX.s_set, DX.k_set, DX.s_asg, DX.k_asg, DX.rE_some, DX.t_name, DX.t_tup, DX.t_cons, DX.t_nil, DX.s_par, DX.k_par, DX.s_par3, DX.k_par3, DX.s_raise, DX.s_put, DX.k_put, DX.k_put2, DX.k_put3, DX.k_put4, DX.put_is, DX.s_for, DX.k_for, DX.s_while, DX.s_iseq, DX.as_l, DX.as_t, DX.as_s, DX.as_scr, DX.s_rg1, DX.s_rg2, DX.k_rg1, DX.k_rg2, DX.s_enum, DX.k_enum_l, DX.k_enum_s, DX.s_zip, DX.k_zip_l, DX.k_zip_lt, DX.k_zip_tl, DX.k_zip_t, DX.k_zip_s, DX.s_off, DX.k_of, DX.rD_some, DX.dats_mapd, DX.s_flc, DX.k_lc, DX.wipe_nil, DX.wipe_cons, DX.s_celf, DX.k_celf, DX.s_flst, DX.k_flst, DX.k_fin_rt, DX.k_fin_nx, DX.start_nil, DX.start_cons, DX.repl_0, DX.repl_S, DX.s_caught, DX.s_frz, DX.k_frzd, DX.s_fld, DX.k_fld, DX.s_rgl1, DX.k_rgl1, DX.s_rgl2, DX.k_rgl, DX.k_rgl2, DX.s_flc2, DX.k_lc2, DX.s_new, DX.k_new2, DX.dk_cat, DX.dk_cat2, DX.dk_cat3, DX.dk_nil, DX.dk_cons, DX.dk_val, DX.dk_val2, DX.dk_dicC, DX.dk_dicC2, DX.dk_dic, DX.dk_dic2, DX.dk_rK, DX.dk_dat, DX.dk_datn, DX.eq_nn, DX.ne_nn, DX.lo_l, DX.lo_t, DX.lo_s, DX.dk_frz, DX.dk_rF, DX.dk_cfrz, DX.dk_methc, DX.dk_rLst, DX.dk_app, DX.dk_rApp, DX.dk_ext, DX.dk_rExt, DX.dk_snoc, DX.dk_last, DX.dk_setl, DX.dk_putF, DX.dk_putF2, DX.dk_putF3, DX.dk_putF4, DX.dk_rPF, DX.dk_new, DX.dk_newT, DX.dk_cfrzI, DX.dk_mulT, DX.dk_tlst, DX.s_lock, DX.s_keys, DX.cix_k, DX.k_bits, DX.s_star, DX.k_star, DX.k_star2, DX.k_star3, DX.k_starl, DX.k_start, DX.k_mcell, DX.s_flist, DX.k_flist, DX.k_flistt, DX.s_enumT, DX.k_enumT_t, DX.k_enumT_l, DX.k_enumT_s, DX.s_geT, DX.s_revTe, DX.s_revS, DX.s_revT, DX.k_kde, DX.k_kd, DX.k_revLe, DX.k_revL, DX.k_r1e, DX.k_r1, DX.k_xfe, DX.k_xf, DX.s_aapp, DX.k_app1, DX.k_app2, DX.k_appc1, DX.k_appc2, DX.s_hasT, DX.k_hasT, DX.k_hasT2, DX.k_rH, DX.s_get2, DX.k_get2, DX.k_get2b, DX.k_get2c, DX.k_rG, DX.cix_dit, DX.s_putT, DX.k_putT, DX.k_putT2, DX.k_putT3, DX.s_put2, DX.k_p2, DX.s_putTup, DX.k_pt, DX.k_la, DX.k_lb, DX.k_lcc, DX.k_ld, DX.k_nx, DX.s_fmul, DX.k_mul, DX.k_mulA, DX.s_frz2, DX.s_dc, DX.k_dc, DX.k_dcr, DX.k_frzT, DX.s_aug, DX.k_aug, DX.k_aug2, DX.k_aug3, List.set_cons_zero, List.set_cons_succ, List.getElem?_cons_zero, List.getElem?_cons_succ, List.length_cons, List.length_nil, ↓reduceIte, Nat.reduceAdd, decide_eq_true_eq, Bool.not_true, Bool.not_false, Bool.true_and, Bool.false_and, Bool.and_true, Bool.and_false, Bool.or_true, Bool.or_false, Bool.true_or, Bool.false_or, reduceCtorEq, decide_true, decide_false, Bool.false_eq_true, Int.reduceLT, Int.reduceLE, Int.reduceNeg, Int.reduceAdd, Int.reduceSub, Int.reduceMul, Nat.reduceMul, Nat.reduceLeDiff, Nat.zero_add, Bool.not_not, beq_self_eq_true, bne_self_eq_false, not_true_eq_false, not_false_eq_true, Bool.not_eq_true, Option.some.injEq, List.map_cons, List.map_nil, List.isEmpty_cons, List.isEmpty_nil, and_self, and_true, true_and, Int.toNat_natCast, Int.natCast_nonneg, Int.reduceToNat, Int.reduceEq, Int.reduceNe, Nat.reduceLT, Int.reduceBEq, Int.reduceBNe, Bool.not_eq_eq_eq_not, eq_self, if_true, if_false, ite_self, $ys,*])
namespace DX
open PySem PySem.Spec PyProof.Rows L2
def largeLen (cs : List Cell) : Nat := (cs.map fun c => match c with | .lst l => l.length | _ => 0).sum
def mu__law_draw_0 (_ : En) (cs : List Cell) : Nat := largeLen (cs.take 1) + 1
def ce__law_begun_0 : Ev := eCall (o1 dAbs) (aCons (eVar 3) (aNil))
def ci__law_begun_0 : EvT := tCmpE (eBin (dI0 fun i j => .bl (decide (j ≤ i))) (eVar 3) (eBin (dI cPow fun i j => .int (i ^ j.toNat)) (eC (.int 10)) (eC (.int 18))))
def ce__law_begun_1 : Ev := eBin (dI0 fun i j => .int (i - j)) (eVar 3) (eBin (dI cPow fun i j => .int (i ^ j.toNat)) (eC (.int 10)) (eC (.int 18)))
def b__law_begun : Sv := sSeq (sSet 1 (eOfF (fLc (iSeq (eVar 0)) (tName 3) (tYesE) (ce__law_begun_0) [3]))) (sSeq (sSet 2 (eCelF (fLc (iSeq (eVar 1)) (tName 3) (ci__law_begun_0) (ce__law_begun_1) [3]))) (sRet (eDicC [(.inr "large", eVar 2), (.inr "cells", eVar 1), (.inr "left", eC (.int 0)), (.inr "turn", eC (.int 0))])))
abbrev m__law_begun : Fn := fnOf 4 (b__law_begun)
def lt__law_draw_0 : EvT := tAnd' (tCmpE (eEqC false (eIx (eVar 0) (eC (.str "left"))) (eC (.int 0)))) (tCmpE (eEqC true (eIx (eVar 0) (eC (.str "large"))) (eLst (aNil))))
def lw__law_draw_0 : Sv := sPut (eVar 0) (eC (.str "left")) (eMeth okLst oPopAt (eIx (eVar 0) (eC (.str "large"))) (aCons (eC (.int 0)) (aNil)))
def b__law_draw : Sv := sSeq (sWhile mu__law_draw_0 (lt__law_draw_0) (lw__law_draw_0)) (sSeq (sIf (tCmpE (eBin (dI0 fun i j => .bl (decide (j < i))) (eIx (eVar 0) (eC (.str "left"))) (eC (.int 0)))) (sSeq (sSet 2 (eBin (dI cMod fun i j => .int (i % j)) (eCall (o1 dInt1) (aCons (eIx (eVar 0) (eC (.str "left"))) (aNil))) (eVar 1))) (sSeq (sPut (eVar 0) (eC (.str "left")) (eBin (dI cDiv fun i j => .int (i / j)) (eIx (eVar 0) (eC (.str "left"))) (eVar 1))) (sRet (eVar 2)))) (sNil)) (sSeq (sSet 3 (eBin dAdd (eIx (eVar 0) (eC (.str "turn"))) (eC (.int 1)))) (sSeq (sPut (eVar 0) (eC (.str "turn")) (eVar 3)) (sSeq (sSet 4 (eIf (tCmpE (eEqC true (eIx (eVar 0) (eC (.str "cells"))) (eLst (aNil)))) (eIx (eIx (eVar 0) (eC (.str "cells"))) (eBin (dI cMod fun i j => .int (i % j)) (eCall (o1 dInt1) (aCons (eVar 3) (aNil))) (eCall oLen (aCons (eIx (eVar 0) (eC (.str "cells"))) (aNil))))) (eC (.int 0)))) (sSeq (sSet 5 (eBin (dI cMod fun i j => .int (i % j)) (eCall (o1 dInt1) (aCons (eBin (dI cPow fun i j => .int (i ^ j.toNat)) (eBin dAdd (eBin dAdd (eBin (dI cMod fun i j => .int (i % j)) (eCall (o1 dInt1) (aCons (eVar 4) (aNil))) (eC (.int 2147483563))) (eBin dMul (eC (.int 40692)) (eVar 3))) (eC (.int 24681))) (eC (.int 3))) (aNil))) (eC (.int 2147483629)))) (sRet (eBin (dI cMod fun i j => .int (i % j)) (eCall (o1 dInt1) (aCons (eBin (dI cDiv fun i j => .int (i / j)) (eBin (dI cMod fun i j => .int (i % j)) (eCall (o1 dInt1) (aCons (eBin (dI cPow fun i j => .int (i ^ j.toNat)) (eBin dAdd (eVar 5) (eBin dMul (eC (.int 104917)) (eVar 3))) (eC (.int 5))) (aNil))) (eC (.int 2147483579))) (eC (.int 29))) (aNil))) (eVar 1))))))))
abbrev m__law_draw : Fn := fnOf 6 (b__law_draw)
def b__law_pick : Sv := sRet (eIx (eVar 1) (eFn 2 (m__law_draw) (aCons (eVar 0) (aCons (eCall oLen (aCons (eVar 1) (aNil))) (aNil)))))
abbrev m__law_pick : Fn := fnOf 2 (b__law_pick)
def stC (large cells : List Int) (L T : Int) (xt : List Cell) : List Cell := .lst (large.map fun i => .dat (.int i)) :: .dic [(.inr "large", .cel 0), (.inr "cells", .dat (.lst (cells.map .int))), (.inr "left", .dat (.int L)), (.inr "turn", .dat (.int T))] :: xt
structure St (cs xt : List Cell) (t : Nat) : Prop where
  ex : ∃ (large cells : List Int) (L T : Int), cs = stC large cells L T xt ∧ 0 ≤ L ∧ (∀ x ∈ large, 0 ≤ x) ∧ 0 ≤ T ∧ T ≤ t
theorem St.mono {cs xt : List Cell} {t u : Nat} (h : St cs xt t) (e : t ≤ u) : St cs xt u := by
  obtain ⟨large, cells, L, T, h1, h2, h3, h4, h5⟩ := h.ex
  exact ⟨large, cells, L, T, h1, h2, h3, h4, by omega⟩
theorem St.len {cs xt : List Cell} {t : Nat} (h : St cs xt t) : cs.length = xt.length + 2 := by
  obtain ⟨large, cells, L, T, rfl, _⟩ := h.ex
  rfl
theorem St.get {cs xt : List Cell} {t : Nat} (h : St cs xt t) (k : Nat) : cs[k + 2]? = xt[k]? := by
  obtain ⟨large, cells, L, T, rfl, _⟩ := h.ex
  rfl
theorem St.app {cs xt : List Cell} {t : Nat} (h : St cs xt t) (ys : List Cell) : St (cs ++ ys) (xt ++ ys) t := by
  obtain ⟨large, cells, L, T, rfl, h2, h3, h4, h5⟩ := h.ex
  exact ⟨large, cells, L, T, rfl, h2, h3, h4, h5⟩
theorem St.set {cs xt : List Cell} {t : Nat} (h : St cs xt t) (k : Nat) (c : Cell) : St (cs.set (k + 2) c) (xt.set k c) t := by
  obtain ⟨large, cells, L, T, rfl, h2, h3, h4, h5⟩ := h.ex
  exact ⟨large, cells, L, T, rfl, h2, h3, h4, h5⟩
theorem pys_ints : ∀ l : List Int, pys (l.map .int) = some (l.map PyData.int)
  | [] => rfl
  | x :: l => by simp [pys, py, pys_ints l]
theorem lay_ints : ∀ l : List Int, PyData.canLayAll0 (l.map PyData.int) = true
  | [] => rfl
  | x :: l => by
    show (PyData.canLay0 (.int x) && PyData.canLayAll0 (l.map PyData.int)) = true
    rw [lay_ints l]
    rfl
theorem depth_ints : ∀ l : List Int, PyData.depthAll (l.map PyData.int) = 0
  | [] => rfl
  | x :: l => by
    show max (PyData.depth (.int x)) (PyData.depthAll (l.map PyData.int)) = 0
    rw [depth_ints l]
    rfl
theorem shaped_ints (l : List Int) : SeqAt.shaped (.list (l.map PyData.int)) = true := by
  show (PyData.canLayAll0 (l.map PyData.int) && decide (PyData.depthAll (l.map PyData.int) + 1 ≤ 64)) = true
  rw [lay_ints, depth_ints]
  rfl
theorem eqv_nil (l : List Int) : PyData.eqv (.list (l.map PyData.int)) (.list []) = l.isEmpty := by
  cases l <;> rfl
theorem ne_nil_dat (l : List Int) (cs : List Cell) : eqC true (.dat (.lst (l.map .int))) (.dat (.lst [])) cs = some (.bl (!l.isEmpty)) := by
  have e1 : snap cs (.dat (.lst (l.map .int))) = some (.list (l.map PyData.int)) := by
    show (pys (l.map .int)).map PyData.list = _
    rw [pys_ints]
    rfl
  have e2 : snap cs (.dat (.lst [])) = some (.list []) := rfl
  unfold eqC eqB
  rw [show eqS (.dat (.lst (l.map .int))) (.dat (.lst [])) = none from rfl]
  dsimp only
  unfold eqL
  rw [e1, e2]
  dsimp only
  rw [shaped_ints, show SeqAt.shaped (.list []) = true from rfl, eqv_nil]
  rfl
theorem dats_ints : ∀ l : List Int, dats (l.map fun i => Wv.dat (.int i)) = some (l.map .int)
  | [] => rfl
  | x :: l => by simp [dats, dats_ints l]
theorem ne_nil_cel (large cells : List Int) (L T : Int) (xt : List Cell) : eqC true (.cel 0) (.dat (.lst [])) (stC large cells L T xt) = some (.bl (!large.isEmpty)) := by
  have e1 : snap (stC large cells L T xt) (.cel 0) = some (.list (large.map PyData.int)) := by
    show ((dats (large.map fun i => Wv.dat (.int i))).bind pys).map PyData.list = _
    rw [dats_ints]
    show (pys _).map _ = _
    rw [pys_ints]
    rfl
  have e2 : snap (stC large cells L T xt) (.dat (.lst [])) = some (.list []) := rfl
  unfold eqC eqB
  rw [show eqS (.cel 0) (.dat (.lst [])) = none from rfl]
  dsimp only
  unfold eqL
  rw [e1, e2]
  dsimp only
  rw [shaped_ints, show SeqAt.shaped (.list []) = true from rfl, eqv_nil]
  rfl
theorem st_left {large cells : List Int} {L T : Int} {xt : List Cell} : cIx (stC large cells L T xt)[1]? (.str "left") = some (.dat (.int L)) := (rfl)
theorem st_turn {large cells : List Int} {L T : Int} {xt : List Cell} : cIx (stC large cells L T xt)[1]? (.str "turn") = some (.dat (.int T)) := (rfl)
theorem st_large {large cells : List Int} {L T : Int} {xt : List Cell} : cIx (stC large cells L T xt)[1]? (.str "large") = some (.cel 0) := (rfl)
theorem st_cells {large cells : List Int} {L T : Int} {xt : List Cell} : cIx (stC large cells L T xt)[1]? (.str "cells") = some (.dat (.lst (cells.map .int))) := (rfl)
theorem st_putL {large cells : List Int} {L T M : Int} {xt : List Cell} : mPut (.cel 1) (.dat (.str "left")) (.dat (.int M)) (stC large cells L T xt) = .ok () (stC large cells M T xt) := (rfl)
theorem st_putT {large cells : List Int} {L T M : Int} {xt : List Cell} : mPut (.cel 1) (.dat (.str "turn")) (.dat (.int M)) (stC large cells L T xt) = .ok () (stC large cells L M xt) := (rfl)
theorem st_0 {large cells : List Int} {L T : Int} {xt : List Cell} : (stC large cells L T xt)[0]? = some (.lst (large.map fun i => .dat (.int i))) := (rfl)
theorem st_pop {large cells : List Int} {x L T : Int} {xt : List Cell} : oPopAt (.cel 0) [.dat (.int 0)] (stC (x :: large) cells L T xt) = .ok (.dat (.int x)) (stC large cells L T xt) := by
  have : seqIndex? 0 (large.length + 1) = some 0 := by unfold seqIndex?; simp
  unfold oPopAt stC
  simp [this]
theorem draw_loop : ∀ (large : List Int) (n : Nat) (cells : List Int) (L T : Int) (xt : List Cell) (r : En), large.length < n → ∃ large' L', loopW lt__law_draw_0 lw__law_draw_0 n (some (.cel 1) :: r) (stC large cells L T xt) = .ok (.nx (some (.cel 1) :: r)) (stC large' cells L' T xt) ∧ (∀ x ∈ large', x ∈ large) ∧ (L' = L ∨ L' ∈ large)
  | large, 0, _, _, _, _, _, h => absurd h (Nat.not_lt_zero _)
  | large, n + 1, cells, L, T, xt, r, h => by
    unfold loopW
    rw [mb]
    have nc := ne_nil_cel large cells L T xt
    by_cases hL : L = 0
    · subst hL
      match large, h, nc with
      | [], h, nc =>
        have tt : lt__law_draw_0 (some (.cel 1) :: r) (stC [] cells 0 T xt) = .ok false (stC [] cells 0 T xt) := by
          k_state0 [lt__law_draw_0, st_left, st_large, nc]
        refine ⟨[], 0, ?_, fun _ h => h, .inl rfl⟩
        k_state0 [tt]
      | x :: xs, h, nc =>
        have tt : lt__law_draw_0 (some (.cel 1) :: r) (stC (x :: xs) cells 0 T xt) = .ok true (stC (x :: xs) cells 0 T xt) := by
          k_state0 [lt__law_draw_0, st_left, st_large, nc]
        have bb : lw__law_draw_0 (some (.cel 1) :: r) (stC (x :: xs) cells 0 T xt) = .ok (.nx (some (.cel 1) :: r)) (stC xs cells x T xt) := by
          k_state0 [lw__law_draw_0, st_large, st_0, st_pop, st_putL]
        obtain ⟨large', L', ih, h1, h2⟩ := draw_loop xs n cells x T xt r (by simpa using h)
        refine ⟨large', L', ?_, fun z hz => List.mem_cons_of_mem _ (h1 z hz), .inr (h2.elim (fun e => e ▸ List.mem_cons_self) (List.mem_cons_of_mem _))⟩
        k_state0 [tt, mb, bb, ih]
    · have tt : lt__law_draw_0 (some (.cel 1) :: r) (stC large cells L T xt) = .ok false (stC large cells L T xt) := by
        k_state0 [lt__law_draw_0, st_left, st_large, hL, nc]
      refine ⟨large, L, ?_, fun _ h => h, .inl rfl⟩
      k_state0 [tt]
theorem atI_pos {α : Type} {l : List α} {i : Int} (h0 : 0 ≤ i) (h1 : i < l.length) : ∃ x, atI l i = some x ∧ x ∈ l := by
  have hn : i.toNat < l.length := by omega
  refine ⟨l[i.toNat], ?_, List.getElem_mem hn⟩
  rw [at_ge h0, List.getElem?_eq_getElem hn]
theorem r_draw {cs xt : List Cell} {t : Nat} {n : Int} (hs : St cs xt t) (ht : t < 1000000) (h1 : 1 ≤ n) (hn : n ≤ 1000000) : ∃ d cs', m__law_draw [.cel 1, .dat (.int n)] cs = .ok (.dat (.int d)) cs' ∧ 0 ≤ d ∧ d < n ∧ St cs' xt (t + 1) := by
  obtain ⟨large0, cells, L0, T, rfl, hL0, hl0, hT0, hT⟩ := hs.ex
  obtain ⟨large, L, q, hsub, hL1⟩ := draw_loop large0 (mu__law_draw_0 [some (.cel 1), some (.dat (.int n)), none, none, none, none] (stC large0 cells L0 T xt)) cells L0 T xt [some (.dat (.int n)), none, none, none, none] (by simp [mu__law_draw_0, largeLen, stC])
  have hL : 0 ≤ L := hL1.elim (fun e => e ▸ hL0) (hl0 L)
  have hl : ∀ x ∈ large, 0 ≤ x := fun x hx => hl0 x (hsub x hx)
  have hn0 : 0 < n := by omega
  by_cases hp : 0 < L
  · refine ⟨L % n, stC large cells (L / n) T xt, fn_ev ?_, Int.emod_nonneg _ (by omega), Int.emod_lt_of_pos _ (by omega), ⟨large, cells, L / n, T, rfl, Int.ediv_nonneg hL (by omega), hl, hT0, by omega⟩⟩
    k_state0 [b__law_draw, start_cons, start_nil, repl_S, repl_0, q, st_left, hp, st_putL]
  · have nd := ne_nil_dat cells (stC large cells L (T + 1) xt)
    have cell : ∃ c : Int, cells = [] ∧ c = 0 ∨ cells.isEmpty = false ∧ 0 < ((cells.map Dt.int).length : Int) ∧ atI (cells.map Dt.int) ((T + 1) % ((cells.map Dt.int).length : Int)) = some (.int c) := by
      match cells with
      | [] => exact ⟨0, .inl ⟨rfl, rfl⟩⟩
      | z :: zs =>
        obtain ⟨x, hx, hm⟩ := atI_pos (l := (z :: zs).map Dt.int) (i := (T + 1) % (((z :: zs).map Dt.int).length : Int)) (Int.emod_nonneg _ (by rw [List.length_map, List.length_cons]; omega)) (Int.emod_lt_of_pos _ (by rw [List.length_map, List.length_cons]; omega))
        obtain ⟨c, _, rfl⟩ := List.mem_map.mp hm
        exact ⟨c, .inr ⟨rfl, by rw [List.length_map, List.length_cons]; omega, hx⟩⟩
    obtain ⟨c, hc⟩ := cell
    refine ⟨((c % 2147483563 + 40692 * (T + 1) + 24681) ^ 3 % 2147483629 + 104917 * (T + 1)) ^ 5 % 2147483579 / 29 % n, stC large cells L (T + 1) xt, fn_ev ?_, Int.emod_nonneg _ (by omega), Int.emod_lt_of_pos _ (by omega), ⟨large, cells, L, T + 1, rfl, hL, hl, by omega, by omega⟩⟩
    rcases hc with ⟨rfl, rfl⟩ | ⟨he, hz, hx⟩
    · k_state0 [b__law_draw, start_cons, start_nil, repl_S, repl_0, q, st_left, hp, st_turn, st_putT, st_cells, nd]
    · rw [he] at nd
      k_state0 [b__law_draw, start_cons, start_nil, repl_S, repl_0, q, st_left, hp, st_turn, st_putT, st_cells, nd, hx]
theorem r_begun {ns : List Int} (hn : ns.length ≤ 63) : ∃ cs, m__law_begun [.dat (.scr ns)] [] = .ok (.cel 1) cs ∧ St cs [] 0 := by
  have big : (1000000000000000000 : Int) = 10 ^ (18 : Int).toNat := by decide
  have e1 : loopC (tName 3) tYesE ce__law_begun_0 [some (.dat (.scr ns)), none, none, none] (ns.map fun i => .dat (.int i)) [] = .ok (((ns.map fun i => if i < 0 then -i else i).map Dt.int).map Wv.dat) [] := by
    rw [lc_map (fun i => .dat (.int i)) (fun i => .int (if i < 0 then -i else i))]
    · rw [List.map_map (f := fun i : Int => if i < 0 then -i else i)]; rfl
    · intro x hx
      refine ⟨_, rfl, ?_⟩
      k_state0 [ce__law_begun_0]
      rfl
  have e2 : loopC (tName 3) ci__law_begun_0 ce__law_begun_1 [some (.dat (.scr ns)), some (.dat (.lst ((ns.map fun i => if i < 0 then -i else i).map Dt.int))), none, none] (((ns.map fun i => if i < 0 then -i else i).map Dt.int).map Wv.dat) [] = .ok ((((ns.map fun i => if i < 0 then -i else i).filter fun i => decide (10 ^ (18 : Int).toNat ≤ i)).map fun i => .int (i - 10 ^ (18 : Int).toNat)).map Wv.dat) [] := by
    refine lc_filterD Dt.int (fun i => .int (i - 10 ^ (18 : Int).toNat)) (fun i => decide (10 ^ (18 : Int).toNat ≤ i)) _ fun x hx => ⟨_, rfl, ?_, fun _ => ?_⟩
    · k_state0 [ci__law_begun_0]
    · k_state0 [ce__law_begun_1]
  refine ⟨stC (((ns.map fun i => if i < 0 then -i else i).filter fun i => decide (10 ^ (18 : Int).toNat ≤ i)).map fun i => i - 10 ^ (18 : Int).toNat) (ns.map fun i => if i < 0 then -i else i) 0 0 [], fn_ev ?_, ⟨_, _, 0, 0, rfl, Int.le_refl _, fun x hx => ?_, Int.le_refl _, by omega⟩⟩
  · k_state0 [b__law_begun, start_cons, start_nil, repl_S, repl_0, wipe_nil, wipe_cons, e1, e2]
    unfold stC
    simp [List.map_map, Function.comp_def]
  · obtain ⟨y, hy, rfl⟩ := List.mem_map.mp hx
    have := (List.mem_filter.mp hy).2
    simp only [decide_eq_true_eq] at this
    omega
theorem r_pick {cs xt : List Cell} {t : Nat} {l : List Dt} (hs : St cs xt t) (ht : t < 1000000) (h1 : 1 ≤ l.length) (hn : l.length ≤ 1000000) : ∃ x cs', m__law_pick [.cel 1, .dat (.lst l)] cs = .ok (.dat x) cs' ∧ x ∈ l ∧ St cs' xt (t + 1) := by
  obtain ⟨d, cs', q, d0, d1, s1⟩ := r_draw (n := (l.length : Int)) hs ht (by omega) (by omega)
  obtain ⟨x, hx, hm⟩ := atI_pos (l := l) d0 d1
  refine ⟨x, cs', fn_ev ?_, hm, s1⟩
  k_state0 [b__law_pick, start_cons, start_nil, repl_S, repl_0, q, hx]
theorem bitAnd_nat (a b : Nat) : Builtin.bitAnd (a : Int) b = ((a &&& b : Nat) : Int) := by
  unfold Builtin.bitAnd
  rw [decide_eq_true (Int.natCast_nonneg a), decide_eq_true (Int.natCast_nonneg b)]
  simp
theorem nat_parts (n : Nat) : n = n % 2 + 2 * (n / 2) := by omega
theorem and_m2 (a b : Nat) : (a &&& b) % 2 = a % 2 &&& b % 2 := by simpa using Nat.and_mod_two_pow (a := a) (b := b) (n := 1)
theorem xor_m2 (a b : Nat) : (a ^^^ b) % 2 = a % 2 ^^^ b % 2 := by simpa using Nat.xor_mod_two_pow (a := a) (b := b) (n := 1)
theorem xor_and : ∀ a b : Nat, (a ^^^ b) + 2 * (a &&& b) = a + b := by
  intro a
  induction a using Nat.strongRecOn with
  | ind a ih =>
    intro b
    by_cases h : a = 0
    · subst h; simp
    · have q := ih (a / 2) (by omega) (b / 2)
      have e2 : (a &&& b) / 2 = a / 2 &&& b / 2 := Nat.and_div_two
      have e3 : (a ^^^ b) / 2 = a / 2 ^^^ b / 2 := Nat.xor_div_two
      have c : (a % 2 ^^^ b % 2) + 2 * (a % 2 &&& b % 2) = a % 2 + b % 2 := by
        have h1 : a % 2 = 0 ∨ a % 2 = 1 := by omega
        have h2 : b % 2 = 0 ∨ b % 2 = 1 := by omega
        rcases h1 with h1 | h1 <;> rcases h2 with h2 | h2 <;> rw [h1, h2] <;> decide
      have p1 := nat_parts (a &&& b)
      have p2 := nat_parts (a ^^^ b)
      rw [e2, and_m2] at p1
      rw [e3, xor_m2] at p2
      omega
theorem bitXor_nat (a b : Nat) : Builtin.bitXor (a : Int) b = ((a ^^^ b : Nat) : Int) := by
  rw [PyProof.Rows.bitXor_and, bitAnd_nat]
  have := xor_and a b
  omega
end DX
namespace DX
open PySem PySem.Spec PyProof.Rows L2
def b_is_number : Sv := sRet (eAnd (eCall oIsi (aCons (eVar 0) (aCons (eC (.op (.ty "int"))) (aNil)))) (eNot (eCall oIsi (aCons (eVar 0) (aCons (eC (.op (.ty "bool"))) (aNil))))))
abbrev m_is_number : Fn := fnOf 1 (b_is_number)
def b_is_between : Sv := sRet (eAnd (eFn 1 (m_is_number) (aCons (eVar 0) (aNil))) (eChain (dI0 fun i j => .bl (decide (i ≤ j))) (dI0 fun i j => .bl (decide (i ≤ j))) (eVar 1) (eVar 0) (eVar 2)))
abbrev m_is_between : Fn := fnOf 3 (b_is_between)
def b_is_sign : Sv := sRet (eAnd (eFn 1 (m_is_number) (aCons (eVar 0) (aNil))) (eBin dIn (eVar 0) (eTup (aCons (eC (.int 1)) (aCons (eUn dNeg (eC (.int 1))) (aNil))))))
abbrev m_is_sign : Fn := fnOf 1 (b_is_sign)
def b__law_is_whole : Sv := sRet (eAnd (eCall oIsi (aCons (eVar 0) (aCons (eC (.op (.ty "int"))) (aNil)))) (eNot (eCall oIsi (aCons (eVar 0) (aCons (eC (.op (.ty "bool"))) (aNil))))))
abbrev m__law_is_whole : Fn := fnOf 1 (b__law_is_whole)
def b__law_is_below : Sv := sRet (eAnd (eFn 1 (m__law_is_whole) (aCons (eVar 0) (aNil))) (eChain (dI0 fun i j => .bl (decide (i ≤ j))) (dI0 fun i j => .bl (decide (i < j))) (eC (.int 0)) (eVar 0) (eVar 1)))
abbrev m__law_is_below : Fn := fnOf 2 (b__law_is_below)
def par (n : Nat) : Bool := if h : n = 0 then false else xor (n % 2 == 1) (par (n / 2))
termination_by n
decreasing_by omega
theorem par_zero : par 0 = false := by unfold par; rfl
theorem par_rec (n : Nat) : par n = xor (n % 2 == 1) (par (n / 2)) := by
  by_cases h : n = 0
  · subst h
    rw [par_zero]
    rfl
  · conv => lhs; unfold par
    rw [dif_neg h]
def code : List Nat → Nat
  | [] => 0
  | x :: l => x + 4 * code l
/-- the crossings, place by place -/
def cross : List Nat → List Nat → Bool
  | x :: l, y :: m => xor (decide (2 ≤ x) && decide (y % 2 = 1)) (cross l m)
  | _, _ => false
def chr4 (x : Nat) : Nat := match x with
  | 0 => 49
  | 1 => 97
  | 2 => 98
  | _ => 99
def strOf (l : List Nat) : Str := ⟨(l.map chr4).toArray⟩
def wdD (s : Int) (l : List Nat) : Dt := .tup [.int s, .str (strOf l)]
def Fig (l : List Nat) : Prop := ∀ x ∈ l, x < 4
theorem strOf_len (l : List Nat) : (strOf l).length = l.length := by simp [strOf, Str.length]
def Sg (s : Int) : Prop := s = 1 ∨ s = -1
def zx (l m : List Nat) : List Nat := List.zipWith (fun x y => x ^^^ y) l m
def ps (s t : Int) (l m : List Nat) : Int := if cross l m = true then -(s * t) else s * t
theorem sg_ps {s t : Int} {l m : List Nat} (hs : Sg s) (ht : Sg t) : Sg (ps s t l m) := by
  unfold ps
  rcases hs with rfl | rfl <;> rcases ht with rfl | rfl <;> cases cross l m <;> simp [Sg]
theorem zx_len {l m : List Nat} (h : l.length = m.length) : (zx l m).length = l.length := by simp [zx, h]
theorem zx_fig : ∀ {l m : List Nat}, Fig l → Fig m → Fig (zx l m)
  | [], _, _, _ => by simp [zx, Fig]
  | _ :: _, [], _, _ => by simp [zx, Fig]
  | x :: l, y :: m, hl, hm => by
    have ih := zx_fig (l := l) (m := m) (fun z h => hl z (List.mem_cons_of_mem _ h)) (fun z h => hm z (List.mem_cons_of_mem _ h))
    intro z hz
    rcases List.mem_cons.mp (show z ∈ (x ^^^ y) :: zx l m from hz) with h | h
    · rw [h]
      exact Nat.xor_lt_two_pow (n := 2) (hl x List.mem_cons_self) (hm y List.mem_cons_self)
    · exact ih z h
structure Wd where
  s : Int
  l : List Nat
def pu (a b : Wd) : Wd := ⟨ps a.s b.s a.l b.l, zx a.l b.l⟩
structure WOk' (n : Nat) (a : Wd) : Prop where
  sg : Sg a.s
  len : a.l.length = n
  fig : Fig a.l
theorem pu_ok {n : Nat} {a b : Wd} (ha : WOk' n a) (hb : WOk' n b) : WOk' n (pu a b) := ⟨sg_ps ha.sg hb.sg, (zx_len (ha.len.trans hb.len.symm)).trans ha.len, zx_fig ha.fig hb.fig⟩
end DX
namespace DX
open PySem PySem.Spec PyProof.Rows L2
def inLet (c : Nat) : Bool := decide (c ∈ ("1abc" : Str).cps.toList)
theorem inLet_chr {x : Nat} (h : x < 4) : inLet (chr4 x) = true := by
  match x, h with
  | 0, _ => decide +kernel
  | 1, _ => decide +kernel
  | 2, _ => decide +kernel
  | 3, _ => decide +kernel
theorem blsOf_map : ∀ bs : List Bool, blsOf (bs.map .bl) = some bs
  | [] => rfl
  | b :: bs => by simp [blsOf, blsOf_map bs]
theorem all_map {α : Type} (P : α → Bool) (l : List α) : dAll (.lst (l.map fun x => .bl (P x))) = some (.bl (l.all P)) := by
  show (blsOf (l.map fun x => .bl (P x))).map (fun bs => Dt.bl (bs.all id)) = _
  rw [show (l.map fun x => Dt.bl (P x)) = (l.map P).map Dt.bl by rw [List.map_map]; rfl, blsOf_map]
  simp
theorem any_map {α : Type} (P : α → Bool) (l : List α) : dAny (.lst (l.map fun x => .bl (P x))) = some (.bl (l.any P)) := by
  show (blsOf (l.map fun x => .bl (P x))).map (fun bs => Dt.bl (bs.any id)) = _
  rw [show (l.map fun x => Dt.bl (P x)) = (l.map P).map Dt.bl by rw [List.map_map]; rfl, blsOf_map]
  simp
theorem eq_nil_dat (l : List Int) (cs : List Cell) : eqC false (.dat (.lst (l.map .int))) (.dat (.lst [])) cs = some (.bl l.isEmpty) := by
  have h := ne_nil_dat l cs
  unfold eqC at h ⊢
  cases e : eqB (.dat (.lst (l.map .int))) (.dat (.lst [])) cs with
  | none => rw [e] at h; cases h
  | some b =>
    rw [e] at h
    simp at h
    simp [h]
theorem eq_nil_ones {α : Type} (l : List α) (cs : List Cell) : eqC false (.dat (.lst (l.map fun _ => .int 1))) (.dat (.lst [])) cs = some (.bl l.isEmpty) := by
  have h := eq_nil_dat (l.map fun _ => (1 : Int)) cs
  rw [List.map_map] at h
  rw [show (l.map fun _ => Dt.int 1) = l.map (Dt.int ∘ fun _ => 1) from rfl, h]
  simp
def pl0 : Dt → Bool
  | .str s => decide (s.length ≤ 16777216)
  | .obj _ _ => true
  | d => (tyN d).isSome
def pl1 : Dt → Bool
  | .tup l => l.all pl0
  | .obj _ _ => true
  | d => (tyN d).isSome
def sgB : Dt → Bool
  | .int s => decide (s = 1) || decide (s = -1)
  | _ => false
def letB : Dt → Bool
  | .str z => (decide (1 ≤ z.length) && decide (z.length ≤ 12)) && z.cps.toList.all inLet
  | _ => false
def isW : Dt → Bool
  | .tup [a, b] => sgB a && letB b
  | _ => false
theorem in_pm {s : Int} : dIn (.int s) (.tup [.int 1, .int (-1)]) = some (.bl (decide (s = 1) || decide (s = -1))) := by
  show some (Dt.bl ((1 == s) || ((-1 == s) || false))) = _
  congr 2
  rw [Bool.eq_iff_iff]
  simp
  omega
theorem notin_pm {s : Int} : dNotIn (.int s) (.lst [.int 1, .int (-1)]) = some (.bl (!(decide (s = 1) || decide (s = -1)))) := by
  show some (Dt.bl (!((1 == s) || ((-1 == s) || false)))) = _
  congr 3
  rw [Bool.eq_iff_iff]
  simp
  omega
theorem r_is_sign {a : Dt} {cs : List Cell} (h : pl0 a = true) : m_is_sign [.dat a] cs = .ok (.dat (.bl (sgB a))) cs := by
  cases a with
  | int s =>
    have q : m_is_number [.dat (.int s)] cs = .ok (.dat (.bl true)) cs := rfl
    refine fn_ev ?_
    k_state0 [b_is_sign, start_cons, start_nil, repl_S, repl_0, q, in_pm]
    rfl
  | op v => cases h
  | scr v => cases h
  | exn v => cases h
  | dit v => cases h
  | lam _ _ => cases h
  | _ => rfl
theorem r_is_whole {a : Dt} {cs : List Cell} (h : pl0 a = true) : m__law_is_whole [.dat a] cs = .ok (.dat (.bl (match a with | .int _ => true | _ => false))) cs := by
  cases a with
  | op v => cases h
  | scr v => cases h
  | exn v => cases h
  | dit v => cases h
  | lam _ _ => cases h
  | _ => rfl
theorem isW_wd {s : Int} {l : List Nat} (hs : Sg s) (h1 : 1 ≤ l.length) (hl : l.length ≤ 12) (fl : Fig l) : isW (wdD s l) = true := by
  show ((decide (s = 1) || decide (s = -1)) && ((decide (1 ≤ (strOf l).length) && decide ((strOf l).length ≤ 12)) && (strOf l).cps.toList.all inLet)) = true
  rw [strOf_len, decide_eq_true h1, decide_eq_true hl]
  have : (strOf l).cps.toList.all inLet = true := by
    rw [List.all_eq_true]
    intro c hc
    simp [strOf] at hc
    obtain ⟨x, hx, rfl⟩ := hc
    exact inLet_chr (fl x hx)
  rw [this]
  rcases hs with rfl | rfl <;> rfl
theorem WOk'.w {n : Nat} {a : Wd} (ha : WOk' n a) (h1 : 1 ≤ n) (hn : n ≤ 12) : isW (wdD a.s a.l) = true := isW_wd ha.sg (by rw [ha.len]; exact h1) (by rw [ha.len]; exact hn) ha.fig
/-- two go past one another -/
def gp (l m : List Nat) : Bool := cross l m == cross m l
def nothing (n : Nat) (s : Int) : Wd := ⟨s, List.replicate n 0⟩
end DX
namespace DX
open PySem PySem.Spec PyProof.Rows L2
theorem strOk_of (l : List Nat) : PyData.strOk (strOf l) = true := by
  unfold PyData.strOk
  rw [Array.all_eq_true]
  intro i hi
  have h : (strOf l).cps[i] < 128 := by
    have : ∀ c ∈ (strOf l).cps.toList, c < 128 := by
      intro c hc
      simp [strOf] at hc
      obtain ⟨x, _, rfl⟩ := hc
      unfold chr4
      split <;> decide
    exact this _ (by simp)
  exact decide_eq_true (Nat.lt_trans h (by decide))
end DX
namespace DX
open PySem PySem.Spec PyProof.Rows L2
structure EqD {α : Type} [DecidableEq α] (en : α → Dt) (pd : α → PyData) (k : Nat) : Prop where
  py : ∀ a, DX.py (en a) = some (pd a)
  lay : ∀ a, (pd a).canLay0 = true
  dep : ∀ a, (pd a).depth ≤ k
  eqv : ∀ a b, PyData.eqv (pd a) (pd b) = decide (a = b)
section
variable {α β : Type} [DecidableEq α] [DecidableEq β] {en : α → Dt} {pd : α → PyData} {k l : Nat} {em : β → Dt} {qd : β → PyData}
theorem EqD.int : EqD (fun i : Int => .int i) (fun i => .int i) 0 := ⟨fun _ => rfl, fun _ => rfl, fun _ => Nat.le_refl _, fun a b => by
  show (a == b) = _
  rfl⟩
theorem EqD.nat : EqD (fun i : Nat => .int (i : Int)) (fun i => .int (i : Int)) 0 := ⟨fun _ => rfl, fun _ => rfl, fun _ => Nat.le_refl _, fun a b => by
  show decide ((a : Int) = (b : Int)) = _
  exact decide_eq_decide.mpr ⟨fun h => by omega, fun h => by omega⟩⟩
theorem EqD.sg {f : α → Nat} (hi : ∀ a b, f a = f b → a = b) (hl : ∀ a, f a < 1114112) : EqD (fun a => .str ⟨#[f a]⟩) (fun a => .str ⟨#[f a]⟩) 0 := ⟨fun _ => rfl, fun a => (show PyData.strOk ⟨#[f a]⟩ = true from by unfold PyData.strOk; simp [hl a]), fun _ => Nat.le_refl _, fun a b => by
  show (((⟨#[f a]⟩ : Str)) == ⟨#[f b]⟩) = _
  rw [str_beq]
  exact decide_eq_decide.mpr ⟨fun h => hi a b (by simpa using h), fun h => by rw [h]⟩⟩
theorem EqD.pys (h : EqD en pd k) : ∀ l : List α, DX.pys (l.map en) = some (l.map pd)
  | [] => rfl
  | a :: l => by
    show (match DX.py (en a), DX.pys (l.map en) with
      | some p, some ps => some (p :: ps)
      | _, _ => none) = _
    rw [h.py a, h.pys l]
    rfl
theorem EqD.layAll (h : EqD en pd k) : ∀ l : List α, PyData.canLayAll0 (l.map pd) = true
  | [] => rfl
  | a :: l => by
    show (PyData.canLay0 (pd a) && PyData.canLayAll0 (l.map pd)) = true
    rw [h.lay a, h.layAll l]
    rfl
theorem EqD.depAll (h : EqD en pd k) : ∀ l : List α, PyData.depthAll (l.map pd) ≤ k
  | [] => Nat.zero_le _
  | a :: l => by
    show max (PyData.depth (pd a)) (PyData.depthAll (l.map pd)) ≤ k
    exact Nat.max_le.mpr ⟨h.dep a, h.depAll l⟩
theorem EqD.eqvAll (h : EqD en pd k) : ∀ l m : List α, PyData.eqvAll (l.map pd) (m.map pd) = decide (l = m)
  | [], [] => rfl
  | a :: l, b :: m => by
    show (PyData.eqv (pd a) (pd b) && PyData.eqvAll (l.map pd) (m.map pd)) = _
    rw [h.eqv a b, h.eqvAll l m]
    by_cases h1 : a = b <;> by_cases h2 : l = m <;> simp [h1, h2]
  | [], _ :: _ => by
    show false = _
    exact (decide_eq_false (by simp)).symm
  | _ :: _, [] => by
    show false = _
    exact (decide_eq_false (by simp)).symm
theorem EqD.lst (h : EqD en pd k) : EqD (fun l : List α => .lst (l.map en)) (fun l => .list (l.map pd)) (k + 1) := ⟨fun l => by
    show (DX.pys (l.map en)).map PyData.list = _
    rw [h.pys l]
    rfl, fun l => h.layAll l, fun l => Nat.succ_le_succ (h.depAll l), fun l m => h.eqvAll l m⟩
theorem EqD.tup (h : EqD en pd k) : EqD (fun l : List α => .tup (l.map en)) (fun l => .tuple (l.map pd)) (k + 1) := ⟨fun l => by
    show (DX.pys (l.map en)).map PyData.tuple = _
    rw [h.pys l]
    rfl, fun l => h.layAll l, fun l => Nat.succ_le_succ (h.depAll l), fun l m => h.eqvAll l m⟩
theorem EqD.pair (h : EqD en pd k) (g : EqD em qd l) : EqD (fun p : α × β => .tup [en p.1, em p.2]) (fun p => .tuple [pd p.1, qd p.2]) (max k l + 1) := ⟨fun p => by
    show (match DX.py (en p.1), DX.pys [em p.2] with
      | some p, some ps => some (p :: ps)
      | _, _ => none).map PyData.tuple = _
    rw [h.py]
    show (match some (pd p.1), (match DX.py (em p.2), DX.pys [] with
      | some p, some ps => some (p :: ps)
      | _, _ => none) with
      | some p, some ps => some (p :: ps)
      | _, _ => none).map PyData.tuple = _
    rw [g.py]
    rfl, fun p => by
    show (PyData.canLay0 (pd p.1) && (PyData.canLay0 (qd p.2) && true)) = true
    rw [h.lay, g.lay]
    rfl, fun p => by
    show max (PyData.depth (pd p.1)) (max (PyData.depth (qd p.2)) 0) + 1 ≤ _
    have := h.dep p.1
    have := g.dep p.2
    omega, fun p q => by
    show (PyData.eqv (pd p.1) (pd q.1) && (PyData.eqv (qd p.2) (qd q.2) && true)) = _
    rw [h.eqv, g.eqv, Bool.and_true]
    obtain ⟨a, b⟩ := p
    obtain ⟨c, d⟩ := q
    by_cases h1 : a = c <;> by_cases h2 : b = d <;> simp [h1, h2]⟩
theorem EqD.of (h : EqD en pd k) {en2 : α → Dt} (e : ∀ a, en2 a = en a) : EqD en2 pd k := ⟨fun a => by rw [e]; exact h.py a, h.lay, h.dep, h.eqv⟩
theorem EqD.shaped (h : EqD en pd k) (hk : k ≤ 64) (a : α) : SeqAt.shaped (pd a) = true := by
  unfold SeqAt.shaped
  rw [h.lay a, decide_eq_true (Nat.le_trans (h.dep a) hk)]
  rfl
theorem eqS_eqv {x y : Dt} {p q : PyData} {b : Bool} (hx : DX.py x = some p) (hy : DX.py y = some q) (h : eqS (.dat x) (.dat y) = some b) : b = PyData.eqv p q := by
  unfold eqS at h
  split at h
  · rename_i i j e1 e2
    cases e1; cases e2; cases hx; cases hy; cases h; rfl
  · rename_i i j e1 e2
    cases e1; cases e2; cases hx; cases hy; cases h; rfl
  · rename_i i j e1 e2
    cases e1; cases e2; cases hx; cases hy; cases h; rfl
  · cases h
/-- == of two data -/
theorem eq_dat (h : EqD en pd k) (hk : k ≤ 64) (neg : Bool) (a b : α) (cs : List Cell) : eqC neg (.dat (en a)) (.dat (en b)) cs = some (.bl (if neg then !decide (a = b) else decide (a = b))) := by
  unfold eqC eqB
  cases e : eqS (.dat (en a)) (.dat (en b)) with
  | some c =>
    have := eqS_eqv (h.py a) (h.py b) e
    rw [h.eqv] at this
    subst this
    rfl
  | none =>
    have z : eqL (.dat (en a)) (.dat (en b)) cs = some (decide (a = b)) := by
      unfold eqL
      rw [show snap cs (.dat (en a)) = some (pd a) from h.py a, show snap cs (.dat (en b)) = some (pd b) from h.py b]
      dsimp only
      rw [h.shaped hk a, h.shaped hk b, h.eqv]
      rfl
    dsimp only
    rw [z]
    rfl
/-- == of a list that is a cell -/
theorem eq_cell (h : EqD en pd k) (hk : k + 1 ≤ 64) (neg : Bool) {i : Nat} {l m : List α} {cs : List Cell} {ws : List Wv} (hc : cs[i]? = some (.lst ws)) (hw : ws = l.map fun a => .dat (en a)) : eqC neg (.cel i) (.dat (.lst (m.map en))) cs = some (.bl (if neg then !decide (l = m) else decide (l = m))) := by
  have e1 : snap cs (.cel i) = some (.list (l.map pd)) := by
    unfold snap
    dsimp only
    rw [hc, hw]
    dsimp only
    have : l.map (fun a => Wv.dat (en a)) = (l.map en).map Wv.dat := by rw [List.map_map]; rfl
    rw [this, dats_mapd]
    show (DX.pys (l.map en)).map PyData.list = _
    rw [h.pys]
    rfl
  have e2 : snap cs (.dat (.lst (m.map en))) = some (.list (m.map pd)) := h.lst.py m
  unfold eqC eqB
  rw [show eqS (.cel i) (.dat (.lst (m.map en))) = none from rfl]
  dsimp only
  unfold eqL
  rw [e1, e2]
  dsimp only
  rw [h.lst.shaped hk l, h.lst.shaped hk m, show PyData.eqv (.list (l.map pd)) (.list (m.map pd)) = decide (l = m) from h.lst.eqv l m]
  rfl
theorem inB_dat (h : EqD en pd k) (hk : k + 1 ≤ 64) (a : α) (l : List α) {y : Dt} (hy : y = .lst (l.map en) ∨ y = .tup (l.map en)) : dInB (en a) y = some (decide (a ∈ l)) := by
  have hs : (seqOf y).bind DX.pys = some (l.map pd) := by
    rcases hy with rfl | rfl
    · exact h.pys l
    · exact h.pys l
  unfold dInB
  rw [h.py a, hs]
  dsimp only
  rw [h.shaped (by omega) a, show SeqAt.shaped (.list (l.map pd)) = true from h.lst.shaped hk l]
  rw [Bool.and_self, if_pos rfl]
  congr 1
  rw [List.any_map]
  rw [Bool.eq_iff_iff, List.any_eq_true, decide_eq_true_eq]
  constructor
  · rintro ⟨x, hx, e⟩
    have e : PyData.eqv (pd x) (pd a) = true := e
    rw [h.eqv, decide_eq_true_eq] at e
    exact e ▸ hx
  · intro hm
    refine ⟨a, hm, ?_⟩
    show PyData.eqv (pd a) (pd a) = true
    rw [h.eqv]
    exact decide_eq_true rfl
theorem in_dat (h : EqD en pd k) (hk : k + 1 ≤ 64) (a : α) (l : List α) : dIn (en a) (.lst (l.map en)) = some (.bl (decide (a ∈ l))) := by
  unfold dIn
  rw [inB_dat h hk a l (.inl rfl)]
  rfl
theorem in_datT (h : EqD en pd k) (hk : k + 1 ≤ 64) (a : α) (l : List α) : dIn (en a) (.tup (l.map en)) = some (.bl (decide (a ∈ l))) := by
  unfold dIn
  rw [inB_dat h hk a l (.inr rfl)]
  rfl
theorem notin_dat (h : EqD en pd k) (hk : k + 1 ≤ 64) (a : α) (l : List α) : dNotIn (en a) (.lst (l.map en)) = some (.bl (!decide (a ∈ l))) := by
  unfold dNotIn
  rw [inB_dat h hk a l (.inl rfl)]
  rfl
theorem notin_datT (h : EqD en pd k) (hk : k + 1 ≤ 64) (a : α) (l : List α) : dNotIn (en a) (.tup (l.map en)) = some (.bl (!decide (a ∈ l))) := by
  unfold dNotIn
  rw [inB_dat h hk a l (.inr rfl)]
  rfl
end
end DX
namespace DX
open PySem PySem.Spec PyProof.Rows L2 GF
def lb_reduced_0 : Sv := sIf (tCmpE (eEqC false (eBin (dI0 fun i j => .int (Builtin.bitAnd i j)) (eBin (dI cShr fun i j => .int (i / 2 ^ j.toNat)) (eVar 3) (eVar 5)) (eC (.int 1))) (eC (.int 1)))) (sPar 3 4 (aCons (eBin (dI0 fun i j => .int (Builtin.bitXor i j)) (eVar 3) (eIx (eIx (eVar 1) (eVar 5)) (eC (.int 0)))) (aCons (eBin (dI0 fun i j => .int (Builtin.bitXor i j)) (eVar 4) (eIx (eIx (eVar 1) (eVar 5)) (eC (.int 1)))) (aNil)))) (sNil)
def lb_reduced_1 : Sv := sIf (tCmpE (eEqC false (eBin (dI0 fun i j => .int (Builtin.bitAnd i j)) (eBin (dI cShr fun i j => .int (i / 2 ^ j.toNat)) (eIx (eIx (eVar 1) (eVar 5)) (eC (.int 0))) (eVar 6)) (eC (.int 1))) (eC (.int 1)))) (sPut (eVar 1) (eVar 5) (eTup (aCons (eBin (dI0 fun i j => .int (Builtin.bitXor i j)) (eIx (eIx (eVar 1) (eVar 5)) (eC (.int 0))) (eVar 3)) (aCons (eBin (dI0 fun i j => .int (Builtin.bitXor i j)) (eIx (eIx (eVar 1) (eVar 5)) (eC (.int 1))) (eVar 4)) (aNil))))) (sNil)
def lb_reduced_2 : Sv := sSeq (sLock 1 (sFor (iKeysE (eVar 1)) (tName 5) (lb_reduced_0))) (sIf (tCmpE (eEqC false (eVar 3) (eC (.int 0)))) (sExpr (eMeth okLst oAppend (eVar 2) (aCons (eVar 4) (aNil)))) (sSeq (sSet 6 (eBin (dI0 fun i j => .int (i - j)) (eUn dBits (eVar 3)) (eC (.int 1)))) (sSeq (sFor (iSeq (eCall oListK (aCons (eVar 1) (aNil)))) (tName 5) (lb_reduced_1)) (sPut (eVar 1) (eVar 6) (eTup (aCons (eVar 3) (aCons (eVar 4) (aNil))))))))
def ce_reduced_0 : Ev := eIx (eVar 1) (eVar 5)
def b_reduced : Sv := sSeq (sPar 1 2 (aCons ((fun _ => mCell (.dic []))) (aCons (eCelF (fLst (aNil))) (aNil)))) (sSeq (sFor (iSeq (eVar 0)) (tTupG 2 (tgCons (tName 3) (tgCons (tName 4) (tgNil)))) (lb_reduced_2)) (sRet (eTup (aCons (eOfF (fLc (iSeq (eCall oSortK (aCons (eVar 1) (aNil)))) (tName 5) (tYesE) (ce_reduced_0) [5])) (aCons (eFrz (eVar 2)) (aNil))))))
abbrev m_reduced : Fn := fnOf 7 (b_reduced)
def ci_items_of_0 : EvT := tCmpE (eEqC false (eBin (dI0 fun i j => .int (Builtin.bitAnd i j)) (eBin (dI cShr fun i j => .int (i / 2 ^ j.toNat)) (eVar 0) (eVar 1)) (eC (.int 1))) (eC (.int 1)))
def ce_items_of_0 : Ev := eVar 1
def b_items_of : Sv := sRet (eCall (oSeq dTupOf .tup) (aCons (eOfF (fLc (iRg1 (aCons (eUn dBits (eVar 0)) (aNil))) (tName 1) (ci_items_of_0) (ce_items_of_0) [1])) (aNil)))
abbrev m_items_of : Fn := fnOf 2 (b_items_of)
def nD (n : Nat) : Dt := .int (n : Int)
def prD (p : Nat × Nat) : Dt := .tup [nD p.1, nD p.2]
def dicK (l : List KT) : List (Key × Wv) := l.map fun q => (.inl (q.1 : Int), .dat (prD q.2))
theorem valK_dic : ∀ {l : List KT}, (l.map (·.1)).Nodup → ∀ q ∈ l, valK (dicK l) (.inl (q.1 : Int)) = some (.dat (prD q.2))
  | p :: l, hn, q, hq => by
    rw [List.map_cons, List.nodup_cons] at hn
    unfold valK dicK
    rw [List.map_cons, List.find?_cons]
    rcases List.mem_cons.mp hq with rfl | hq
    · simp
    · have ne : p.1 ≠ q.1 := fun e => hn.1 (e ▸ List.mem_map.mpr ⟨q, hq, rfl⟩)
      have e : decide ((Sum.inl (p.1 : Int) : Key) = Sum.inl (q.1 : Int)) = false := decide_eq_false fun z => ne (by have z2 := Sum.inl.inj z; omega)
      rw [e]
      exact valK_dic hn.2 q hq
theorem tb_t {r k : Nat} (h : r.testBit k = true) : Builtin.bitAnd ((r : Int) / 2 ^ k) 1 = 1 := by
  have e := tb_int r k
  rw [h] at e
  simpa using of_decide_eq_true e
theorem tb_f {r k : Nat} (h : r.testBit k = false) : ¬ Builtin.bitAnd ((r : Int) / 2 ^ k) 1 = 1 := by
  have e := tb_int r k
  rw [h] at e
  simpa using of_decide_eq_false e
theorem o_xor {i j : Nat} : dI0 (fun i j => Dt.int (Builtin.bitXor i j)) (.int (i : Int)) (.int (j : Int)) = some (.int ((i ^^^ j : Nat) : Int)) := by rw [← bitXor_nat]; rfl
theorem key_int {n : Int} : keyOf (.int n) = some (.inl n) := rfl
theorem lk_step {a0 a2 a6 : Option Wv} {cs : List Cell} {K : Nat} {l : List KT} {r t : Nat} {q : KT} (h : cs[K]? = some (.lck (dicK l))) (hn : (l.map (·.1)).Nodup) (hq : q ∈ l) :
    lb_reduced_0 [a0, some (.cel K), a2, some (.dat (nD r)), some (.dat (nD t)), some (.dat (nD q.1)), a6] cs = .ok (.nx [a0, some (.cel K), a2, some (.dat (nD (d1 (r, t) q).1)), some (.dat (nD (d1 (r, t) q).2)), some (.dat (nD q.1)), a6]) cs := by
  have v := valK_dic hn q hq
  unfold nD prD nD at *
  unfold lb_reduced_0
  by_cases hb : r.testBit q.1 = true
  · have e1 : d1 (r, t) q = (r ^^^ q.2.1, t ^^^ q.2.2) := if_pos hb
    have e2 := tb_t hb
    rw [e1]
    k_state0 [o_xor, key_int, Option.bind_some, e2, h, v, bitXor_nat]
  · have e1 : d1 (r, t) q = (r, t) := if_neg hb
    have e2 := tb_f (by simpa using hb)
    rw [e1]
    k_state0 [o_xor, key_int, Option.bind_some, e2, h, v, bitXor_nat]
theorem put_old {pre post : List KT} {q : KT} {x : Nat × Nat} (hn : ((pre ++ q :: post).map (·.1)).Nodup) : putW (dicK (pre ++ q :: post)) (.inl (q.1 : Int)) (.dat (prD x)) = dicK (pre ++ (q.1, x) :: post) := by
  have eqk : ∀ a b : Nat, ((Sum.inl (a : Int) : Key) = Sum.inl (b : Int)) ↔ a = b := fun a b => ⟨fun z => by have z2 := Sum.inl.inj z; omega, fun z => by rw [z]⟩
  rw [List.map_append, List.map_cons, List.nodup_append, List.nodup_cons] at hn
  have n1 : ∀ r ∈ pre, r.1 ≠ q.1 := fun r hr => hn.2.2 _ (List.mem_map.mpr ⟨r, hr, rfl⟩) _ List.mem_cons_self
  have n2 : ∀ r ∈ post, r.1 ≠ q.1 := fun r hr e => hn.2.1.1 (e ▸ List.mem_map.mpr ⟨r, hr, rfl⟩)
  have sm : ∀ l : List KT, (∀ r ∈ l, r.1 ≠ q.1) → (dicK l).map (fun p => if p.1 = (Sum.inl (q.1 : Int) : Key) then (p.1, Wv.dat (prD x)) else p) = dicK l := fun l h => by
    unfold dicK
    rw [List.map_map]
    refine List.map_congr_left fun r hr => ?_
    show (if (Sum.inl (r.1 : Int) : Key) = Sum.inl (q.1 : Int) then _ else _) = _
    rw [if_neg (fun z => h r hr ((eqk _ _).mp z))]
  unfold putW
  have e : ((dicK (pre ++ q :: post)).any fun p => decide (p.1 = (Sum.inl (q.1 : Int) : Key))) = true := by
    rw [List.any_eq_true]
    exact ⟨_, List.mem_map.mpr ⟨q, List.mem_append_right _ List.mem_cons_self, rfl⟩, by simp⟩
  rw [if_pos e]
  have ea : dicK (pre ++ q :: post) = dicK pre ++ dicK (q :: post) := by unfold dicK; rw [List.map_append]
  have eb : dicK (pre ++ (q.1, x) :: post) = dicK pre ++ dicK ((q.1, x) :: post) := by unfold dicK; rw [List.map_append]
  rw [ea, eb, List.map_append, sm pre n1]
  congr 1
  show (if (Sum.inl (q.1 : Int) : Key) = Sum.inl (q.1 : Int) then _ else _) :: (dicK post).map _ = _
  rw [if_pos rfl, sm post n2]
  rfl
theorem put_new {l : List KT} {k : Nat} {x : Nat × Nat} (h : ∀ q ∈ l, q.1 ≠ k) : putW (dicK l) (.inl (k : Int)) (.dat (prD x)) = dicK (l ++ [(k, x)]) := by
  unfold putW
  have e : ¬ ((dicK l).any fun p => decide (p.1 = (Sum.inl (k : Int) : Key))) = true := by
    rw [List.any_eq_true]
    rintro ⟨p, hp, he⟩
    obtain ⟨q, hq, rfl⟩ := List.mem_map.mp hp
    have z := of_decide_eq_true he
    have z2 := Sum.inl.inj z
    exact h q hq (by omega)
  rw [if_neg e]
  unfold dicK
  rw [List.map_append]
  rfl
theorem keys_dicK (l : List KT) : (dicK l).map (·.1) = l.map fun q => Sum.inl (q.1 : Int) := by
  unfold dicK
  rw [List.map_map]
  rfl
def tgW (t : Nat) : Wv := .dat (nD t)
/-- a row brought down by the kept ones -/
theorem down_loop {a0 a2 a5 a6 : Option Wv} {cs : List Cell} {K : Nat} {l : List KT} {p : Nat × Nat} (h : cs[K]? = some (.dic (dicK l))) (hn : (l.map (·.1)).Nodup) :
    ∃ a5', sLock 1 (sFor (iKeysE (eVar 1)) (tName 5) lb_reduced_0) [a0, some (.cel K), a2, some (.dat (nD p.1)), some (.dat (nD p.2)), a5, a6] cs = .ok (.nx [a0, some (.cel K), a2, some (.dat (nD (down l p).1)), some (.dat (nD (down l p).2)), a5', a6]) cs := by
  have hK : K < cs.length := (List.getElem?_eq_some_iff.mp h).1
  have h1 : (cs.set K (.lck (dicK l)))[K]? = some (.lck (dicK l)) := List.getElem?_set_self hK
  obtain ⟨env', cs', e1, a5', e2, e3⟩ := ls_fold (t := tName 5) (b := lb_reduced_0) (fun q : KT => .dat (nD q.1)) (fun (s : Nat × Nat) env c => ∃ a5', env = [a0, some (.cel K), a2, some (.dat (nD s.1)), some (.dat (nD s.2)), a5', a6] ∧ c = cs.set K (.lck (dicK l))) d1 l p
    [a0, some (.cel K), a2, some (.dat (nD p.1)), some (.dat (nD p.2)), a5, a6] (cs.set K (.lck (dicK l))) (fun q hq s env c ⟨a5', he, hc⟩ => by
      subst he hc
      exact ⟨_, _, _, rfl, .inl (lk_step h1 hn hq), _, rfl, rfl⟩) ⟨a5, rfl, rfl⟩
  refine ⟨a5', ?_⟩
  have ks : ((dicK l).map fun p => Wv.dat (keyD p.1)) = l.map fun q : KT => Wv.dat (nD q.1) := by
    unfold dicK
    rw [List.map_map]
    rfl
  rw [s_lock]
  show rLk (some (some (.cel K))) _ _ _ = _
  rw [lk_is h, s_for, s_keys]
  have ev : eVar 1 [a0, some (.cel K), a2, some (.dat (nD p.1)), some (.dat (nD p.2)), a5, a6] (cs.set K (.lck (dicK l))) = .ok (.cel K) (cs.set K (.lck (dicK l))) := rfl
  rw [ev, rb_ok, keys_is h1, rb_ok, k_for, ks, e1, unl_is (by rw [e3]; exact h1), e2, e3]
  have back : (cs.set K (.lck (dicK l))).set K (.dic (dicK l)) = cs := by
    rw [List.set_set]
    exact List.ext_getElem? fun i => by
      by_cases hi : K = i
      · subst hi; rw [List.getElem?_set_self hK, h]
      · rw [List.getElem?_set_ne hi]
  rw [back]
  rfl
/-- a new row taken from the kept ones -/
theorem up_step {a0 a2 : Option Wv} {cs : List Cell} {K k : Nat} {p : Nat × Nat} {q : KT} {pre post : List KT} (h : cs[K]? = some (.dic (dicK (pre ++ q :: post)))) (hn : ((pre ++ q :: post).map (·.1)).Nodup) (hl : (pre ++ q :: post).length < 64) :
    lb_reduced_1 [a0, some (.cel K), a2, some (.dat (nD p.1)), some (.dat (nD p.2)), some (.dat (nD q.1)), some (.dat (nD k))] cs = .ok (.nx [a0, some (.cel K), a2, some (.dat (nD p.1)), some (.dat (nD p.2)), some (.dat (nD q.1)), some (.dat (nD k))]) (cs.set K (.dic (dicK (pre ++ up1 k p q :: post)))) := by
  have v := valK_dic hn q (List.mem_append_right _ List.mem_cons_self)
  have hK : K < cs.length := (List.getElem?_eq_some_iff.mp h).1
  unfold lb_reduced_1
  by_cases hb : q.2.1.testBit k = true
  · have e1 : up1 k p q = (q.1, q.2.1 ^^^ p.1, q.2.2 ^^^ p.2) := if_pos hb
    have e2 := tb_t hb
    have e3 := put_is (cs := cs) (i := K) (y := nD q.1) (w := .dat (prD (q.2.1 ^^^ p.1, q.2.2 ^^^ p.2))) h rfl (by unfold dicK; rw [List.length_map]; omega)
    rw [put_old hn] at e3
    rw [e1]
    unfold nD prD nD at *
    k_state0 [o_xor, key_int, Option.bind_some, e2, h, v, bitXor_nat, e3]
  · have e1 : up1 k p q = q := if_neg hb
    have e2 := tb_f (by simpa using hb)
    rw [e1]
    have same : cs.set K (.dic (dicK (pre ++ q :: post))) = cs := List.ext_getElem? fun i => by
      by_cases hi : K = i
      · subst hi; rw [List.getElem?_set_self hK, h]
      · rw [List.getElem?_set_ne hi]
    rw [same]
    unfold nD prD nD at *
    k_state0 [o_xor, key_int, Option.bind_some, e2, h, v, bitXor_nat]
theorem up_loop {a0 a2 a5 : Option Wv} {cs : List Cell} {K k : Nat} {l : List KT} {p : Nat × Nat} (h : cs[K]? = some (.dic (dicK l))) (hn : (l.map (·.1)).Nodup) (hl : l.length < 64) :
    ∃ a5', loopS (tName 5) lb_reduced_1 (l.map fun q => .dat (nD q.1)) [a0, some (.cel K), a2, some (.dat (nD p.1)), some (.dat (nD p.2)), a5, some (.dat (nD k))] cs = .ok (.nx [a0, some (.cel K), a2, some (.dat (nD p.1)), some (.dat (nD p.2)), a5', some (.dat (nD k))]) (cs.set K (.dic (dicK (l.map (up1 k p))))) := by
  have hK : K < cs.length := (List.getElem?_eq_some_iff.mp h).1
  have back : cs.set K (.dic (dicK l)) = cs := List.ext_getElem? fun i => by
    by_cases hi : K = i
    · subst hi; rw [List.getElem?_set_self hK, h]
    · rw [List.getElem?_set_ne hi]
  obtain ⟨env', cs', e1, a5', e2, e3⟩ := ls_all (t := tName 5) (b := lb_reduced_1) (fun q : KT => .dat (nD q.1)) (fun pr env c => ∃ a5', env = [a0, some (.cel K), a2, some (.dat (nD p.1)), some (.dat (nD p.2)), a5', some (.dat (nD k))] ∧ c = cs.set K (.dic (dicK (pr.map (up1 k p) ++ l.drop pr.length))))
    l (env := [a0, some (.cel K), a2, some (.dat (nD p.1)), some (.dat (nD p.2)), a5, some (.dat (nD k))]) (cs := cs) (fun pr q post env c he ⟨a5', hv, hc⟩ => by
      have hd : l.drop pr.length = q :: post := by rw [he, List.drop_left]
      have hd2 : l.drop (pr ++ [q]).length = post := by
        have e : l = (pr ++ [q]) ++ post := by rw [he]; simp
        rw [e, List.drop_left]
      rw [hd] at hc
      subst hv hc
      have km : (pr.map (up1 k p) ++ q :: post).map (·.1) = l.map (·.1) := by
        rw [he, List.map_append, List.map_append, List.map_map]
        congr 1
        exact List.map_congr_left fun r _ => up1_key
      have z := up_step (a0 := a0) (a2 := a2) (k := k) (p := p) (q := q) (pre := pr.map (up1 k p)) (post := post) (cs := cs.set K (.dic (dicK (pr.map (up1 k p) ++ q :: post)))) (List.getElem?_set_self hK) (by rw [km]; exact hn) (by
        have := congrArg List.length km
        simp only [List.length_map] at this
        omega)
      rw [List.set_set] at z
      refine ⟨_, _, _, rfl, .inl z, _, rfl, ?_⟩
      rw [hd2, List.map_append, List.append_assoc]
      rfl) ⟨a5, rfl, by rw [show l.drop [].length = l from rfl]; exact back.symm⟩
  refine ⟨a5', ?_⟩
  rw [e1, e2, e3, List.drop_length, List.append_nil]
/-- one more row -/
theorem red_step {a0 a5 a6 : Option Wv} {cs : List Cell} {S : List KT × List Nat} {p : Nat × Nat} (hk : Kp S.1) (h1 : S.1.length < 63) (h2 : S.2.length < 100000) :
    ∃ a3 a4 a5' a6', lb_reduced_2 [a0, some (.cel cs.length), some (.cel (cs.length + 1)), some (.dat (nD p.1)), some (.dat (nD p.2)), a5, a6] (cs ++ [.dic (dicK S.1), .lst (S.2.map tgW)]) = .ok (.nx [a0, some (.cel cs.length), some (.cel (cs.length + 1)), a3, a4, a5', a6']) (cs ++ [.dic (dicK (rstep S p).1), .lst ((rstep S p).2.map tgW)]) := by
  have g0 : (cs ++ [.dic (dicK S.1), .lst (S.2.map tgW)])[cs.length]? = some (.dic (dicK S.1)) := ap_0
  obtain ⟨b5, hd⟩ := down_loop (a0 := a0) (a2 := some (.cel (cs.length + 1))) (a5 := a5) (a6 := a6) (p := p) g0 hk.nd
  unfold lb_reduced_2
  by_cases hz : (down S.1 p).1 = 0
  · have er : rstep S p = (S.1, S.2 ++ [(down S.1 p).2]) := by unfold rstep put1; rw [if_pos hz]
    rw [er]
    rw [hz] at hd
    refine ⟨some (.dat (nD 0)), some (.dat (nD (down S.1 p).2)), b5, a6, ?_⟩
    unfold nD at hd ⊢
    k_state0 [hd, nat_c0, ap_1, aps_1, -s_lock]
    rw [List.map_append]
    rfl
  · have er : rstep S p = (S.1.map (up1 (down S.1 p).1.log2 (down S.1 p)) ++ [((down S.1 p).1.log2, (down S.1 p).1, (down S.1 p).2)], S.2) := by unfold rstep put1; rw [if_neg hz]
    rw [er]
    obtain ⟨c5, hu⟩ := up_loop (a0 := a0) (a2 := some (.cel (cs.length + 1))) (a5 := b5) (k := (down S.1 p).1.log2) (p := down S.1 p) g0 hk.nd (by omega)
    rw [aps_0] at hu
    have hb := bits_nat hz
    have nk : ∀ q ∈ S.1.map (up1 (down S.1 p).1.log2 (down S.1 p)), q.1 ≠ (down S.1 p).1.log2 := fun q hq e => by
      obtain ⟨r, hr, rfl⟩ := List.mem_map.mp hq
      rw [up1_key] at e
      have z := down_key (p := p) hk r hr
      rw [e, (log2_top hz).1] at z
      cases z
    have e3 := put_is (cs := cs ++ [.dic (dicK (S.1.map (up1 (down S.1 p).1.log2 (down S.1 p)))), .lst (S.2.map tgW)]) (i := cs.length) (y := nD (down S.1 p).1.log2) (w := .dat (prD (down S.1 p))) ap_0 rfl (by unfold dicK; rw [List.length_map, List.length_map]; omega)
    rw [put_new nk, aps_0] at e3
    have hne : ¬ ((down S.1 p).1 : Int) = 0 := by omega
    have hat : ((((down S.1 p).1.log2 + 1 : Nat) : Int) - 1) = ((down S.1 p).1.log2 : Nat) := by omega
    have lk := listk_is (cs := cs ++ [.dic (dicK S.1), .lst (S.2.map tgW)]) g0
    have lk2 : ((dicK S.1).map (·.1)).map keyD = S.1.map fun q => nD q.1 := by rw [keys_dicK, List.map_map]; rfl
    have lk3 : (S.1.map fun q => nD q.1).map Wv.dat = S.1.map fun q => Wv.dat (nD q.1) := by rw [List.map_map]; rfl
    rw [lk2] at lk
    refine ⟨some (.dat (nD (down S.1 p).1)), some (.dat (nD (down S.1 p).2)), c5, some (.dat (nD (down S.1 p).1.log2)), ?_⟩
    unfold nD prD nD at *
    k_state0 [hd, hne, hb, hat, lk, lk3, hu, e3, -s_lock]
theorem red_keep : ∀ (qs : List (Nat × Nat)) (S : List KT × List Nat), Kp S.1 → Kp (qs.foldl rstep S).1 ∧ (qs.foldl rstep S).1.length + (qs.foldl rstep S).2.length = S.1.length + S.2.length + qs.length
  | [], S, h => ⟨h, rfl⟩
  | q :: qs, S, h => by
    have k : Kp (rstep S q).1 ∧ (rstep S q).1.length + (rstep S q).2.length = S.1.length + S.2.length + 1 := by
      unfold rstep put1
      by_cases hz : (down S.1 q).1 = 0
      · rw [if_pos hz]; exact ⟨h, by simp; omega⟩
      · rw [if_neg hz]; exact ⟨h.put hz fun r hr => down_key h r hr, by simp; omega⟩
    have z := red_keep qs (rstep S q) k.1
    exact ⟨z.1, by rw [List.foldl_cons, z.2, k.2, List.length_cons]; omega⟩
def outK (l : List KT) : List (Nat × Nat) := (l.mergeSort fun a b => decide (a.1 ≤ b.1)).map (·.2)
theorem sort_keys (l : List KT) : sortI (l.map fun q => (q.1 : Int)) = (l.mergeSort fun a b => decide (a.1 ≤ b.1)).map fun q => (q.1 : Int) := by
  refine (sortI_uniq ?_ ?_).symm
  · exact (List.mergeSort_perm l _).map _
  · rw [List.pairwise_map]
    refine List.Pairwise.imp (fun {a b} h => ?_) (List.pairwise_mergeSort (le := fun a b : KT => decide (a.1 ≤ b.1)) (fun a b c h1 h2 => by simp at *; omega) (fun a b => by simp; omega) l)
    have := of_decide_eq_true h
    omega
theorem int_keys (l : List KT) : intKs (l.map fun q => Sum.inl (q.1 : Int)) = some (l.map fun q => (q.1 : Int)) := by
  letI : TabT := ⟨[]⟩
  have e := intKs_map (l.map fun q => (q.1 : Int))
  rw [List.map_map] at e
  exact e
theorem tg_dats (l : List Nat) : dats (l.map tgW) = some (l.map nD) := by
  have e : l.map tgW = (l.map nD).map Wv.dat := by rw [List.map_map]; rfl
  rw [e, dats_mapd]
/-- reduced -/
theorem r_reducedW {ps : List (Nat × Nat)} {cs : List Cell} (hr : rk (ps.map (·.1)) < 63) (h : ps.length < 100000) :
    m_reduced [.dat (.lst (ps.map prD))] cs = .ok (.dat (.tup [.lst ((outK (red ps).1).map prD), .lst ((red ps).2.map nD)])) (cs ++ [.dic (dicK (red ps).1), .dead]) := by
  have ek := red_keep ps ([], []) Kp.nil
  obtain ⟨env', cs', e1, ⟨a3, a4, a5, a6, e2⟩, e3⟩ := ls_all (t := tTupG 2 (tgCons (tName 3) (tgCons (tName 4) tgNil))) (b := lb_reduced_2) (fun p => .dat (prD p)) (fun (pr : List (Nat × Nat)) env c => (∃ a3 a4 a5 a6, env = [some (.dat (.lst (ps.map prD))), some (.cel cs.length), some (.cel (cs.length + 1)), a3, a4, a5, a6]) ∧ c = cs ++ [.dic (dicK (red pr).1), .lst ((red pr).2.map tgW)])
    ps (env := [some (.dat (.lst (ps.map prD))), some (.cel cs.length), some (.cel (cs.length + 1)), none, none, none, none]) (cs := cs ++ [.dic [], .lst []]) (fun pr p post env c he ⟨⟨a3, a4, a5, a6, hv⟩, hc⟩ => by
      subst hv hc
      have kk := red_keep pr ([], []) Kp.nil
      have hl : pr.length < ps.length := by rw [he]; simp
      have k2 : (red pr).1.length + (red pr).2.length = pr.length := by have := kk.2; simp only [List.length_nil, Nat.zero_add] at this; exact this
      have k3 : (red pr).1.length < 63 := by
        rw [red_rank pr]
        refine Nat.lt_of_le_of_lt (rk_mono fun a ha => sp_mem ?_) hr
        rw [he, List.map_append]
        exact List.mem_append_left _ ha
      obtain ⟨b3, b4, b5, b6, hs⟩ := red_step (a0 := some (.dat (.lst (ps.map prD)))) (a5 := a5) (a6 := a6) (cs := cs) (S := red pr) (p := p) kk.1 k3 (by omega)
      have er : red (pr ++ [p]) = rstep (red pr) p := by unfold red; rw [List.foldl_append]; rfl
      rw [er]
      exact ⟨_, _, _, rfl, .inl hs, ⟨_, _, _, _, rfl⟩, rfl⟩) ⟨⟨_, _, _, _, rfl⟩, rfl⟩
  have hk : Kp (red ps).1 := ek.1
  have hlen : (red ps).1.length < 64 := by rw [red_rank ps]; omega
  have perm := List.mergeSort_perm (red ps).1 fun a b => decide (a.1 ≤ b.1)
  have sk := sortk_is (cs := cs ++ [.dic (dicK (red ps).1), .lst ((red ps).2.map tgW)]) (k := cs.length) ap_0 (by rw [keys_dicK]; exact int_keys _) (by rw [List.length_map]; exact hlen)
  rw [sort_keys, List.map_map] at sk
  have lm := lc_mapD (t := tName 5) (f := ce_reduced_0) (env := [some (.dat (.lst (ps.map prD))), some (.cel cs.length), some (.cel (cs.length + 1)), a3, a4, none, a6]) (cs := cs ++ [.dic (dicK (red ps).1), .lst ((red ps).2.map tgW)]) (fun q : KT => nD q.1) (fun q => prD q.2) ((red ps).1.mergeSort fun a b => decide (a.1 ≤ b.1)) (fun q hq => by
    have v := valK_dic hk.nd q (perm.mem_iff.mp hq)
    refine ⟨_, rfl, ?_⟩
    unfold ce_reduced_0
    unfold nD prD nD at *
    k_state0 [key_int, Option.bind_some, v, ap_0])
  have eo : (outK (red ps).1).map prD = ((red ps).1.mergeSort fun a b => decide (a.1 ≤ b.1)).map fun q => prD q.2 := by unfold outK; rw [List.map_map]; rfl
  have ed : (ps.map prD).map Wv.dat = ps.map fun p => Wv.dat (prD p) := by rw [List.map_map]; rfl
  have et : ((red ps).2.map nD).map Wv.dat = (red ps).2.map tgW := by rw [List.map_map]; rfl
  have lsz : ((red ps).1.mergeSort fun a b => decide (a.1 ≤ b.1)).length ≤ 16777216 := by rw [perm.length_eq]; exact Nat.le_trans (Nat.le_of_lt hlen) (by decide)
  have fz : ((fun i => Dt.int i) ∘ fun q : KT => (q.1 : Int)) = fun q : KT => nD q.1 := rfl
  rw [fz] at sk
  refine fn_ev ?_
  unfold b_reduced
  k_state0 [start_cons, start_nil, repl_S, repl_0, ap_two, ap_len, ed, e1, e2, e3, sk, wipe_nil, wipe_cons, lm, ap_1, aps_1, eo, tg_dats]
theorem r_reduced {ps : List (Nat × Nat)} {cs : List Cell} (h : ps.length < 63) :
    m_reduced [.dat (.lst (ps.map prD))] cs = .ok (.dat (.tup [.lst ((outK (red ps).1).map prD), .lst ((red ps).2.map nD)])) (cs ++ [.dic (dicK (red ps).1), .dead]) :=
  r_reducedW (Nat.lt_of_le_of_lt (rk_len _) (by rw [List.length_map]; exact h)) (by omega)
/-- brought -/
def b1 (p q : Nat × Nat) : Nat × Nat := if p.1.testBit q.1.log2 = true then (p.1 ^^^ q.1, p.2 ^^^ q.2) else p
/-- the numbers of the figures -/
def itm (m : Nat) : List Nat := (List.range (if m = 0 then 0 else m.log2 + 1)).filter m.testBit
def iD (l : List Nat) : Dt := .tup (l.map nD)
theorem bits_if (m : Nat) : (Builtin.Int.intBits (m : Int) : Nat) = if m = 0 then 0 else m.log2 + 1 := by
  by_cases h : m = 0
  · subst h; rfl
  · rw [bits_nat h, if_neg h]
theorem r_items {m : Nat} {cs : List Cell} (h : m < 2 ^ 1000) : m_items_of [.dat (nD m)] cs = .ok (.dat (iD (itm m))) cs := by
  have hb : (if m = 0 then 0 else m.log2 + 1) ≤ 1000 := by
    by_cases h0 : m = 0
    · rw [if_pos h0]; omega
    · rw [if_neg h0]
      exact (Nat.pow_lt_pow_iff_right (by omega : 1 < 2)).mp (Nat.lt_of_le_of_lt (Nat.log2_self_le h0) h)
  have lf := lc_filter (t := tName 1) (p := ci_items_of_0) (f := ce_items_of_0) (env := [some (.dat (nD m)), none]) (cs := cs) (fun i : Nat => .dat (.int (0 + (i : Int)))) nD m.testBit (List.range (if m = 0 then 0 else m.log2 + 1)) (fun k hk => by
    refine ⟨[some (.dat (nD m)), some (.dat (nD k))], by unfold tName nD; simp, ?_, fun hk => by unfold ce_items_of_0; rfl⟩
    unfold ci_items_of_0 nD
    by_cases hb2 : m.testBit k = true
    · have e2 := tb_t hb2
      rw [hb2]
      k_state0 [e2]
    · have e2 := tb_f (by simpa using hb2)
      rw [show m.testBit k = false by simpa using hb2]
      k_state0 [e2])
  have er : rangeW 0 (Builtin.Int.intBits (m : Int)) = (List.range (if m = 0 then 0 else m.log2 + 1)).map fun i : Nat => Wv.dat (.int (0 + (i : Int))) := by rw [bits_if]; rfl
  have e4 : (((List.range (if m = 0 then 0 else m.log2 + 1)).filter m.testBit).map nD).map Wv.dat = ((itm m).map nD).map Wv.dat := rfl
  rw [e4] at lf
  have hl : (itm m).length ≤ 1000 := Nat.le_trans (List.length_filter_le _ _) (by rw [List.length_range]; exact hb)
  have hB : Builtin.Int.intBits (m : Int) ≤ 1000 := by rw [bits_if]; exact hb
  have hr : (rangeW 0 (Builtin.Int.intBits (m : Int))).length ≤ 16777216 := by rw [er, List.length_map, List.length_range]; omega
  refine fn_ev ?_
  unfold b_items_of iD
  unfold nD at *
  k_state0 [start_cons, start_nil, repl_S, repl_0, wipe_nil, wipe_cons, k_lc hr]
  rw [er]
  rw [lf]
  k_state0 []
end DX
namespace DX
open PySem PySem.Spec PyProof.Rows L2 GF
def ce_mask_of_0 : Ev := eBin (dI cPow fun i j => .int (i * 2 ^ j.toNat)) (eC (.int 1)) (eVar 1)
def b_mask_of : Sv := sRet (eCall (o1 dSum) (aCons (eOfF (fLc (iSeq (eVar 0)) (tName 1) (tYesE) (ce_mask_of_0) [1])) (aNil)))
abbrev m_mask_of : Fn := fnOf 2 (b_mask_of)
def ce_idle_lots_0 : Ev := eTup (aCons (eVar 5) (aCons (eBin (dI cPow fun i j => .int (i * 2 ^ j.toNat)) (eC (.int 1)) (eVar 4)) (aNil)))
def ce_idle_lots_1 : Ev := eTup (aCons (eVar 6) (aCons (eC (.int 0)) (aNil)))
def ce_idle_lots_2 : Ev := eFn 1 (m_items_of) (aCons (eVar 6) (aNil))
def b_idle_lots : Sv := sSeq (sAsg (tTupG 2 (tgCons (tName 1) (tgCons (tName 2) (tgNil)))) (eFn 1 (m_reduced) (aCons (eOfF (fLc (iEnumT (aCons (eVar 0) (aNil))) (tTupG 2 (tgCons (tName 4) (tgCons (tName 5) (tgNil)))) (tYesE) (ce_idle_lots_0) [4, 5])) (aNil)))) (sSeq (sAsg (tTupG 2 (tgCons (tName 3) (tgCons (tName 1) (tgNil)))) (eFn 1 (m_reduced) (aCons (eOfF (fLc (iSeq (eVar 2)) (tName 6) (tYesE) (ce_idle_lots_1) [6])) (aNil)))) (sRet (eCall oSorted2 (aCons (eOfF (fLc (iSeq (eVar 3)) (tTupG 2 (tgCons (tName 6) (tgCons (tName 1) (tgNil)))) (tYesE) (ce_idle_lots_2) [6, 1])) (aNil)))))
abbrev m_idle_lots : Fn := fnOf 7 (b_idle_lots)
def mk (l : List Nat) : Nat := (l.map (2 ^ ·)).sum
theorem mk_bit : ∀ {l : List Nat}, l.Nodup → ∀ i, (mk l).testBit i = decide (i ∈ l)
  | [], _, i => by simp [mk]
  | a :: l, h, i => by
    rw [List.nodup_cons] at h
    have ih := mk_bit h.2
    have e : mk (a :: l) = 2 ^ a ^^^ mk l := by
      have h1 := xor_and (2 ^ a) (mk l)
      have h2 : 2 ^ a &&& mk l = 0 := by
        refine Nat.eq_of_testBit_eq fun j => ?_
        rw [Nat.testBit_and, Nat.testBit_two_pow, Nat.zero_testBit, ih]
        by_cases hj : a = j
        · subst hj; simp [h.1]
        · simp [hj]
      show 2 ^ a + mk l = _
      omega
    rw [e, Nat.testBit_xor, ih, Nat.testBit_two_pow]
    by_cases hj : a = i
    · subst hj; simp [h.1]
    · have hj2 : ¬ i = a := fun z => hj z.symm
      simp [hj, hj2]
theorem itm_mem {m i : Nat} : i ∈ itm m ↔ m.testBit i = true := by
  unfold itm
  rw [List.mem_filter, List.mem_range]
  refine ⟨fun h => h.2, fun h => ⟨?_, h⟩⟩
  have h0 : m ≠ 0 := fun z => by rw [z, Nat.zero_testBit] at h; cases h
  rw [if_neg h0]
  refine Nat.lt_of_not_le fun z => ?_
  rw [testBit_big (log2_top h0).2 z] at h
  cases h
theorem itm_asc (m : Nat) : (itm m).Pairwise (· < ·) := List.Pairwise.sublist List.filter_sublist List.pairwise_lt_range
theorem asc_nodup {l : List Nat} (h : l.Pairwise (· < ·)) : l.Nodup := h.imp fun h => Nat.ne_of_lt h
theorem asc_ext {l m : List Nat} (h1 : l.Pairwise (· < ·)) (h2 : m.Pairwise (· < ·)) (h : ∀ i, i ∈ l ↔ i ∈ m) : l = m :=
  List.Perm.eq_of_pairwise (le := (· < ·)) (fun a b _ _ h1 h2 => by omega) h1 h2 ((List.perm_ext_iff_of_nodup (asc_nodup h1) (asc_nodup h2)).mpr h)
theorem itm_mk {l : List Nat} (h : l.Pairwise (· < ·)) : itm (mk l) = l := asc_ext (itm_asc _) h fun i => by rw [itm_mem, mk_bit (asc_nodup h), decide_eq_true_eq]
theorem mk_itm (m : Nat) : mk (itm m) = m := Nat.eq_of_testBit_eq fun i => by
  rw [mk_bit (asc_nodup (itm_asc m)), Bool.eq_iff_iff, decide_eq_true_eq, itm_mem]
theorem mk_lt {l : List Nat} {n : Nat} (h : l.Nodup) (hl : ∀ i ∈ l, i < n) : mk l < 2 ^ n := Nat.lt_pow_two_of_testBit _ fun i hi => by
  rw [mk_bit h]
  exact decide_eq_false fun z => by have := hl i z; omega
theorem itm_lt {m n : Nat} (h : m < 2 ^ n) : ∀ i ∈ itm m, i < n := fun i hi => by
  refine Nat.lt_of_not_le fun z => ?_
  have := itm_mem.mp hi
  rw [testBit_big h z] at this
  cases this
theorem itm_last {m : Nat} (h : m ≠ 0) : (itm m).getLast? = some m.log2 := by
  unfold itm
  rw [if_neg h, List.range_succ, List.filter_append, List.filter_cons, if_pos (log2_top h).1]
  simp
theorem comb_items (L : List Nat) {m : Nat} (h : m < 2 ^ L.length) : comb L m = xs ((itm m).map fun i => L.getD i 0) := by
  have e : (List.range L.length).filter m.testBit = itm m := asc_ext (List.Pairwise.sublist List.filter_sublist List.pairwise_lt_range) (itm_asc m) fun i => by
    rw [itm_mem, List.mem_filter, List.mem_range]
    exact ⟨fun z => z.2, fun z => ⟨itm_lt h i (itm_mem.mpr z), z⟩⟩
  unfold comb
  rw [e]
theorem k_shl {n : Nat} (h : n ≤ 1000) : dI cPow (fun i j => Dt.int (i * 2 ^ j.toNat)) (.int 1) (.int (n : Int)) = some (.int ((2 ^ n : Nat) : Int)) := by
  unfold dI cPow
  dsimp only
  rw [if_pos (by simp; omega), shl_nat]
theorem sum_nat : ∀ l : List Nat, (l.map fun n : Nat => (n : Int)).sum = ((l.sum : Nat) : Int)
  | [] => rfl
  | a :: l => by simp [sum_nat l]
theorem ints_nD : ∀ l : List Nat, DX.intsOf (l.map nD) = some (l.map fun n : Nat => (n : Int))
  | [] => rfl
  | a :: l => by
    show (DX.intsOf (l.map nD)).map ((a : Int) :: ·) = _
    rw [ints_nD l]
    rfl
theorem r_mask {l : List Nat} {w : Wv} {cs : List Cell} (hw : w = .dat (.lst (l.map nD)) ∨ w = .dat (.tup (l.map nD))) (h : ∀ i ∈ l, i ≤ 1000) (hl : l.length < 16777216) : m_mask_of [w] cs = .ok (.dat (nD (mk l))) cs := by
  have lm := lc_mapD (t := tName 1) (f := ce_mask_of_0) (env := [some w, none]) (cs := cs) nD (fun i => nD (2 ^ i)) l (fun i hi => by
    refine ⟨_, rfl, ?_⟩
    have := k_shl (h i hi)
    unfold ce_mask_of_0 nD
    k_state0 [this])
  have e1 : DX.intsOf ((l.map fun i => nD (2 ^ i))) = some ((l.map (2 ^ ·)).map fun n : Nat => (n : Int)) := by
    have := ints_nD (l.map (2 ^ ·))
    rwa [List.map_map] at this
  have e2 : dSum (.lst (l.map fun i => nD (2 ^ i))) = some (nD (mk l)) := by
    show (DX.intsOf (l.map fun i => nD (2 ^ i))).map (fun ns => Dt.int ns.sum) = _
    rw [e1, Option.map_some, sum_nat]
    rfl
  refine fn_ev ?_
  unfold b_mask_of
  rcases hw with rfl | rfl
  · k_state0 [start_cons, start_nil, repl_S, repl_0, wipe_nil, wipe_cons, lm, e2]
  · k_state0 [start_cons, start_nil, repl_S, repl_0, wipe_nil, wipe_cons, lm, e2]
def zL (l : List Nat) : List Int := l.map fun n : Nat => (n : Int)
theorem iD_tup (l : List Nat) : iD l = DX.tupI (zL l) := by unfold iD tupI zL; rw [List.map_map]; rfl
def lotsR (L : List Nat) : List (List Nat) := (outK (lotsK L)).map fun q => itm q.1
def lots (L : List Nat) : List (List Nat) := (sortV ((lotsR L).map zL)).map (·.map Int.toNat)
theorem zL_back (l : List Nat) : (zL l).map Int.toNat = l := by
  unfold zL
  rw [List.map_map]
  exact List.map_id l
theorem lots_z (L : List Nat) : (lots L).map zL = sortV ((lotsR L).map zL) := by
  unfold lots
  rw [List.map_map]
  have e : ∀ x ∈ sortV ((lotsR L).map zL), (zL ∘ fun x : List Int => x.map Int.toNat) x = x := fun x hx => by
    obtain ⟨y, _, rfl⟩ := List.mem_map.mp ((List.mergeSort_perm ((lotsR L).map zL) _).mem_iff.mp hx)
    show zL ((zL y).map Int.toNat) = zL y
    rw [zL_back]
  rw [List.map_congr_left e, List.map_id']
theorem lots_perm (L : List Nat) : (lots L).Perm (lotsR L) := by
  have p := (List.mergeSort_perm ((lotsR L).map zL) fun a b => decide (pcode (bigB ((lotsR L).map zL)) (bigD ((lotsR L).map zL)) a ≤ pcode (bigB ((lotsR L).map zL)) (bigD ((lotsR L).map zL)) b)).map (List.map Int.toNat)
  have e : ((lotsR L).map zL).map (List.map Int.toNat) = lotsR L := by
    rw [List.map_map]
    exact (List.map_congr_left fun x _ => zL_back x).trans (List.map_id' _)
  rw [e] at p
  exact p
theorem outK_mem {l : List KT} {q : Nat × Nat} : q ∈ outK l ↔ ∃ k, (k, q) ∈ l := by
  unfold outK
  rw [List.mem_map]
  constructor
  · rintro ⟨p, hp, rfl⟩
    exact ⟨p.1, (List.mergeSort_perm _ _).mem_iff.mp hp⟩
  · rintro ⟨k, hk⟩
    exact ⟨(k, q), (List.mergeSort_perm _ _).mem_iff.mpr hk, rfl⟩
theorem outK_len (l : List KT) : (outK l).length = l.length := by
  unfold outK
  rw [List.length_map, (List.mergeSort_perm _ _).length_eq]
theorem lots_mem {L : List Nat} {p : List Nat} : p ∈ lots L ↔ ∃ q ∈ lotsK L, p = itm q.2.1 := by
  rw [(lots_perm L).mem_iff]
  unfold lotsR
  rw [List.mem_map]
  constructor
  · rintro ⟨q, hq, rfl⟩
    obtain ⟨k, hk⟩ := outK_mem.mp hq
    exact ⟨_, hk, rfl⟩
  · rintro ⟨q, hq, rfl⟩
    exact ⟨q.2, outK_mem.mpr ⟨q.1, hq⟩, rfl⟩
theorem lots_len (L : List Nat) : (lots L).length = (lotsK L).length := by
  rw [(lots_perm L).length_eq]
  unfold lotsR
  rw [List.length_map, outK_len]
theorem lots_ne {L : List Nat} {q : KT} (hq : q ∈ lotsK L) : q.2.1 ≠ 0 := (Lots.of L).kp.ne0 _ (List.mem_map.mpr ⟨q, hq, rfl⟩)
theorem lots_ok {L : List Nat} (h : L.length < 64) : okV ((lotsR L).map zL) = true := by
  unfold okV
  rw [Bool.and_eq_true]
  constructor
  · have h1 := (Lots.of L).many
    unfold lotsR
    rw [List.length_map, List.length_map, outK_len]
    exact decide_eq_true (by omega)
  · rw [List.all_eq_true]
    intro n hn
    obtain ⟨p, hp, rfl⟩ := List.mem_map.mp hn
    obtain ⟨q, hq, rfl⟩ := lots_mem.mp ((lots_perm L).mem_iff.mpr hp)
    rw [Bool.and_eq_true, List.all_eq_true]
    constructor
    · refine decide_eq_true ?_
      have := itm_last (lots_ne hq)
      unfold zL
      rw [List.length_map]
      cases e : itm q.2.1 with
      | nil => rw [e] at this; cases this
      | cons a l => simp
    · intro k hk
      obtain ⟨j, _, rfl⟩ := List.mem_map.mp hk
      simp
theorem tups_z : ∀ l : List (List Nat), tupsI (l.map iD) = some (l.map zL)
  | [] => rfl
  | p :: l => by
    have e : tupsI (DX.tupI (zL p) :: l.map iD) = (match DX.intsOf ((zL p).map .int), tupsI (l.map iD) with
      | some n, some ns => some (n :: ns)
      | _, _ => none) := rfl
    rw [List.map_cons, iD_tup, e, ints_map, tups_z l]
    rfl
theorem sort_lots {L : List Nat} {cs : List Cell} (h : L.length < 64) : oSorted2 [.dat (.lst ((lotsR L).map iD))] cs = some (.lst ((lots L).map iD)) := by
  have e : dSortV (.lst ((lotsR L).map iD)) = some (.lst ((lots L).map iD)) := by
    unfold dSortV
    dsimp only
    rw [tups_z]
    dsimp only
    rw [if_pos (lots_ok h), ← lots_z, List.map_map]
    congr 2
    exact List.map_congr_left fun p _ => (iD_tup p).symm
  show ((dSortV (.lst ((lotsR L).map iD))).or _).or _ = _
  rw [e]
  rfl
theorem lots_lt {L : List Nat} {q : KT} (hq : q ∈ lotsK L) : q.2.1 < 2 ^ L.length := ((Lots.of L).zero q hq).2
/-- idle_lots -/
theorem r_idle_lots {L : List Nat} {cs : List Cell} (h : L.length < 63) : ∃ ys, m_idle_lots [.dat (.lst (L.map nD))] cs = .ok (.dat (.lst ((lots L).map iD))) (cs ++ ys) := by
  have lm := lc_map (t := tTupG 2 (tgCons (tName 4) (tgCons (tName 5) tgNil))) (f := ce_idle_lots_0) (env := [some (.dat (.lst (L.map nD))), none, none, none, none, none, none]) (cs := cs) (fun q : Nat × Nat => .dat (.tup [.int (q.2 : Nat), nD q.1])) (fun q => prD (q.1, 2 ^ q.2)) L.zipIdx (fun q hq => by
    have hq2 := (List.mem_zipIdx_iff_getElem?.mp (show (q.1, q.2) ∈ L.zipIdx from hq))
    have hq3 := (List.getElem?_eq_some_iff.mp hq2).1
    refine ⟨_, rfl, ?_⟩
    have := k_shl (n := q.2) (by omega)
    unfold ce_idle_lots_0 prD nD
    k_state0 [this])
  have e1 : (L.zipIdx.map fun q => prD (q.1, 2 ^ q.2)) = (tagged L).map prD := by unfold tagged; rw [List.map_map]; rfl
  have hz : L.zipIdx.length ≤ 16777216 := by rw [List.length_zipIdx]; omega
  have e2 := r_reduced (cs := cs) (ps := tagged L) (by unfold tagged; simp; omega)
  have hm := (Tg.of L).rd.many
  have hl : (tagged L).length = L.length := by unfold tagged; simp
  have lm2 := lc_mapD (t := tName 6) (f := ce_idle_lots_1) (env := [some (.dat (.lst (L.map nD))), some (.dat (.lst ((outK (red (tagged L)).1).map prD))), some (.dat (.lst ((red (tagged L)).2.map nD))), none, none, none, none]) (cs := cs ++ [.dic (dicK (red (tagged L)).1), .dead]) nD (fun m => prD (m, 0)) (red (tagged L)).2 (fun m _ => by
    refine ⟨_, rfl, ?_⟩
    unfold ce_idle_lots_1 prD nD
    k_state0 [nat_c0])
  have e3 : ((red (tagged L)).2.map fun m => prD (m, 0)) = ((red (tagged L)).2.map fun m => (m, 0)).map prD := by rw [List.map_map]; rfl
  have e4 := r_reduced (cs := cs ++ [.dic (dicK (red (tagged L)).1), .dead]) (ps := (red (tagged L)).2.map fun m => (m, 0)) (by rw [List.length_map]; omega)
  have hk2 : (outK (lotsK L)).length ≤ 63 := by rw [outK_len]; have := (Lots.of L).many; omega
  obtain ⟨ys, hys⟩ : ∃ ys, (cs ++ [.dic (dicK (red (tagged L)).1), .dead]) ++ [.dic (dicK (red ((red (tagged L)).2.map fun m => (m, 0))).1), .dead] = cs ++ ys := ⟨_, List.append_assoc ..⟩
  rw [hys] at e4
  have lm3 := lc_mapD (t := tTupG 2 (tgCons (tName 6) (tgCons (tName 1) tgNil))) (f := ce_idle_lots_2) (env := [some (.dat (.lst (L.map nD))), none, some (.dat (.lst ((red (tagged L)).2.map nD))), some (.dat (.lst ((outK (lotsK L)).map prD))), none, none, none]) (cs := cs ++ ys) prD (fun q => iD (itm q.1)) (outK (lotsK L)) (fun q hq => by
    obtain ⟨k, hk⟩ := outK_mem.mp hq
    refine ⟨_, rfl, ?_⟩
    have := r_items (m := q.1) (cs := cs ++ ys) (Nat.lt_of_lt_of_le (lots_lt hk) (Nat.pow_le_pow_right (by omega) (by omega)))
    unfold ce_idle_lots_2
    unfold nD at *
    k_state0 [this])
  have e5 : ((outK (lotsK L)).map fun q => iD (itm q.1)) = (lotsR L).map iD := by unfold lotsR; rw [List.map_map]; rfl
  have e6 := sort_lots (cs := cs ++ ys) (L := L) (by omega)
  refine ⟨ys, fn_ev ?_⟩
  unfold b_idle_lots
  rw [e1] at lm
  rw [e3] at lm2
  rw [e5] at lm3
  unfold lotsK at *
  k_state0 [start_cons, start_nil, repl_S, repl_0, wipe_nil, wipe_cons, enum_map, lm, lm2, lm3, e2, e4, e6]
theorem lots_asc {L : List Nat} {p : List Nat} (h : p ∈ lots L) : p.Pairwise (· < ·) ∧ p ≠ [] ∧ ∀ i ∈ p, i < L.length := by
  obtain ⟨q, hq, rfl⟩ := lots_mem.mp h
  refine ⟨itm_asc _, fun z => ?_, itm_lt (lots_lt hq)⟩
  have := itm_last (lots_ne hq)
  rw [z] at this
  cases this
theorem lots_zero {L : List Nat} {p : List Nat} (h : p ∈ lots L) : xs (p.map fun i => L.getD i 0) = 0 := by
  obtain ⟨q, hq, rfl⟩ := lots_mem.mp h
  rw [← comb_items L (lots_lt hq)]
  exact ((Lots.of L).zero q hq).1
theorem lots_many (L : List Nat) : (lots L).length + rk L = L.length := by rw [lots_len]; exact (Lots.of L).many
end DX
namespace DX
open PySem PySem.Spec PyProof.Rows L2 GF
def ci__law_unlike_0 : EvT := tCmpE (eBin dNotIn (eVar 2) (eVar 1))
def ce__law_unlike_0 : Ev := eVar 2
def ci__law_unlike_1 : EvT := tCmpE (eBin dNotIn (eVar 2) (eVar 0))
def ce__law_unlike_1 : Ev := eVar 2
def b__law_unlike : Sv := sRet (eCall oSorted2 (aCons (eBin dAdd (eOfF (fLc (iSeq (eVar 0)) (tName 2) (ci__law_unlike_0) (ce__law_unlike_0) [2])) (eOfF (fLc (iSeq (eVar 1)) (tName 2) (ci__law_unlike_1) (ce__law_unlike_1) [2]))) (aNil)))
abbrev m__law_unlike : Fn := fnOf 3 (b__law_unlike)
theorem nat_many {l : List Nat} {N : Nat} (h : l.Nodup) (hl : ∀ i ∈ l, i < N) : l.length ≤ N := by
  have p : l.Perm ((List.range N).filter fun i => decide (i ∈ l)) := (List.perm_ext_iff_of_nodup h (List.Nodup.sublist List.filter_sublist List.nodup_range)).mpr fun i => by
    rw [List.mem_filter, List.mem_range, decide_eq_true_eq]
    exact ⟨fun z => ⟨hl i z, z⟩, fun z => z.2⟩
  rw [p.length_eq]
  exact Nat.le_trans (List.length_filter_le _ _) (by rw [List.length_range]; exact Nat.le_refl _)
/-- items that can be told apart, numbered and sorted -/
structure Itm {α : Type} [DecidableEq α] (en : α → Dt) (pd : α → PyData) (idx : α → Nat) : Prop where
  eq : EqD en pd 1
  inj : ∀ a b, idx a = idx b → a = b
  srt : ∀ l : List α, l.Nodup → (∀ a ∈ l, idx a < 63) → ∃ l' : List α, l'.Perm l ∧ ∀ cs, oSorted2 [.dat (.lst (l.map en))] cs = some (.lst (l'.map en))
section
variable {α : Type} [DecidableEq α] {en : α → Dt} {pd : α → PyData} {idx : α → Nat}
def unl0 (l m : List α) : List α := l.filter (fun a => !decide (a ∈ m)) ++ m.filter (fun a => !decide (a ∈ l))
theorem Itm.nd (h : Itm en pd idx) {l : List α} (hl : l.Nodup) : (l.map idx).Nodup := by
  rw [List.Nodup, List.pairwise_map]
  exact hl.imp fun ne e => ne (h.inj _ _ e)
theorem unl_nd {l m : List α} (hl : l.Nodup) (hm : m.Nodup) : (unl0 l m).Nodup := by
  unfold unl0
  rw [List.nodup_append]
  refine ⟨hl.sublist List.filter_sublist, hm.sublist List.filter_sublist, fun a ha b hb e => ?_⟩
  subst e
  have h1 := (List.mem_filter.mp ha).1
  have h2 := (List.mem_filter.mp hb).2
  simp [h1] at h2
end
end DX
namespace DX
open PySem PySem.Spec PyProof.Rows L2 GF
theorem rangeW_is (m : Nat) : rangeW 0 m = (List.range m).map fun i : Nat => Wv.dat (.int (0 + (i : Int))) := rfl
def pus : Wd → List Wd → Wd := List.foldl pu
theorem pus_ok {n : Nat} : ∀ {ws : List Wd} {a : Wd}, WOk' n a → (∀ b ∈ ws, WOk' n b) → WOk' n (pus a ws)
  | [], _, ha, _ => ha
  | b :: ws, a, ha, hb => pus_ok (ws := ws) (pu_ok ha (hb b List.mem_cons_self)) fun c hc => hb c (List.mem_cons_of_mem _ hc)
theorem nothing_ok {n : Nat} {s : Int} (h : Sg s) : WOk' n (nothing n s) := ⟨h, by simp [nothing], fun x hx => by rw [(List.mem_replicate.mp hx).2]; omega⟩
end DX
namespace DX
open PySem PySem.Spec PyProof.Rows L2 GF
def w00 : Wd := ⟨1, []⟩
def picks (as : List Wd) (p : List Nat) : List Wd := p.map fun i => as.getD i w00
theorem picks_ok {as : List Wd} {n : Nat} {p : List Nat} (ho : ∀ a ∈ as, WOk' n a) (hp : ∀ i ∈ p, i < as.length) : ∀ b ∈ picks as p, WOk' n b := fun b hb => by
  obtain ⟨i, hi, rfl⟩ := List.mem_map.mp hb
  have h := hp i hi
  rw [List.getD_eq_getElem?_getD, List.getElem?_eq_getElem h]
  exact ho _ (List.getElem_mem h)
theorem at_nat' {α : Type} {en : α → Dt} {l : List α} {i : Nat} {d : α} (h : i < l.length) : dIx (.lst (l.map en)) (.int (i : Int)) = some (en (l.getD i d)) := by
  rw [List.getD_eq_getElem?_getD, List.getElem?_eq_getElem h]
  show atI (l.map en) (i : Int) = _
  rw [at_nat, List.getElem?_map, List.getElem?_eq_getElem h]
  rfl
theorem at_natT {α : Type} {en : α → Dt} {l : List α} {i : Nat} {d : α} (h : i < l.length) : dIx (.tup (l.map en)) (.int (i : Int)) = some (en (l.getD i d)) := at_nat' (en := en) h
end DX
namespace DX
open PySem PySem.Spec PyProof.Rows L2
mutual
/-- small numbers, texts of code points, lists and tuples of such -/
def smP : PyData → Bool
  | .int i => decide (i.natAbs < 1000000000000000000)
  | .str x => x.cps.toList.all fun c => decide (c < 4294967296)
  | .list xs => smPs xs
  | .tuple xs => smPs xs
  | .dict _ => false
  | _ => true
def smPs : List PyData → Bool
  | [] => true
  | x :: xs => smP x && smPs xs
end
mutual
def szP : PyData → Nat
  | .int _ => 20
  | .str x => 10 * x.length + 2
  | .list xs => szPs xs + 5
  | .tuple xs => szPs xs + 5
  | _ => 5
def szPs : List PyData → Nat
  | [] => 0
  | x :: xs => szP x + 2 + szPs xs
end
theorem app_len (a b : Str) : (a ++ b).length = a.length + b.length := by
  show (Str.mk (a.cps ++ b.cps)).cps.size = _
  simp [Str.length]
theorem tup_len (ts : List Str) : (tupleText ts).length ≤ piled ts + 3 := by
  unfold tupleText
  rw [app_len, app_len]
  have h1 : ("(" : Str).length = 1 := rfl
  have h2 : ((if ts.length == 1 then ",)" else ")" : String) : Str).length ≤ 2 := by split <;> decide
  cases ts with
  | nil => simp [Str.join] at *; show 1 + 0 + _ ≤ _; omega
  | cons t ts =>
    have h3 := join_length_add (t :: ts) (by simp)
    omega
theorem lst_len (ts : List Str) : (listText ts).length ≤ piled ts + 3 := by
  have h := listText_len_le ts
  have e : (ts.map (·.length)).sum + 2 * ts.length = piled ts := by
    unfold piled
    induction ts with
    | nil => rfl
    | cons t ts ih =>
      have ih := ih (listText_len_le ts)
      simp only [List.map_cons, List.sum_cons, List.length_cons] at ih ⊢
      omega
  omega
mutual
theorem sm_show : ∀ d : PyData, smP d = true → d.showable = true ∧ d.shown.length ≤ szP d
  | .none, _ => ⟨rfl, by decide +kernel⟩
  | .bool b, _ => ⟨rfl, by cases b <;> decide +kernel⟩
  | .int i, h => by
    have h : i.natAbs < 1000000000000000000 := of_decide_eq_true h
    refine ⟨decide_eq_true ?_, ?_⟩
    · refine Nat.lt_of_le_of_lt (m := 60) ?_ (by decide)
      by_cases h0 : i.natAbs = 0
      · rw [h0]; decide
      · exact Nat.le_of_lt ((Nat.log2_lt h0).mpr (Nat.lt_of_lt_of_le h (by decide)))
    · have := int_text_length_le10 (a := i) (k := 18) (by decide) h
      have e : (PyData.shown (.int i)).length = (toString i).length := by
        exact PySem.ofString_length _
      rw [e]
      show _ ≤ 20
      omega
  | .str x, h => by
    have h : (x.cps.toList.all fun c => decide (c < 4294967296)) = true := h
    refine ⟨rfl, ?_⟩
    exact StrLaws.reprText_len x fun c hc => by
      have := of_decide_eq_true (List.all_eq_true.mp h c hc)
      exact Nat.lt_of_lt_of_le this (by decide)
  | .list xs, h => by
    obtain ⟨h1, h2⟩ := sm_shows xs h
    refine ⟨h1, ?_⟩
    have := lst_len (PyData.shownAll xs)
    show (listText (PyData.shownAll xs)).length ≤ szPs xs + 5
    omega
  | .tuple xs, h => by
    obtain ⟨h1, h2⟩ := sm_shows xs h
    refine ⟨h1, ?_⟩
    have := tup_len (PyData.shownAll xs)
    show (tupleText (PyData.shownAll xs)).length ≤ szPs xs + 5
    omega
  | .dict _, h => by cases h
theorem sm_shows : ∀ xs : List PyData, smPs xs = true → PyData.showableAll xs = true ∧ piled (PyData.shownAll xs) ≤ szPs xs
  | [], _ => ⟨rfl, Nat.le_refl _⟩
  | x :: xs, h => by
    have h : (smP x && smPs xs) = true := h
    rw [Bool.and_eq_true] at h
    obtain ⟨a1, a2⟩ := sm_show x h.1
    obtain ⟨b1, b2⟩ := sm_shows xs h.2
    refine ⟨?_, ?_⟩
    · show (x.showable && PyData.showableAll xs) = true
      rw [a1, b1]
      rfl
    · show piled (x.shown :: PyData.shownAll xs) ≤ szP x + 2 + szPs xs
      rw [piled_cons]
      omega
end
theorem repr_int {i : Int} (h : i.natAbs < 1000000000000000000) : dRepr (.int i) = some (.str (toString i)) := by
  have a := (sm_show (.int i) (decide_eq_true h)).1
  unfold dRepr dRepr0
  show (dReprI (.int i)) = _
  exact if_pos a
theorem smPs_map {α : Type} (pd : α → PyData) : ∀ l : List α, (∀ a ∈ l, smP (pd a) = true) → smPs (l.map pd) = true
  | [], _ => rfl
  | a :: l, h => by
    show (smP (pd a) && smPs (l.map pd)) = true
    rw [h a List.mem_cons_self, smPs_map pd l fun b hb => h b (List.mem_cons_of_mem _ hb)]
    rfl
theorem szPs_map {α : Type} (pd : α → PyData) (B : Nat) : ∀ l : List α, (∀ a ∈ l, szP (pd a) ≤ B) → szPs (l.map pd) ≤ (B + 2) * l.length
  | [], _ => Nat.zero_le _
  | a :: l, h => by
    have h1 := h a List.mem_cons_self
    have h2 := szPs_map pd B l fun b hb => h b (List.mem_cons_of_mem _ hb)
    show szP (pd a) + 2 + szPs (l.map pd) ≤ _
    rw [List.length_cons, Nat.mul_succ]
    omega
end DX
namespace DX
open PySem PySem.Spec PyProof.Rows L2 GF
def ci__law_is_rising_0 : EvT := tNot' (tTru (eFn 2 (m__law_is_below) (aCons (eVar 2) (aCons (eVar 1) (aNil)))))
def ce__law_is_rising_0 : Ev := eC (.int 1)
def ci__law_is_rising_1 : EvT := tCmpE (eBin (dI0 fun i j => .bl (decide (j ≤ i))) (eIx (eVar 0) (eVar 3)) (eIx (eVar 0) (eBin dAdd (eVar 3) (eC (.int 1)))))
def ce__law_is_rising_1 : Ev := eC (.int 1)
def b__law_is_rising : Sv := sSeq (sIf (tOr' (tNot' (tTru (eCall oIsi (aCons (eVar 0) (aCons (eC (.op (.ty "tuple"))) (aNil)))))) (tCmpE (eEqC true (eOfF (fLc (iSeq (eVar 0)) (tName 2) (ci__law_is_rising_0) (ce__law_is_rising_0) [2])) (eLst (aNil))))) (sRet (eC (.bl false))) (sNil)) (sRet (eEqC false (eOfF (fLc (iRg1 (aCons (eBin (dI0 fun i j => .int (i - j)) (eCall oLen (aCons (eVar 0) (aNil))) (eC (.int 1))) (aNil))) (tName 3) (ci__law_is_rising_1) (ce__law_is_rising_1) [3])) (eLst (aNil))))
abbrev m__law_is_rising : Fn := fnOf 4 (b__law_is_rising)
def ce_is_rising_0 : Ev := eFn 3 (m_is_between) (aCons (eVar 2) (aCons (eC (.int 0)) (aCons (eBin (dI0 fun i j => .int (i - j)) (eVar 1) (eC (.int 1))) (aNil))))
def ce_is_rising_1 : Ev := eBin (dI0 fun i j => .bl (decide (i < j))) (eVar 3) (eVar 4)
def b_is_rising : Sv := sSeq (sIf (tOr' (tNot' (tTru (eCall oIsi (aCons (eVar 0) (aCons (eC (.op (.ty "tuple"))) (aNil)))))) (tNot' (tTru (eCall (o1 dAll) (aCons (eOfF (fLc (iSeq (eVar 0)) (tName 2) (tYesE) (ce_is_rising_0) [2])) (aNil)))))) (sRet (eC (.bl false))) (sNil)) (sRet (eCall (o1 dAll) (aCons (eOfF (fLc (iZipE (aCons (eVar 0) (aCons (eSl (eVar 0) (oSome (eC (.int 1))) (oNone)) (aNil)))) (tTupG 2 (tgCons (tName 3) (tgCons (tName 4) (tgNil)))) (tYesE) (ce_is_rising_1) [3, 4])) (aNil))))
abbrev m_is_rising : Fn := fnOf 5 (b_is_rising)
theorem r_whole {i : Int} {cs : List Cell} : m__law_is_whole [.dat (.int i)] cs = .ok (.dat (.bl true)) cs := r_is_whole rfl
theorem r_belowN {i m : Nat} (h : i < m) (cs : List Cell) : m__law_is_below [.dat (nD i), .dat (nD m)] cs = .ok (.dat (.bl true)) cs := by
  have w := r_whole (i := (i : Int)) (cs := cs)
  have h1 : (i : Int) < (m : Int) := by omega
  have h0 : (0 : Int) ≤ (i : Int) := by omega
  refine fn_ev ?_
  unfold nD
  k_state0 [b__law_is_below, start_cons, start_nil, repl_S, repl_0, w, h1, h0]
theorem r_rising {p : List Nat} {m : Nat} (hp : p.Pairwise (· < ·)) (hm : ∀ i ∈ p, i < m) (hl : p.length < 1000) (cs : List Cell) : m__law_is_rising [.dat (iD p), .dat (nD m)] cs = .ok (.dat (.bl true)) cs := by
  have lf := lc_filterD (t := tName 2) (p := ci__law_is_rising_0) (f := ce__law_is_rising_0) (env := [some (.dat (iD p)), some (.dat (nD m)), none, none]) (cs := cs) nD (fun _ => .int 1) (fun _ => false) p (fun i hi => by
    refine ⟨_, rfl, ?_, fun z => absurd z Bool.false_ne_true⟩
    have := r_belowN (hm i hi) cs
    unfold nD at *
    k_state0 [ci__law_is_rising_0, this])
  rw [List.filter_eq_nil_iff.mpr (fun _ _ => Bool.false_ne_true)] at lf
  have lg := lc_filter (t := tName 3) (p := ci__law_is_rising_1) (f := ce__law_is_rising_1) (env := [some (.dat (iD p)), some (.dat (nD m)), none, none]) (cs := cs) (fun i : Nat => .dat (.int (0 + (i : Int)))) (fun _ => .int 1) (fun _ => false) (List.range (p.length - 1)) (fun i hi => by
    have hi := List.mem_range.mp hi
    refine ⟨[some (.dat (iD p)), some (.dat (nD m)), none, some (.dat (nD i))], by unfold tName nD; simp, ?_, fun z => absurd z Bool.false_ne_true⟩
    have a1 := at_natT (en := nD) (l := p) (i := i) (d := 0) (by omega)
    have a2 := at_natT (en := nD) (l := p) (i := i + 1) (d := 0) (by omega)
    have lt : p.getD i 0 < p.getD (i + 1) 0 := by
      rw [List.getD_eq_getElem?_getD, List.getD_eq_getElem?_getD, List.getElem?_eq_getElem (by omega), List.getElem?_eq_getElem (by omega)]
      exact List.pairwise_iff_getElem.mp hp i (i + 1) (by omega) (by omega) (by omega)
    have nle : ¬ ((p.getD (i + 1) 0 : Nat) : Int) ≤ ((p.getD i 0 : Nat) : Int) := by omega
    have ei : ((i : Int) + 1) = ((i + 1 : Nat) : Int) := by omega
    unfold iD nD at *
    k_state0 [ci__law_is_rising_1, a1, ei, a2, nle])
  rw [List.filter_eq_nil_iff.mpr (fun _ _ => Bool.false_ne_true)] at lg
  have hr : rangeW 0 (((p.length : Nat) : Int) - 1).toNat = (List.range (p.length - 1)).map fun i : Nat => Wv.dat (.int (0 + (i : Int))) := by
    rw [show (((p.length : Nat) : Int) - 1).toNat = p.length - 1 by omega]
    rfl
  have hz : (rangeW 0 (((p.length : Nat) : Int) - 1).toNat).length ≤ 16777216 := by rw [hr, List.length_map, List.length_range]; omega
  rw [← hr] at lg
  simp only [List.map_nil] at lf lg
  have ist : ∀ l cs, oIsi [.dat (.tup l), .dat (.op (.ty "tuple"))] cs = some (.bl true) := fun _ _ => rfl
  refine fn_ev ?_
  unfold iD nD at *
  k_state0 [b__law_is_rising, ist, start_cons, start_nil, repl_S, repl_0, wipe_nil, wipe_cons, lf, List.length_map, k_lc hz, lg]
theorem cutA {α : Type} (en : α → Dt) (l : List α) (k : Nat) : cutL (l.map en) none (some (k : Int)) = (l.take k).map en := by
  rw [cut_hi (by omega), Int.toNat_natCast, List.map_take]
def inR (m : Nat) : Dt → Bool
  | .int i => decide (0 ≤ i) && decide (i ≤ (m : Int) - 1)
  | _ => false
def unI : Dt → Int
  | .int i => i
  | _ => 0
def upB (l : List Int) : Bool := (l.zip (l.drop 1)).all fun q => decide (q.1 < q.2)
def ris (m : Nat) : Dt → Bool
  | .tup l => l.all (inR m) && upB (l.map unI)
  | _ => false
theorem upB_iff : ∀ l : List Int, upB l = true ↔ l.Pairwise (· < ·)
  | [] => by simp [upB]
  | [a] => by simp [upB]
  | a :: b :: r => by
    have ih := upB_iff (b :: r)
    have e : upB (a :: b :: r) = (decide (a < b) && upB (b :: r)) := rfl
    rw [e, Bool.and_eq_true, decide_eq_true_eq, ih, List.pairwise_cons (a := a)]
    constructor
    · rintro ⟨h1, h2⟩
      refine ⟨fun c hc => ?_, h2⟩
      rcases List.mem_cons.mp hc with rfl | hc
      · exact h1
      · exact Int.lt_trans h1 ((List.pairwise_cons.mp h2).1 c hc)
    · rintro ⟨h1, h2⟩
      exact ⟨h1 b List.mem_cons_self, h2⟩
theorem inR_un {m : Nat} : ∀ {l : List Dt}, l.all (inR m) = true → l = (l.map unI).map .int
  | [], _ => rfl
  | d :: l, h => by
    simp only [List.all_cons, Bool.and_eq_true] at h
    rw [List.map_cons, List.map_cons, ← inR_un h.2]
    cases d with
    | int i => rfl
    | _ => cases h.1
theorem ris_of {m : Nat} {x : Dt} (h : ris m x = true) : ∃ p : List Nat, x = iD p ∧ p.Pairwise (· < ·) ∧ ∀ i ∈ p, i < m := by
  cases x with
  | tup l =>
    have h : (l.all (inR m) && upB (l.map unI)) = true := h
    rw [Bool.and_eq_true, upB_iff] at h
    have e := inR_un h.1
    have hb : ∀ z ∈ l.map unI, 0 ≤ z ∧ z < (m : Int) := fun z hz => by
      obtain ⟨d, hd, rfl⟩ := List.mem_map.mp hz
      have q := List.all_eq_true.mp h.1 d hd
      cases d with
      | int i =>
        have q : (decide (0 ≤ i) && decide (i ≤ (m : Int) - 1)) = true := q
        simp only [Bool.and_eq_true, decide_eq_true_eq] at q
        show 0 ≤ i ∧ i < (m : Int)
        omega
      | _ => cases q
    refine ⟨(l.map unI).map Int.toNat, ?_, ?_, fun i hi => ?_⟩
    · unfold iD
      rw [e, List.map_map, List.map_map, List.map_map, List.map_map]
      congr 1
      refine List.map_congr_left fun d hd => ?_
      have := hb (unI d) (List.mem_map.mpr ⟨d, hd, rfl⟩)
      show Dt.int (unI d) = Dt.int (((unI d).toNat : Nat) : Int)
      rw [Int.toNat_of_nonneg this.1]
    · rw [List.pairwise_map]
      refine List.Pairwise.imp_of_mem (fun {a b} ha hb' hab => ?_) h.2
      have := hb a ha
      omega
    · obtain ⟨z, hz, rfl⟩ := List.mem_map.mp hi
      have := hb z hz
      omega
  | _ => cases h
theorem ris_asc {m : Nat} {p : List Nat} (hp : p.Pairwise (· < ·)) (hm : ∀ i ∈ p, i < m) : ris m (iD p) = true := by
  show ((p.map nD).all (inR m) && upB ((p.map nD).map unI)) = true
  rw [Bool.and_eq_true, upB_iff]
  constructor
  · rw [List.all_eq_true]
    intro d hd
    obtain ⟨i, hi, rfl⟩ := List.mem_map.mp hd
    have := hm i hi
    show (decide (0 ≤ (i : Int)) && decide ((i : Int) ≤ (m : Int) - 1)) = true
    simp only [Bool.and_eq_true, decide_eq_true_eq]
    omega
  · rw [List.map_map, List.pairwise_map]
    exact hp.imp fun {a b} h => by
      show (a : Int) < (b : Int)
      omega
theorem r_between {m : Nat} {a : Dt} {cs : List Cell} (h : pl0 a = true) : m_is_between [.dat a, .dat (.int 0), .dat (.int ((m : Int) - 1))] cs = .ok (.dat (.bl (inR m a))) cs := by
  cases a with
  | int i =>
    have q : m_is_number [.dat (.int i)] cs = .ok (.dat (.bl true)) cs := rfl
    refine fn_ev ?_
    by_cases h0 : (0 : Int) ≤ i
    · k_state0 [b_is_between, start_cons, start_nil, repl_S, repl_0, q, h0]
      simp [inR, h0]
    · k_state0 [b_is_between, start_cons, start_nil, repl_S, repl_0, q, h0]
      simp [inR, h0]
  | op v => cases h
  | scr v => cases h
  | exn v => cases h
  | dit v => cases h
  | lam _ _ => cases h
  | _ => rfl
def szT : Dt → Bool
  | .tup l => decide (l.length ≤ 1000)
  | _ => true
theorem r_is_rising {m : Nat} {x : Dt} {cs : List Cell} (h : pl1 x = true) (hs : szT x = true) : m_is_rising [.dat x, .dat (.int (m : Nat))] cs = .ok (.dat (.bl (ris m x))) cs := by
  cases x with
  | tup l =>
    have h : l.all pl0 = true := h
    have hs : l.length ≤ 1000 := of_decide_eq_true hs
    have lm := lc_map (t := tName 2) (f := ce_is_rising_0) (env := [some (.dat (.tup l)), some (.dat (.int (m : Nat))), none, none, none]) (cs := cs) Wv.dat (fun d => .bl (inR m d)) l (fun d hd => by
      refine ⟨_, rfl, ?_⟩
      have q := r_between (m := m) (cs := cs) (List.all_eq_true.mp h d hd)
      k_state0 [ce_is_rising_0, q])
    have al := all_map (inR m) l
    have ist : ∀ l cs, oIsi [.dat (.tup l), .dat (.op (.ty "tuple"))] cs = some (.bl true) := fun _ _ => rfl
    cases hb : l.all (inR m) with
    | false =>
      rw [hb] at al
      have e : ris m (.tup l) = false := by
        show (l.all (inR m) && _) = false
        rw [hb]
        rfl
      rw [e]
      refine fn_ev ?_
      k_state0 [b_is_rising, ist, start_cons, start_nil, repl_S, repl_0, wipe_nil, wipe_cons, lm, al]
    | true =>
      rw [hb] at al
      have e : ris m (.tup l) = upB (l.map unI) := by
        show (l.all (inR m) && _) = _
        rw [hb]
        rfl
      rw [e]
      have el := inR_un hb
      obtain ⟨ns, en⟩ : ∃ ns, ns = l.map unI := ⟨_, rfl⟩
      have hns : ns.length ≤ 1000 := by rw [en, List.length_map]; exact hs
      have hzp : (ns.zip (ns.drop 1)).length ≤ 1000 := by rw [List.length_zip]; omega
      rw [← en] at el ⊢
      have c1 : cutL (ns.map Dt.int) (some 1) none = (ns.drop 1).map Dt.int := by
        rw [cut_lo (by decide), List.map_drop]
        rfl
      have zm := zip_map Dt.int Dt.int ns (ns.drop 1)
      have lz := lc_map (t := tTupG 2 (tgCons (tName 3) (tgCons (tName 4) tgNil))) (f := ce_is_rising_1) (env := [some (.dat (.tup l)), some (.dat (.int (m : Nat))), none, none, none]) (cs := cs) (fun q : Int × Int => .dat (.tup [.int q.1, .int q.2])) (fun q => .bl (decide (q.1 < q.2))) (ns.zip (ns.drop 1)) (fun q _ => by
        refine ⟨_, rfl, ?_⟩
        k_state0 [ce_is_rising_1])
      have al2 := all_map (fun q : Int × Int => decide (q.1 < q.2)) (ns.zip (ns.drop 1))
      rw [show (ns.zip (ns.drop 1)).all (fun q : Int × Int => decide (q.1 < q.2)) = upB ns from rfl] at al2
      rw [el] at lm lz ⊢
      rw [el] at al
      refine fn_ev ?_
      k_state0 [b_is_rising, ist, start_cons, start_nil, repl_S, repl_0, wipe_nil, wipe_cons, lm, al, c1, zm, lz, al2]
  | op v => cases h
  | scr v => cases h
  | exn v => cases h
  | dit v => cases h
  | lam _ _ => cases h
  | _ => rfl
theorem iD_pl (p : List Nat) : pl1 (iD p) = true := by
  show (p.map nD).all pl0 = true
  rw [List.all_eq_true]
  intro d hd
  obtain ⟨i, _, rfl⟩ := List.mem_map.mp hd
  rfl
theorem iD_sz {p : List Nat} (h : p.length ≤ 1000) : szT (iD p) = true := decide_eq_true (by rw [List.length_map]; exact h)
end DX
namespace DX
open PySem PySem.Spec PyProof.Rows L2
theorem cutL_to {α : Type} {l : List α} {d : Int} (h0 : 0 ≤ d) (h : d ≤ l.length) : cutL l none (some d) = l.take d.toNat := by
  obtain ⟨k, rfl⟩ : ∃ k : Nat, d = k := ⟨d.toNat, by omega⟩
  unfold cutL
  rw [HT.sIx_none, HT.sIx_nat]
  simp
theorem cutL_from {α : Type} {l : List α} {d : Int} (h0 : 0 ≤ d) (h : d ≤ l.length) : cutL l (some d) none = l.drop d.toNat := by
  obtain ⟨k, rfl⟩ : ∃ k : Nat, d = k := ⟨d.toNat, by omega⟩
  unfold cutL
  rw [HT.sIx_none, HT.sIx_nat]
  rw [show min k l.length = k by omega]
  exact List.take_of_length_le (by simp)
theorem at_map {α β : Type} {f : α → β} {l : List α} {k : Nat} (d : α) (h : k < l.length) : atI (l.map f) (k : Int) = some (f (l.getD k d)) := by
  rw [at_nat, List.getElem?_map, List.getElem?_eq_getElem h, List.getD_eq_getElem?_getD, List.getElem?_eq_getElem h]
  rfl
section
variable {α β : Type} {t : Tg} {f : Ev} {env : En}
theorem lc_acc (en : α → Wv) (ed : β → Dt) (R : List α → List β → List Cell → Prop) : ∀ (l pre : List α) (acc : List β) (cs : List Cell), (∀ pr x post ac cs, pre ++ l = pr ++ x :: post → R pr ac cs → ∃ env' b cs', t (en x) env = some env' ∧ f env' cs = .ok (.dat (ed b)) cs' ∧ R (pr ++ [x]) (ac ++ [b]) cs') → R pre acc cs →
    ∃ bs cs', loopC t tYesE f env (l.map en) cs = .ok ((bs.map ed).map Wv.dat) cs' ∧ R (pre ++ l) (acc ++ bs) cs' ∧ bs.length = l.length
  | [], pre, acc, cs, _, h0 => ⟨[], cs, rfl, by simpa using h0, rfl⟩
  | x :: l, pre, acc, cs, h, h0 => by
    obtain ⟨env', b, cs1, e1, e2, h1⟩ := h pre x l acc cs rfl h0
    obtain ⟨bs, cs', q1, q2, q3⟩ := lc_acc en ed R l (pre ++ [x]) (acc ++ [b]) cs1 (fun pr y post ac cs e => h pr y post ac cs (by rw [← e]; simp)) h1
    refine ⟨b :: bs, cs', ?_, by simpa using q2, by simp [q3]⟩
    rw [List.map_cons]
    unfold loopC
    rw [e1, mb, m_opt, rb_ok, mb, nx_ok (show tYesE env' cs = .ok true cs from rfl), rb_ok, if_pos rfl, mb, nx_ok e2, rb_ok, mb, q1, rb_ok]
    rfl
end
end DX
namespace DX
open PySem PySem.Spec PyProof.Rows L2 GF
def mu__law_mixed_0 (env : En) (cs : List Cell) : Nat := match env with
  | _ :: _ :: some (.cel k) :: _ => match cs[k]? with
    | some (.lst l) => l.length + 1
    | _ => 0
  | _ => 0
def lt__law_mixed_0 : EvT := tCmpE (eEqC true (eVar 2) (eLst (aNil)))
def lw__law_mixed_0 : Sv := sExpr (eMeth okLst oAppend (eVar 3) (aCons (eMeth okLst oPopAt (eVar 2) (aCons (eFn 2 (m__law_draw) (aCons (eVar 0) (aCons (eCall oLen (aCons (eVar 2) (aNil))) (aNil)))) (aNil))) (aNil)))
def b__law_mixed : Sv := sSeq (sPar 2 3 (aCons (eCelF (fListOf (aCons (eVar 1) (aNil)))) (aCons (eCelF (fLst (aNil))) (aNil)))) (sSeq (sWhile mu__law_mixed_0 (lt__law_mixed_0) (lw__law_mixed_0)) (sRet (eFrz (eVar 3))))
abbrev m__law_mixed : Fn := fnOf 4 (b__law_mixed)
def ce__law_crews_0 : Ev := eVar 2
def b__law_crews : Sv := sRet (eOfF (fLc (iSeq (eIx (eVar 0) (eC (.str "benches")))) (tTupG 2 (tgCons (tName 1) (tgCons (tName 2) (tgNil)))) (tYesE) (ce__law_crews_0) [1, 2]))
abbrev m__law_crews : Fn := fnOf 3 (b__law_crews)
def b_is_crew : Sv := sRet (eAnd (eFn 2 (m_is_rising) (aCons (eVar 1) (aCons (eVar 0) (aNil)))) (eChain (dI0 fun i j => .bl (decide (i ≤ j))) (dI0 fun i j => .bl (decide (i ≤ j))) (eC (.int 1)) (eCall oLen (aCons (eVar 1) (aNil))) (eC (.int 8))))
abbrev m_is_crew : Fn := fnOf 2 (b_is_crew)
def b_is_bench : Sv := sRet (eAnd (eCall oIsi (aCons (eVar 1) (aCons (eC (.op (.ty "tuple"))) (aNil)))) (eAnd (eEqC false (eCall oLen (aCons (eVar 1) (aNil))) (eC (.int 2))) (eAnd (eFn 1 (m_is_sign) (aCons (eIx (eVar 1) (eC (.int 0))) (aNil))) (eFn 2 (m_is_crew) (aCons (eVar 0) (aCons (eIx (eVar 1) (eC (.int 1))) (aNil)))))))
abbrev m_is_bench : Fn := fnOf 2 (b_is_bench)
def ce_Hall_init__0 : Ev := eFn 2 (m_is_bench) (aCons (eVar 1) (aCons (eVar 3) (aNil)))
def b_Hall_init_ (V : Ax) : Sv := sSeq (sIf (tNot' (tTru (eFn 3 (m_is_between) (aCons (eVar 1) (aCons (eC (.int 1)) (aCons (eC (.int 15)) (aNil))))))) (sRaise "BadMany") (sNil)) (sSeq (sIf (tOr' (tNot' (tTru (eCall oIsi (aCons (eVar 2) (aCons (eC (.op (.ty "tuple"))) (aNil)))))) (tCmpE (eBin (dI0 fun i j => .bl (decide (j < i))) (eCall oLen (aCons (eVar 2) (aNil))) (eC (.int 12))))) (sRaise "BadBenches") (sNil)) (sSeq (sIf (tNot' (tTru (eCall (o1 dAll) (aCons (eOfF (fLc (iSeq (eVar 2)) (tName 3) (tYesE) (ce_Hall_init__0) [3])) (aNil))))) (sRaise "BadBenches") (sNil)) (sSeq (sPutF (V.A 52) "many" (eVar 0) (eVar 1)) (sPutF (V.A 52) "benches" (eVar 0) (eVar 2)))))
abbrev m_Hall_init_ (V : Ax) : Fn := fnOf 4 (b_Hall_init_ V)
def b__law_made (V : Ax) : Sv := sRet (eNew true (V.A 52) 3 (m_Hall_init_ V) (aCons (eIx (eVar 0) (eC (.str "many"))) (aCons (eIx (eVar 0) (eC (.str "benches"))) (aNil))))
abbrev m__law_made (V : Ax) : Fn := fnOf 1 (b__law_made V)
def ce_crews_of_0 : Ev := eVar 2
def b_crews_of (V : Ax) : Sv := sRet (eOfF (fLc (iSeq (eFld (V.A 52) "benches" (eVar 0))) (tTupG 2 (tgCons (tName 1) (tgCons (tName 2) (tgNil)))) (tYesE) (ce_crews_of_0) [1, 2]))
abbrev m_crews_of (V : Ax) : Fn := fnOf 3 (b_crews_of V)
def b_need_hall (V : Ax) : Sv := sIf (tNot' (tTru (eCall (oIsO V.K) (aCons (eVar 0) (aCons (eC (.op (.ref (V.A 52)))) (aNil)))))) (sRaise "BadHall") (sNil)
abbrev m_need_hall (V : Ax) : Fn := fnOf 1 (b_need_hall V)
section
variable {α : Type} {l : List α} {a b c : α}
theorem two_0 : (l ++ [a, b])[l.length]? = some a := by simp
theorem two_1 : (l ++ [a, b])[l.length + 1]? = some b := by simp
theorem two_s0 : (l ++ [a, b]).set l.length c = l ++ [c, b] := by simp
theorem two_s1 : (l ++ [a, b]).set (l.length + 1) c = l ++ [a, c] := by simp
end
theorem popN {cs : List Cell} {k : Nat} {ws : List Wv} {j : Nat} {w : Wv} (h : cs[k]? = some (.lst ws)) (hj : ws[j]? = some w) (hl : ws.length < 1000000) : oPopAt (.cel k) [.dat (.int (j : Nat))] cs = .ok w (cs.set k (.lst (ws.eraseIdx j))) := by
  have hlt : j < ws.length := (List.getElem?_eq_some_iff.mp hj).1
  have : seqIndex? (j : Int) ws.length = some j := by
    unfold seqIndex?
    simp
    rw [if_neg (by omega : ¬ (j : Int) < 0)]
    exact ⟨⟨by omega, by omega⟩, by omega⟩
  unfold oPopAt
  dsimp only
  rw [h]
  dsimp only
  rw [if_pos (by simp; omega), this]
  dsimp only
  rw [hj]
section
variable {α : Type} [DecidableEq α] {en : α → Dt} {pd : α → PyData} {k : Nat}
abbrev wvs (en : α → Dt) (l : List α) : List Wv := l.map fun a => .dat (en a)
theorem mixed_loop (h : EqD en pd k) (hk : k + 1 ≤ 64) (a1 : Option Wv) (xt : List Cell) : ∀ (n : Nat) (L F : List α) (cs : List Cell) (t : Nat), L.length < n → L.length + F.length < 1000000 → St cs (xt ++ [.lst (wvs en L), .lst (wvs en F)]) t → t + L.length < 1000000 →
    ∃ (P : List α) (cs' : List Cell), P.Perm L ∧ loopW lt__law_mixed_0 lw__law_mixed_0 n [some (.cel 1), a1, some (.cel (xt.length + 2)), some (.cel (xt.length + 1 + 2))] cs = .ok (.nx [some (.cel 1), a1, some (.cel (xt.length + 2)), some (.cel (xt.length + 1 + 2))]) cs' ∧ St cs' (xt ++ [.lst [], .lst (wvs en (F ++ P))]) (t + L.length)
  | 0, L, _, _, _, h, _, _, _ => absurd h (Nat.not_lt_zero _)
  | n + 1, L, F, cs, t, hn, hz, hs, ht => by
    have g0 := hs.get xt.length
    rw [two_0] at g0
    have g1 := hs.get (xt.length + 1)
    rw [two_1] at g1
    have ec := eq_cell h hk true (m := []) (l := L) g0 rfl
    rw [if_pos rfl] at ec
    have tt : lt__law_mixed_0 [some (.cel 1), a1, some (.cel (xt.length + 2)), some (.cel (xt.length + 1 + 2))] cs = .ok (!decide (L = [])) cs := by
      unfold lt__law_mixed_0
      k_state0 [show eqC true (.cel (xt.length + 2)) (.dat (.lst [])) cs = _ from ec]
    unfold loopW
    rw [mb, tt, rb_ok]
    by_cases hL : L = []
    · subst hL
      rw [decide_eq_true rfl]
      refine ⟨[], cs, List.Perm.refl _, rfl, ?_⟩
      rw [List.append_nil]
      exact hs
    · rw [decide_eq_false hL]
      have lp := List.length_pos_iff.mpr hL
      obtain ⟨d, cs1, q1, d0, d1, s1⟩ := r_draw (n := ((L.length : Nat) : Int)) hs (by omega) (by omega) (by omega)
      obtain ⟨j, rfl⟩ : ∃ j : Nat, d = (j : Int) := ⟨d.toNat, by omega⟩
      have hj : j < L.length := by omega
      have h0 := s1.get xt.length
      rw [two_0] at h0
      have hp := popN (j := j) (w := .dat (en L[j])) h0 (by rw [List.getElem?_map, List.getElem?_eq_getElem hj]; rfl) (by rw [List.length_map]; omega)
      have s2 := s1.set xt.length (.lst ((wvs en L).eraseIdx j))
      rw [two_s0] at s2
      have g3 := s2.get (xt.length + 1)
      rw [two_1] at g3
      have ha := append_of (u := .dat (en L[j])) g3 (by rw [List.length_map]; omega)
      have s3 := s2.set (xt.length + 1) (.lst (wvs en F ++ [.dat (en L[j])]))
      rw [two_s1] at s3
      have e1 : (wvs en L).eraseIdx j = wvs en (L.eraseIdx j) := by simp [wvs, List.eraseIdx_eq_take_drop_succ, List.map_take, List.map_drop]
      have e2 : wvs en F ++ [Wv.dat (en L[j])] = wvs en (F ++ [L[j]]) := by simp
      rw [e1, e2] at s3
      have le : (L.eraseIdx j).length = L.length - 1 := List.length_eraseIdx_of_lt hj
      obtain ⟨P, cs', p, ih, s4⟩ := mixed_loop h hk a1 xt n (L.eraseIdx j) (F ++ [L[j]]) _ (t + 1) (by omega) (by simp; omega) s3 (by omega)
      refine ⟨L[j] :: P, cs', ?_, ?_, ?_⟩
      · exact (p.cons _).trans (by
          have := List.eraseIdx_eq_take_drop_succ L j
          rw [this]
          have h2 : L = L.take j ++ L[j] :: L.drop (j + 1) := by rw [← List.drop_eq_getElem_cons hj, List.take_append_drop]
          conv => rhs; rw [h2]
          exact List.perm_middle.symm)
      · have bd : lw__law_mixed_0 [some (.cel 1), a1, some (.cel (xt.length + 2)), some (.cel (xt.length + 1 + 2))] cs = .ok (.nx [some (.cel 1), a1, some (.cel (xt.length + 2)), some (.cel (xt.length + 1 + 2))]) ((cs1.set (xt.length + 2) (.lst ((wvs en L).eraseIdx j))).set (xt.length + 1 + 2) (.lst (wvs en F ++ [.dat (en L[j])]))) := by
          have m1 := methl_of (o := oAppend) (ga := aCons (eMeth okLst oPopAt (eVar 2) (aCons (eFn 2 (m__law_draw) (aCons (eVar 0) (aCons (eCall oLen (aCons (eVar 2) (aNil))) (aNil)))) (aNil))) (aNil)) (env := [some (.cel 1), a1, some (.cel (xt.length + 2)), some (.cel (xt.length + 1 + 2))]) g1
          have m2 := methl_of (o := oPopAt) (ga := aCons (eFn 2 (m__law_draw) (aCons (eVar 0) (aCons (eCall oLen (aCons (eVar 2) (aNil))) (aNil)))) (aNil)) (env := [some (.cel 1), a1, some (.cel (xt.length + 2)), some (.cel (xt.length + 1 + 2))]) g0
          have ln : oLen [.cel (xt.length + 2)] cs = some (.int ((L.length : Nat) : Int)) := by
            show cLen cs[xt.length + 2]? = _
            rw [g0]
            show some (Dt.int (((wvs en L).length : Nat) : Int)) = _
            rw [List.length_map]
          unfold lw__law_mixed_0
          k_state0 [m1, m2, ln, q1, hp, ha]
        rw [show (!false) = true from rfl, if_pos rfl, mb, bd, rb_ok, e1, e2]
        exact ih
      · have e3 : F ++ [L[j]] ++ P = F ++ L[j] :: P := by simp
        rw [e3, le] at s4
        exact s4.mono (by omega)
/-- _law_mixed -/
theorem r_mixed (h : EqD en pd k) (hk : k + 1 ≤ 64) {L : List α} {cs xt : List Cell} {t : Nat} (hs : St cs xt t) (hL : L.length < 100000) (ht : t + L.length < 1000000) :
    ∃ (P : List α) (cs' : List Cell), P.Perm L ∧ m__law_mixed [.cel 1, .dat (.lst (L.map en))] cs = .ok (.dat (.lst (P.map en))) cs' ∧ St cs' (xt ++ [.lst [], .dead]) (t + L.length) := by
  have s1 := hs.app [.lst (wvs en L), .lst (wvs en ([] : List α))]
  obtain ⟨P, cs', p, q, s2⟩ := mixed_loop h hk (some (.dat (.lst (L.map en)))) xt (L.length + 1) L [] _ t (Nat.lt_succ_self _) (by simp; omega) s1 ht
  have lc := hs.len
  have g1 := s2.get (xt.length + 1)
  rw [two_1] at g1
  have s3 := s2.set (xt.length + 1) .dead
  rw [two_s1] at s3
  have hd : dats (wvs en ([] ++ P)) = some (P.map en) := by
    rw [List.nil_append]
    have : wvs en P = (P.map en).map Wv.dat := by rw [List.map_map]; rfl
    rw [this, dats_mapd]
  have hf := frzc_of g1 hd
  have hw : (L.map en).map Wv.dat = wvs en L := by rw [List.map_map]; rfl
  have hm : mu__law_mixed_0 [some (.cel 1), some (.dat (.lst (L.map en))), some (.cel (xt.length + 2)), some (.cel (xt.length + 1 + 2))] (cs ++ [.lst (wvs en L), .lst []]) = L.length + 1 := by
    have g0 := s1.get xt.length
    rw [two_0] at g0
    unfold mu__law_mixed_0
    dsimp only
    have g0' : (cs ++ [Cell.lst (wvs en L), .lst []])[xt.length + 2]? = some (.lst (wvs en L)) := g0
    rw [g0']
    dsimp only
    rw [List.length_map]
  refine ⟨P, _, p, fn_ev ?_, s3⟩
  have lc1 : (cs ++ [Cell.lst (wvs en L)]).length = xt.length + 1 + 2 := by rw [List.length_append, lc]; simp
  have ap : cs ++ [Cell.lst (wvs en L)] ++ [Cell.lst []] = cs ++ [.lst (wvs en L), .lst []] := by simp
  have q' : loopW lt__law_mixed_0 lw__law_mixed_0 (L.length + 1) [some (.cel 1), some (.dat (.lst (L.map en))), some (.cel (xt.length + 2)), some (.cel (xt.length + 1 + 2))] (cs ++ [.lst (wvs en L), .lst []]) = .ok (.nx [some (.cel 1), some (.dat (.lst (L.map en))), some (.cel (xt.length + 2)), some (.cel (xt.length + 1 + 2))]) cs' := q
  k_state0 [b__law_mixed, start_cons, start_nil, repl_S, repl_0, hw, lc, lc1, ap, hm, q', hf]
end
def srtN (l : List Nat) : List Nat := (sortI (zL l)).map Int.toNat
theorem srtN_perm (l : List Nat) : (srtN l).Perm l := by
  have p := (List.mergeSort_perm (zL l) fun a b => decide (a ≤ b)).map Int.toNat
  rw [zL_back] at p
  exact p
theorem srtN_z (l : List Nat) : zL (srtN l) = sortI (zL l) := by
  unfold srtN
  show ((sortI (zL l)).map Int.toNat).map (fun n : Nat => (n : Int)) = _
  rw [List.map_map]
  have e : ∀ x ∈ sortI (zL l), ((fun n : Nat => (n : Int)) ∘ Int.toNat) x = x := fun x hx => by
    obtain ⟨y, _, rfl⟩ := List.mem_map.mp ((List.mergeSort_perm (zL l) _).mem_iff.mp hx)
    show (((y : Int).toNat : Nat) : Int) = (y : Int)
    rw [Int.toNat_natCast]
  rw [List.map_congr_left e, List.map_id']
theorem srtN_asc {l : List Nat} (h : l.Nodup) : (srtN l).Pairwise (· < ·) := by
  have s2 : (sortI (zL l)).Pairwise (· ≤ ·) := by
    refine (List.pairwise_mergeSort (le := fun a b => decide (a ≤ b)) (fun a b c => ?_) (fun a b => ?_) (zL l)).imp fun h => of_decide_eq_true h
    · simp only [decide_eq_true_eq]; omega
    · simp only [Bool.or_eq_true, decide_eq_true_eq]; omega
  rw [← srtN_z] at s2
  unfold zL at s2
  rw [List.pairwise_map] at s2
  have nd : (srtN l).Nodup := (srtN_perm l).nodup_iff.mpr h
  exact List.Pairwise.imp_of_mem (fun {a b} _ _ hab => by have := hab.1; have := hab.2; omega) (List.Pairwise.and s2 nd)
theorem srt_nat (l : List Nat) (cs : List Cell) : oSorted2 [.dat (.lst (l.map nD))] cs = some (.lst ((srtN l).map nD)) := by
  cases l with
  | nil =>
    have a1 : srtN [] = [] := by unfold srtN zL sortI; simp
    have a2 : sortV [] = [] := by unfold sortV; simp
    have a3 : oSorted2 [.dat (.lst (([] : List Nat).map nD))] cs = some (.lst ((sortV []).map DX.tupI)) := rfl
    rw [a3, a1, a2]
    rfl
  | cons a l =>
    show ((dSortV (.lst ((a :: l).map nD))).or (dSortI (.lst ((a :: l).map nD)))).or _ = _
    have e2 : dSortI (.lst ((a :: l).map nD)) = some (.lst ((srtN (a :: l)).map nD)) := by
      show (DX.intsOf ((a :: l).map nD)).map (fun ns => Dt.lst ((sortI ns).map .int)) = _
      rw [ints_nD, Option.map_some]
      have := srtN_z (a :: l)
      show some (Dt.lst ((sortI (zL (a :: l))).map .int)) = _
      rw [← this]
      unfold zL
      rw [List.map_map]
      rfl
    rw [show dSortV (.lst ((a :: l).map nD)) = none from rfl, e2]
    rfl
theorem mk_unl {p q : List Nat} (hp : p.Nodup) (hq : q.Nodup) : mk (srtN (unl0 p q)) = mk p ^^^ mk q := by
  have nu := (srtN_perm (unl0 p q)).nodup_iff.mpr (unl_nd hp hq)
  refine Nat.eq_of_testBit_eq fun i => ?_
  rw [Nat.testBit_xor, mk_bit nu, mk_bit hp, mk_bit hq]
  have : i ∈ srtN (unl0 p q) ↔ (i ∈ p ∧ i ∉ q) ∨ (i ∈ q ∧ i ∉ p) := by
    rw [(srtN_perm _).mem_iff]
    unfold unl0
    rw [List.mem_append, List.mem_filter, List.mem_filter]
    simp
  by_cases h1 : i ∈ p <;> by_cases h2 : i ∈ q <;> simp [this, h1, h2]
theorem asc_take {p : List Nat} (h : p.Nodup) (n : Nat) : (srtN (p.take n)).Pairwise (· < ·) := srtN_asc (h.sublist (List.take_sublist n p))
theorem rangeD_is (m : Nat) : rangeD 0 m = (List.range m).map nD := by
  unfold rangeD nD
  exact List.map_congr_left fun i _ => by rw [Int.zero_add]
structure Sc where
  many : Nat
  ben : List (Int × List Nat)
def bD (b : Int × List Nat) : Dt := .tup [.int b.1, iD b.2]
def scD (s : Sc) : Dt := .dic [(.inr "many", .int (s.many : Nat)), (.inr "benches", .tup (s.ben.map bD))]
structure ScOk (s : Sc) (N : Nat) : Prop where
  one : 1 ≤ s.many
  top : s.many ≤ N
  few : s.ben.length ≤ 12
  ben : ∀ b ∈ s.ben, Sg b.1 ∧ b.2.Pairwise (· < ·) ∧ b.2 ≠ [] ∧ b.2.length ≤ 8 ∧ ∀ i ∈ b.2, i < s.many
def halD (V : Ax) (s : Sc) : Dt := .obj (V.A 52) [("many", .int (s.many : Nat)), ("benches", .tup (s.ben.map bD))]
theorem r_betw {i a b : Int} {cs : List Cell} : m_is_between [.dat (.int i), .dat (.int a), .dat (.int b)] cs = .ok (.dat (.bl (decide (a ≤ i) && decide (i ≤ b)))) cs := by
  have q : m_is_number [.dat (.int i)] cs = .ok (.dat (.bl true)) cs := rfl
  refine fn_ev ?_
  by_cases h0 : a ≤ i
  · k_state0 [b_is_between, start_cons, start_nil, repl_S, repl_0, q, h0]
  · k_state0 [b_is_between, start_cons, start_nil, repl_S, repl_0, q, h0]
def crB : Dt → Bool
  | .tup l => decide (1 ≤ l.length) && decide (l.length ≤ 8)
  | _ => false
theorem r_is_crew {m : Nat} {x : Dt} {cs : List Cell} (h : pl1 x = true) (hs : szT x = true) : m_is_crew [.dat (.int (m : Nat)), .dat x] cs = .ok (.dat (.bl (ris m x && crB x))) cs := by
  have q := r_is_rising (m := m) (cs := cs) h hs
  refine fn_ev ?_
  cases e : ris m x with
  | false =>
    rw [e] at q
    k_state0 [b_is_crew, start_cons, start_nil, repl_S, repl_0, q]
  | true =>
    rw [e] at q
    obtain ⟨p, rfl, _, _⟩ := ris_of e
    have e1 : decide ((1 : Int) ≤ (((p.map nD).length : Nat) : Int)) = decide (1 ≤ (p.map nD).length) := decide_eq_decide.mpr (by omega)
    have e2 : decide ((((p.map nD).length : Nat) : Int) ≤ (8 : Int)) = decide ((p.map nD).length ≤ 8) := decide_eq_decide.mpr (by omega)
    unfold iD at *
    k_state0 [b_is_crew, start_cons, start_nil, repl_S, repl_0, q]
    rw [e1, e2]
    rfl
theorem r_is_bench {m : Nat} {b : Int × List Nat} {cs : List Cell} (hs : Sg b.1) (h1 : b.2.Pairwise (· < ·)) (h2 : b.2 ≠ []) (h3 : b.2.length ≤ 8) (h4 : ∀ i ∈ b.2, i < m) : m_is_bench [.dat (.int (m : Nat)), .dat (bD b)] cs = .ok (.dat (.bl true)) cs := by
  have q1 := r_is_sign (a := .int b.1) (cs := cs) rfl
  have q2 := r_is_crew (m := m) (cs := cs) (iD_pl b.2) (iD_sz (p := b.2) (by omega))
  rw [ris_asc h1 h4] at q2
  have e : sgB (.int b.1) = true := by rcases hs with h | h <;> rw [h] <;> rfl
  have l1 : 1 ≤ b.2.length := List.length_pos_iff.mpr h2
  have e2 : (true && crB (iD b.2)) = true := by
    show (decide (1 ≤ (b.2.map nD).length) && decide ((b.2.map nD).length ≤ 8)) = true
    rw [List.length_map]
    simp [h3, l1]
  rw [e2] at q2
  rw [e] at q1
  have ist : ∀ l cs, oIsi [.dat (.tup l), .dat (.op (.ty "tuple"))] cs = some (.bl true) := fun _ _ => rfl
  refine fn_ev ?_
  unfold bD
  k_state0 [b_is_bench, ist, start_cons, start_nil, repl_S, repl_0, nat_c2, q1, q2]
theorem r_made_hall {V : Ax} {s : Sc} {cs : List Cell} (h : ScOk s 15) : m__law_made V [.dat (scD s)] cs = .ok (.dat (halD V s)) (cs ++ [.dead]) := by
  have q1 := r_betw (i := (s.many : Int)) (a := 1) (b := 15) (cs := cs ++ [.ins (V.A 52) []])
  have o1 : (1 : Int) ≤ (s.many : Int) := by have := h.one; omega
  have o2 : (s.many : Int) ≤ 15 := by have := h.top; omega
  rw [decide_eq_true o1, decide_eq_true o2] at q1
  have few := h.few
  have n12 : ¬ (12 : Int) < ((s.ben.length : Nat) : Int) := by omega
  have lm := lc_mapD (t := tName 3) (f := ce_Hall_init__0) (env := [some (.cel cs.length), some (.dat (.int (s.many : Nat))), some (.dat (.tup (s.ben.map bD))), none]) (cs := cs ++ [.ins (V.A 52) []]) bD (fun _ => .bl true) s.ben (fun b hb => by
    obtain ⟨z1, z2, z3, z4, z5⟩ := h.ben b hb
    have q := r_is_bench (cs := cs ++ [.ins (V.A 52) []]) z1 z2 z3 z4 z5
    refine ⟨_, rfl, ?_⟩
    k_state0 [ce_Hall_init__0, q])
  have al := all_map (fun _ : Int × List Nat => true) s.ben
  have al2 : (s.ben.all fun _ => true) = true := by simp
  rw [al2] at al
  have ist : ∀ l cs, oIsi [.dat (.tup l), .dat (.op (.ty "tuple"))] cs = some (.bl true) := fun _ _ => rfl
  have d1 : dIx (scD s) (.str "many") = some (.int (s.many : Nat)) := rfl
  have d2 : dIx (scD s) (.str "benches") = some (.tup (s.ben.map bD)) := rfl
  have g1 : (cs ++ [Cell.ins (V.A 52) []])[cs.length]? = some (.ins (V.A 52) []) := dk_last
  have g2 : ∀ l, (cs ++ [Cell.ins (V.A 52) l])[cs.length]? = some (.ins (V.A 52) l) := fun l => dk_last
  have g3 : ∀ l c, (cs ++ [Cell.ins (V.A 52) l]).set cs.length c = cs ++ [c] := fun l c => dk_setl
  have p1 : ∀ w, putFW ("many" : Str) w [] = [(("many" : Str), w)] := fun _ => rfl
  have p2 : ∀ w u, putFW ("benches" : Str) w [(("many" : Str), u)] = [(("many" : Str), u), (("benches" : Str), w)] := fun _ _ => rfl
  have init : m_Hall_init_ V [.cel cs.length, .dat (.int (s.many : Nat)), .dat (.tup (s.ben.map bD))] (cs ++ [.ins (V.A 52) []]) = .ok (.dat .non) (cs ++ [.ins (V.A 52) [(("many" : Str), .dat (.int (s.many : Nat))), (("benches" : Str), .dat (.tup (s.ben.map bD)))]]) := by
    refine fn_ev ?_
    k_state0 [b_Hall_init_, start_cons, start_nil, repl_S, repl_0, q1, ist, List.length_map, n12, wipe_nil, wipe_cons, lm, al, g2, g3, p1, p2]
  have df : datF [(("many" : Str), Wv.dat (.int (s.many : Nat))), (("benches" : Str), .dat (.tup (s.ben.map bD)))] = some [(("many" : Str), .int (s.many : Nat)), (("benches" : Str), .tup (s.ben.map bD))] := rfl
  refine fn_ev ?_
  unfold halD
  k_state0 [b__law_made, start_cons, start_nil, repl_S, repl_0, d1, d2, init, g2, g3, df]
end DX
namespace DX
open PySem PySem.Spec PyProof.Rows L2 GF
structure HallK (V : Ax) : Prop where
  no : PySem.W.kitOne V.K (.type "NoneType") (.ref (V.A 52)) = some false
  bl : PySem.W.kitOne V.K (.type "bool") (.ref (V.A 52)) = some false
  int : PySem.W.kitOne V.K (.type "int") (.ref (V.A 52)) = some false
  str : PySem.W.kitOne V.K (.type "str") (.ref (V.A 52)) = some false
  tup : PySem.W.kitOne V.K (.type "tuple") (.ref (V.A 52)) = some false
  lst : PySem.W.kitOne V.K (.type "list") (.ref (V.A 52)) = some false
  dic : PySem.W.kitOne V.K (.type "dict") (.ref (V.A 52)) = some false
  own : PySem.W.kitOne V.K (.ref (V.A 52)) (.ref (V.A 52)) = some true
section
variable {V : Ax} {s : Sc} {cs : List Cell}
theorem r_need_hall (H : HallK V) : m_need_hall V [.dat (halD V s)] cs = .ok (.dat .non) cs := by
  have q : oIsO V.K [.dat (halD V s), .dat (.op (.ref (V.A 52)))] cs = some (.bl true) := by
    show (PySem.W.kitOne V.K (.ref (V.A 52)) (.ref (V.A 52))).map Dt.bl = _
    rw [H.own]
    rfl
  refine fn_ev ?_
  k_state0 [b_need_hall, start_cons, start_nil, repl_S, repl_0, q]
def crD (b : Int × List Nat) : Dt := iD b.2
theorem r_law_crews (few : s.ben.length ≤ 12) : m__law_crews [.dat (scD s)] cs = .ok (.dat (.lst (s.ben.map crD))) cs := by
  have lm := lc_mapD (t := tTupG 2 (tgCons (tName 1) (tgCons (tName 2) tgNil))) (f := ce__law_crews_0) (env := [some (.dat (scD s)), none, none]) (cs := cs) bD crD s.ben (fun b _ => by
    refine ⟨_, rfl, ?_⟩
    unfold crD
    k_state0 [ce__law_crews_0])
  have d2 : dIx (scD s) (.str "benches") = some (.tup (s.ben.map bD)) := rfl
  refine fn_ev ?_
  k_state0 [b__law_crews, start_cons, start_nil, repl_S, repl_0, d2, wipe_nil, wipe_cons, lm]
theorem fld_ben : wFld (V.A 52) "benches" cs (.dat (halD V s)) = some (.dat (.tup (s.ben.map bD))) := if_pos rfl
theorem fld_many : wFld (V.A 52) "many" cs (.dat (halD V s)) = some (.dat (.int (s.many : Nat))) := if_pos rfl
theorem r_crews_of (few : s.ben.length ≤ 12) : m_crews_of V [.dat (halD V s)] cs = .ok (.dat (.lst (s.ben.map crD))) cs := by
  have lm := lc_mapD (t := tTupG 2 (tgCons (tName 1) (tgCons (tName 2) tgNil))) (f := ce_crews_of_0) (env := [some (.dat (halD V s)), none, none]) (cs := cs) bD crD s.ben (fun b _ => by
    refine ⟨_, rfl, ?_⟩
    unfold crD
    k_state0 [ce_crews_of_0])
  have d2 := fld_ben (V := V) (s := s) (cs := cs)
  refine fn_ev ?_
  k_state0 [b_crews_of, start_cons, start_nil, repl_S, repl_0, d2, wipe_nil, wipe_cons, lm]
end
end DX
namespace DX
open PySem PySem.Spec PyProof.Rows L2 GF
theorem cutS_strOf (l : List Nat) (lo hi : Option Int) : cutS (strOf l) lo hi = strOf (cutL l lo hi) := by
  unfold cutS cutL strOf
  have h : (⟨(l.map chr4).toArray⟩ : Str).length = l.length := strOf_len l
  rw [h]
  simp [List.map_drop, List.map_take]
theorem sl_str {l : List Nat} (hl : l.length ≤ 1000) (lo hi : Option Int) (cs : List Cell) : wSl (.dat (.str (strOf l))) lo hi cs = some (.str (strOf (cutL l lo hi))) := by
  show strSl (strOf l) lo hi = _
  unfold strSl
  rw [if_pos (show szOk (strOf l).length = true from decide_eq_true (by rw [strOf_len]; omega)), cutS_strOf]
def Tn (a : Wd) : Prop := cross a.l a.l = false
end DX
namespace DX
open PySem PySem.Spec PyProof.Rows L2 GF
abbrev mkW (as : List Wd) (n : Nat) (p : List Nat) : Wd := pus (nothing n 1) (picks as p)
end DX
namespace DX
open PySem PySem.Spec PyProof.Rows L2 GF
/-- lots of words that go past one another -/
structure PLot (ws : List Wd) (k : Nat) (p : List Nat) : Prop where
  ne : p ≠ []
  len : p.length ≤ k
  asc : p.Pairwise (· < ·)
  lt : ∀ i ∈ p, i < ws.length
  gp : p.Pairwise fun i j => gp (ws.getD i w00).l (ws.getD j w00).l = true
section
variable {ws : List Wd} {n K : Nat}
theorem PLot.up {k m : Nat} {p : List Nat} (h : PLot ws k p) (hkm : k ≤ m) : PLot ws m p := ⟨h.ne, Nat.le_trans h.len hkm, h.asc, h.lt, h.gp⟩
end
structure WdOk (s : Sc) (ws : List Wd) (n : Nat) : Prop where
  one : 1 ≤ n
  top : n ≤ 3
  ok : ∀ a ∈ ws, WOk' n a ∧ Tn a
  two : 2 ≤ ws.length
  most : ws.length ≤ 10
  many : s.many = ws.length
  few : s.ben.length ≤ 7
  ben : ∀ b ∈ s.ben, PLot ws 4 b.2 ∧ mkW ws n b.2 = nothing n b.1
theorem mkW_ok {ws : List Wd} {n : Nat} {p : List Nat} (ho : ∀ a ∈ ws, WOk' n a) (hp : ∀ i ∈ p, i < ws.length) : WOk' n (mkW ws n p) := pus_ok (nothing_ok (.inl rfl)) (picks_ok ho hp)
theorem WdOk.sc {s : Sc} {ws : List Wd} {n N : Nat} (h : WdOk s ws n) (hN : ws.length ≤ N) : ScOk s N := ⟨by rw [h.many]; exact Nat.le_trans (by decide) h.two, by rw [h.many]; exact hN, Nat.le_trans h.few (by decide), fun b hb => by
  obtain ⟨p, e⟩ := h.ben b hb
  have := (mkW_ok (fun a ha => (h.ok a ha).1) p.lt).sg
  rw [e] at this
  exact ⟨this, p.asc, p.ne, Nat.le_trans p.len (by decide), fun i hi => by rw [h.many]; exact p.lt i hi⟩⟩
theorem dats_wvs {α : Type} (en : α → Dt) (l : List α) : dats (wvs en l) = some (l.map en) := by
  have : wvs en l = (l.map en).map Wv.dat := by rw [List.map_map]; rfl
  rw [this, dats_mapd]
end DX
namespace DX
open PySem PySem.Spec PyProof.Rows L2
def b__law_put : Sv := sRet (eBin dAdd (eBin dAdd (eSl (eVar 0) (oNone) (oSome (eVar 1))) (eTup (aCons (eVar 2) (aNil)))) (eSl (eVar 0) (oSome (eBin dAdd (eVar 1) (eC (.int 1)))) (oNone)))
abbrev m__law_put : Fn := fnOf 3 (b__law_put)
def b__law_one_turned : Sv := sSeq (sSet 2 (eFn 2 (m__law_draw) (aCons (eVar 0) (aCons (eCall oLen (aCons (eIx (eVar 1) (eC (.str "benches"))) (aNil))) (aNil))))) (sSeq (sAsg (tTupG 2 (tgCons (tName 3) (tgCons (tName 4) (tgNil)))) (eIx (eIx (eVar 1) (eC (.str "benches"))) (eVar 2))) (sRet (eDic [(.inr "many", eIx (eVar 1) (eC (.str "many"))), (.inr "benches", eFn 3 (m__law_put) (aCons (eIx (eVar 1) (eC (.str "benches"))) (aCons (eVar 2) (aCons (eTup (aCons (eUn dNeg (eVar 3)) (aCons (eVar 4) (aNil)))) (aNil)))))])))
abbrev m__law_one_turned : Fn := fnOf 5 (b__law_one_turned)
theorem r_lput {l : List Dt} {i : Nat} {x : Dt} {cs : List Cell} (hi : i < l.length) (hl : l.length ≤ 1000) : m__law_put [.dat (.tup l), .dat (.int (i : Nat)), .dat x] cs = .ok (.dat (.tup (l.take i ++ [x] ++ l.drop (i + 1)))) cs := by
  have c1 : ∀ c, wSl (.dat (.tup l)) none (some (i : Int)) c = some (.tup (l.take i)) := fun c => by
    have h := cutL_to (l := l) (d := (i : Int)) (by omega) (by omega)
    rw [Int.toNat_natCast] at h
    exact congrArg (fun z => some (Dt.tup z)) h
  have c2 : ∀ c, wSl (.dat (.tup l)) (some ((i : Int) + 1)) none c = some (.tup (l.drop (i + 1))) := fun c => by
    have h := cutL_from (l := l) (d := (i : Int) + 1) (by omega) (by omega)
    rw [show ((i : Int) + 1).toNat = i + 1 by omega] at h
    exact congrArg (fun z => some (Dt.tup z)) h
  have l1 : (l.take i).length + [x].length ≤ 16777216 := by simp; omega
  have l2 : (l.take i ++ [x]).length + (l.drop (i + 1)).length ≤ 16777216 := by simp; omega
  have a1 : dAdd (.tup (l.take i)) (.tup [x]) = some (.tup (l.take i ++ [x])) := d_addT l1
  have a2 : dAdd (.tup (l.take i ++ [x])) (.tup (l.drop (i + 1))) = some (.tup (l.take i ++ [x] ++ l.drop (i + 1))) := d_addT l2
  refine fn_ev ?_
  k_state0 [b__law_put, start_cons, start_nil, repl_S, repl_0, c1, c2, a1, a2]
def b00 : Int × List Nat := (1, [])
/-- one bench's sign turned -/
def scT (s : Sc) (d : Nat) : Sc := ⟨s.many, s.ben.take d ++ [(-(s.ben.getD d b00).1, (s.ben.getD d b00).2)] ++ s.ben.drop (d + 1)⟩
theorem scT_ok {s : Sc} {d N : Nat} (h : ScOk s N) (hd : d < s.ben.length) : ScOk (scT s d) N := by
  have few := h.few
  refine ⟨h.one, h.top, by show (_ ++ _ ++ _ : List _).length ≤ 12; simp; omega, fun b hb => ?_⟩
  rcases List.mem_append.mp hb with hb | hb
  · rcases List.mem_append.mp hb with hb | hb
    · exact h.ben b (List.mem_of_mem_take hb)
    · rw [List.mem_singleton.mp hb]
      have hm : s.ben.getD d b00 ∈ s.ben := by
        rw [List.getD_eq_getElem?_getD, List.getElem?_eq_getElem hd]
        exact List.getElem_mem hd
      obtain ⟨z1, z2⟩ := h.ben _ hm
      exact ⟨by rcases z1 with z | z <;> rw [z] <;> simp [Sg], z2⟩
  · exact h.ben b (List.mem_of_mem_drop hb)
theorem r_one_turned {s : Sc} {cs xt : List Cell} {t : Nat} (hs : St cs xt t) (ht : t < 1000000) (few : s.ben.length ≤ 12) (h0 : 1 ≤ s.ben.length) :
    ∃ d cs', m__law_one_turned [.cel 1, .dat (scD s)] cs = .ok (.dat (scD (scT s d))) cs' ∧ d < s.ben.length ∧ St cs' xt (t + 1) := by
  obtain ⟨d, cs1, q1, d0, d1, s1⟩ := r_draw (n := (s.ben.length : Nat)) hs ht (by omega) (by omega)
  obtain ⟨d, rfl⟩ : ∃ n : Nat, d = (n : Int) := ⟨d.toNat, by omega⟩
  have hd : d < s.ben.length := by omega
  have dM : dIx (scD s) (.str "many") = some (.int (s.many : Nat)) := rfl
  have dB : dIx (scD s) (.str "benches") = some (.tup (s.ben.map bD)) := rfl
  have dL : dLen (.tup (s.ben.map bD)) = some (.int (s.ben.length : Nat)) := congrArg (fun k : Nat => some (Dt.int (k : Int))) (List.length_map _)
  have x1 : dIx (.tup (s.ben.map bD)) (.int (d : Nat)) = some (.tup [.int (s.ben.getD d b00).1, iD (s.ben.getD d b00).2]) := at_map (f := bD) b00 hd
  have ng : dNeg (.int (s.ben.getD d b00).1) = some (.int (-(s.ben.getD d b00).1)) := rfl
  have q2 := fun x => r_lput (l := s.ben.map bD) (i := d) (x := x) (cs := cs1) (by rw [List.length_map]; exact hd) (by rw [List.length_map]; omega)
  have e : (scT s d).ben.map bD = (s.ben.map bD).take d ++ [.tup [.int (-(s.ben.getD d b00).1), iD (s.ben.getD d b00).2]] ++ (s.ben.map bD).drop (d + 1) := by
    show (s.ben.take d ++ [_] ++ s.ben.drop (d + 1)).map bD = _
    rw [List.map_append, List.map_append, List.map_take, List.map_drop]
    rfl
  have sc : scD (scT s d) = .dic [(.inr "many", .int (s.many : Nat)), (.inr "benches", .tup ((scT s d).ben.map bD))] := rfl
  refine ⟨d, cs1, fn_ev ?_, hd, s1⟩
  rw [sc, e]
  k_state0 [b__law_one_turned, start_cons, start_nil, repl_S, repl_0, dB, dL, q1, x1, dM, ng, q2]
theorem eqBn : EqD bD (fun p : Int × List Nat => PyData.tuple [.int p.1, .tuple (p.2.map fun i : Nat => .int (i : Int))]) 2 := EqD.pair EqD.int (EqD.tup EqD.nat)
end DX
namespace DX
open PySem PySem.Spec PyProof.Rows L2
def prN (p : Nat × Nat) : Dt := .tup [nD p.1, nD p.2]
end DX
namespace DX
open PySem PySem.Spec PyProof.Rows L2
theorem ScOk.mono {s : Sc} {N M : Nat} (h : ScOk s N) (e : N ≤ M) : ScOk s M := ⟨h.one, Nat.le_trans h.top e, h.few, h.ben⟩
theorem ne_ben (l : List (Int × List Nat)) (cs : List Cell) : eqC true (.dat (.tup (l.map bD))) (.dat (.tup [])) cs = some (.bl (!l.isEmpty)) := by
  have q := eq_dat (EqD.tup eqBn) (by decide) true l [] cs
  rw [if_pos rfl] at q
  have e : (!decide (l = [])) = !l.isEmpty := by cases l <;> rfl
  rw [e] at q
  exact q
end DX
namespace DX
open PySem PySem.Spec PyProof.Rows L2 GF
def xb (l : List Bool) : Bool := l.foldr xor false
theorem xb_count {α : Type} (f : α → Bool) : ∀ l : List α, xb (l.map f) = decide ((l.filter f).length % 2 = 1)
  | [] => rfl
  | a :: l => by
    have ih := xb_count f l
    show xor (f a) (xb (l.map f)) = _
    rw [ih, List.filter_cons]
    cases f a with
    | false => simp
    | true =>
      rw [if_pos rfl, List.length_cons, Bool.true_xor]
      by_cases h : (l.filter f).length % 2 = 1
      · rw [decide_eq_true h, decide_eq_false (by omega)]; rfl
      · rw [decide_eq_false h, decide_eq_true (by omega)]; rfl
end DX
namespace DX
open PySem PySem.Spec PyProof.Rows L2 GF
/-- data whose repr is told -/
structure RpD {α : Type} (en : α → Dt) (pd : α → PyData) (k B : Nat) (P : α → Prop) : Prop where
  py : ∀ a, DX.py (en a) = some (pd a)
  dep : ∀ a, (pd a).depth ≤ k
  sm : ∀ a, P a → smP (pd a) = true
  sz : ∀ a, P a → szP (pd a) ≤ B
section
variable {α β : Type} {en : α → Dt} {pd : α → PyData} {k l B C : Nat} {P : α → Prop} {em : β → Dt} {qd : β → PyData} {Q : β → Prop}
theorem RpD.int : RpD (fun i : Int => .int i) (fun i => .int i) 0 20 (fun i => i.natAbs < 1000000000000000000) := ⟨fun _ => rfl, fun _ => Nat.le_refl _, fun _ h => decide_eq_true h, fun _ _ => Nat.le_refl _⟩
theorem RpD.bl : RpD (fun b : Bool => .bl b) (fun b => .bool b) 0 5 (fun _ => True) := ⟨fun _ => rfl, fun _ => Nat.le_refl _, fun _ _ => rfl, fun _ _ => Nat.le_refl _⟩
theorem dep_all {N : Nat} : ∀ {xs : List PyData}, (∀ x ∈ xs, PyData.depth x ≤ N) → PyData.depthAll xs ≤ N
  | [], _ => Nat.zero_le _
  | x :: xs, h => by
    show max (PyData.depth x) (PyData.depthAll xs) ≤ N
    exact Nat.max_le.mpr ⟨h x List.mem_cons_self, dep_all fun y hy => h y (List.mem_cons_of_mem _ hy)⟩
theorem RpD.pys (h : RpD en pd k B P) : ∀ l : List α, DX.pys (l.map en) = some (l.map pd)
  | [] => rfl
  | a :: l => by
    have ih := h.pys l
    simp [DX.pys, h.py a, ih]
theorem RpD.lst (h : RpD en pd k B P) (N : Nat) : RpD (fun l : List α => .lst (l.map en)) (fun l => .list (l.map pd)) (k + 1) ((B + 2) * N + 5) (fun l => l.length ≤ N ∧ ∀ a ∈ l, P a) := ⟨fun l => by
  show (DX.pys (l.map en)).map PyData.list = _
  rw [h.pys]
  rfl, fun l => by
  show PyData.depthAll (l.map pd) + 1 ≤ k + 1
  have : PyData.depthAll (l.map pd) ≤ k := dep_all fun x hx => by
    obtain ⟨a, _, rfl⟩ := List.mem_map.mp hx
    exact h.dep a
  omega, fun l hl => smPs_map pd l fun a ha => h.sm a (hl.2 a ha), fun l hl => by
  show szPs (l.map pd) + 5 ≤ _
  have h1 := szPs_map pd B l fun a ha => h.sz a (hl.2 a ha)
  have h2 := Nat.mul_le_mul_left (B + 2) hl.1
  omega⟩
theorem RpD.tup (h : RpD en pd k B P) (N : Nat) : RpD (fun l : List α => .tup (l.map en)) (fun l => .tuple (l.map pd)) (k + 1) ((B + 2) * N + 5) (fun l => l.length ≤ N ∧ ∀ a ∈ l, P a) := ⟨fun l => by
  show (DX.pys (l.map en)).map PyData.tuple = _
  rw [h.pys]
  rfl, fun l => by
  show PyData.depthAll (l.map pd) + 1 ≤ k + 1
  have : PyData.depthAll (l.map pd) ≤ k := dep_all fun x hx => by
    obtain ⟨a, _, rfl⟩ := List.mem_map.mp hx
    exact h.dep a
  omega, fun l hl => smPs_map pd l fun a ha => h.sm a (hl.2 a ha), fun l hl => by
  show szPs (l.map pd) + 5 ≤ _
  have h1 := szPs_map pd B l fun a ha => h.sz a (hl.2 a ha)
  have h2 := Nat.mul_le_mul_left (B + 2) hl.1
  omega⟩
end
def SK := { z : Str // PyData.strOk z = true }
instance : DecidableEq SK := fun a b => if h : a.1 = b.1 then .isTrue (Subtype.ext h) else .isFalse fun e => h (congrArg Subtype.val e)
def wk (a : Wd) : Int × SK := (a.s, ⟨strOf a.l, strOk_of a.l⟩)
end DX
namespace DX
open PySem PySem.Spec PyProof.Rows L2 GF
def pcnt (l : List Nat) (i : Nat) : Bool := decide (l.count i % 2 = 1)
theorem pcnt_cons (x : Nat) (l : List Nat) (i : Nat) : pcnt (x :: l) i = xor (decide (x = i)) (pcnt l i) := by
  unfold pcnt
  rw [List.count_cons]
  by_cases h : x = i
  · subst h
    rw [beq_self_eq_true, if_pos rfl, decide_eq_true rfl]
    by_cases h2 : l.count x % 2 = 1
    · rw [decide_eq_true h2, decide_eq_false (by omega)]; rfl
    · rw [decide_eq_false h2, decide_eq_true (by omega)]; rfl
  · rw [if_neg (by simpa using h), decide_eq_false h, Nat.add_zero, Bool.false_xor]
theorem pcnt_app (l m : List Nat) (i : Nat) : pcnt (l ++ m) i = xor (pcnt l i) (pcnt m i) := by
  induction l with
  | nil => rw [List.nil_append]; exact (Bool.false_xor _).symm
  | cons x l ih => rw [List.cons_append, pcnt_cons, pcnt_cons, ih, Bool.xor_assoc]
abbrev PB := (Nat × Nat) × Bool
/-- what holds of the dict's keys -/
structure KeyOk (N : Nat) (D : List PB) : Prop where
  nd : (D.map (·.1)).Nodup
  lt : ∀ p ∈ D.map (·.1), p.1 < p.2 ∧ p.2 < N
theorem KeyOk.nil (N : Nat) : KeyOk N [] := ⟨by simp, fun p hp => by cases hp⟩
end DX
namespace DX
open PySem PySem.Spec PyProof.Rows L2 GF
theorem zip_rng {α : Type} (d : α) (l : List α) : l.zipIdx = (List.range l.length).map fun i => (l.getD i d, i) := by
  refine List.ext_getElem (by simp) fun i h1 h2 => ?_
  have hi : i < l.length := by simpa using h1
  simp [List.getD_eq_getElem?_getD, List.getElem?_eq_getElem hi]
theorem enum_rng {α : Type} (en : α → Dt) (d : α) (l : List α) : enumW (l.map en) = (List.range l.length).map fun i => Wv.dat (.tup [.int (i : Nat), en (l.getD i d)]) := by
  rw [enum_map, zip_rng d, List.map_map]
  rfl
theorem pre_lt {pr post : List Nat} {i n : Nat} (he : List.range n = pr ++ i :: post) : i < n ∧ pr.length < n ∧ ∀ j ∈ pr, j < n := by
  refine ⟨List.mem_range.mp (he ▸ List.mem_append_right _ List.mem_cons_self), ?_, fun j hj => List.mem_range.mp (he ▸ List.mem_append_left _ hj)⟩
  have := congrArg List.length he
  simp at this
  omega
def lineOf (s : Sc) (p : List Nat) : List Nat := p.flatMap fun b => (s.ben.getD b b00).2
theorem KeyOk.len {N : Nat} {D : List PB} (h : KeyOk N D) (hN : N ≤ 16) : D.length ≤ 256 := by
  have nd : ((D.map (·.1)).map fun p => p.1 * 16 + p.2).Nodup := List.pairwise_map.mpr (List.Pairwise.imp_of_mem (fun {a b} ha hb ne e => by
    obtain ⟨a1, a2⟩ := h.lt a ha
    obtain ⟨b1, b2⟩ := h.lt b hb
    exact ne (Prod.ext (by omega) (by omega))) h.nd)
  have q := nat_many nd (N := 256) fun i hi => by
    obtain ⟨p, hp, rfl⟩ := List.mem_map.mp hi
    obtain ⟨a1, a2⟩ := h.lt p hp
    show p.1 * 16 + p.2 < 256
    omega
  rw [List.length_map, List.length_map] at q
  exact q
section
variable {V : Ax} {s : Sc} {cs : List Cell}
theorem line_lt (h : ScOk s 15) {p : List Nat} (hp : ∀ b ∈ p, b < s.ben.length) : ∀ e ∈ lineOf s p, e < s.many := fun e he => by
  obtain ⟨b, hb, hm⟩ := List.mem_flatMap.mp he
  have hi := hp b hb
  have hb' : s.ben.getD b b00 ∈ s.ben := by
    rw [List.getD_eq_getElem?_getD, List.getElem?_eq_getElem hi]
    exact List.getElem_mem hi
  exact (h.ben _ hb').2.2.2.2 e hm
end
end DX
namespace DX
open PySem PySem.Spec PyProof.Rows L2 GF
theorem xb_cons (a : Bool) (l : List Bool) : xb (a :: l) = xor a (xb l) := rfl
theorem xb_app : ∀ l m : List Bool, xb (l ++ m) = xor (xb l) (xb m)
  | [], m => (Bool.false_xor _).symm
  | a :: l, m => by rw [List.cons_append, xb_cons, xb_cons, xb_app l m, Bool.xor_assoc]
theorem xb_xor {α : Type} (f g : α → Bool) : ∀ l : List α, xb (l.map fun x => xor (f x) (g x)) = xor (xb (l.map f)) (xb (l.map g))
  | [] => rfl
  | a :: l => by
    rw [List.map_cons, List.map_cons, List.map_cons, xb_cons, xb_cons, xb_cons, xb_xor f g l]
    cases f a <;> cases g a <;> cases xb (l.map f) <;> cases xb (l.map g) <;> rfl
theorem xb_congr {α : Type} {f g : α → Bool} {l : List α} (h : ∀ x ∈ l, f x = g x) : xb (l.map f) = xb (l.map g) := by rw [List.map_congr_left h]
theorem xb_false {α : Type} {f : α → Bool} : ∀ {l : List α}, (∀ x ∈ l, f x = false) → xb (l.map f) = false
  | [], _ => rfl
  | a :: l, h => by
    rw [List.map_cons, xb_cons, h a List.mem_cons_self, xb_false fun x hx => h x (List.mem_cons_of_mem _ hx)]
    rfl
theorem xb_filter {α : Type} (p f : α → Bool) : ∀ l : List α, xb ((l.filter p).map f) = xb (l.map fun x => p x && f x)
  | [] => rfl
  | a :: l => by
    rw [List.filter_cons, List.map_cons, xb_cons, ← xb_filter p f l]
    cases p a with
    | true => rw [if_pos rfl, List.map_cons, xb_cons, Bool.true_and]
    | false => rw [if_neg Bool.false_ne_true, Bool.false_and, Bool.false_xor]
theorem xb_one {α : Type} [DecidableEq α] (q : α) (f : α → Bool) : ∀ {l : List α}, l.Nodup → xb (l.map fun p => decide (p = q) && f p) = (decide (q ∈ l) && f q)
  | [], _ => by simp [xb]
  | a :: l, h => by
    obtain ⟨h1, h2⟩ := List.nodup_cons.mp h
    rw [List.map_cons, xb_cons, xb_one q f h2]
    by_cases e : a = q
    · subst e
      rw [decide_eq_true rfl, decide_eq_false h1, decide_eq_true List.mem_cons_self, Bool.false_and, Bool.xor_false]
    · rw [decide_eq_false e, Bool.false_and, Bool.false_xor]
      congr 1
      refine decide_eq_decide.mpr ⟨fun z => List.mem_cons_of_mem _ z, fun z => ?_⟩
      rcases List.mem_cons.mp z with z | z
      · exact absurd z.symm e
      · exact z
theorem xb_flat {α β : Type} (g : α → List β) (h : β → Bool) : ∀ l : List α, xb ((l.flatMap g).map h) = xb (l.map fun x => xb ((g x).map h))
  | [] => rfl
  | a :: l => by rw [List.flatMap_cons, List.map_append, xb_app, xb_flat g h l]; rfl
theorem xb_cnt {N : Nat} (f : Nat → Bool) : ∀ {l : List Nat}, (∀ x ∈ l, x < N) → xb (l.map f) = xb ((List.range N).map fun x => pcnt l x && f x)
  | [], _ => (xb_false fun x _ => rfl).symm
  | a :: l, h => by
    rw [List.map_cons, xb_cons, xb_cnt f fun x hx => h x (List.mem_cons_of_mem _ hx)]
    have e : ((List.range N).map fun x => pcnt (a :: l) x && f x) = (List.range N).map fun x => xor (decide (x = a) && f x) (pcnt l x && f x) := List.map_congr_left fun x _ => by
      rw [pcnt_cons, show decide (a = x) = decide (x = a) from decide_eq_decide.mpr ⟨Eq.symm, Eq.symm⟩]
      cases decide (x = a) <;> cases pcnt l x <;> cases f x <;> rfl
    rw [e, xb_xor, xb_one a f List.nodup_range, decide_eq_true (List.mem_range.mpr (h a List.mem_cons_self)), Bool.true_and]
theorem range_getD {α β : Type} (d : α) (f : α → β) (l : List α) : (List.range l.length).map (fun k => f (l.getD k d)) = l.map f := by
  refine List.ext_getElem (by simp) fun i h1 h2 => ?_
  have hi : i < l.length := by simpa using h2
  simp [List.getD_eq_getElem?_getD, List.getElem?_eq_getElem hi]
theorem par_bits : ∀ (n m : Nat), m < 2 ^ n → par m = xb ((List.range n).map m.testBit)
  | 0, m, h => by
    have : m = 0 := by simpa using h
    subst this
    exact par_zero
  | n + 1, m, h => by
    rw [par_rec, List.range_succ_eq_map, List.map_cons, xb_cons, par_bits n (m / 2) (by rw [Nat.pow_succ] at h; omega), List.map_map]
    have e : (List.range n).map (m.testBit ∘ Nat.succ) = (List.range n).map (m / 2).testBit := List.map_congr_left fun i _ => Nat.testBit_succ m i
    rw [e, Nat.testBit_zero]
    congr 1
theorem big2 (a b : Nat) : ∃ n, a < 2 ^ n ∧ b < 2 ^ n := by
  obtain ⟨n, h⟩ := big_of [a, b]
  exact ⟨n, h a (by simp), h b (by simp)⟩
theorem par_xor (a b : Nat) : par (a ^^^ b) = xor (par a) (par b) := by
  obtain ⟨n, ha, hb⟩ := big2 a b
  rw [par_bits n _ (Nat.xor_lt_two_pow ha hb), par_bits n a ha, par_bits n b hb, ← xb_xor]
  exact xb_congr fun i _ => Nat.testBit_xor ..
theorem par_and {n : Nat} (a : Nat) {b : Nat} (hb : b < 2 ^ n) : par (a &&& b) = xb ((List.range n).map fun i => a.testBit i && b.testBit i) := by
  rw [par_bits n _ (Nat.lt_of_le_of_lt Nat.and_le_right hb)]
  exact xb_congr fun i _ => Nat.testBit_and ..
theorem par_and_xor (t a b : Nat) : par (t &&& (a ^^^ b)) = xor (par (t &&& a)) (par (t &&& b)) := by
  rw [Nat.and_xor_distrib_left, par_xor]
section
variable (t : Nat → Nat → Bool)
def gx (x y : Nat) : Bool := decide (y < x) && t x y
def xval : List Nat → Bool
  | [] => false
  | x :: l => xor (xb (l.map (gx t x))) (xval l)
def crs (a b : List Nat) : Bool := xb (a.map fun x => xb (b.map (gx t x)))
end
/-- a table on the pairs of P, as both ways around -/
def tP (P : List (Nat × Nat)) (T : Nat × Nat → Bool) (x y : Nat) : Bool := decide ((min x y, max x y) ∈ P) && T (min x y, max x y)
section
variable (t : Nat → Nat → Bool) (C : Nat → List Nat)
def qd (b c : Nat) : Bool := crs t (C b) (C c)
end
/-- what holds of all that a span is made of holds of the span -/
theorem sp_all {P : Nat → Prop} (h0 : P 0) (hx : ∀ a b, P a → P b → P (a ^^^ b)) : ∀ {L : List Nat}, (∀ a ∈ L, P a) → ∀ {x : Nat}, sp L x = true → P x
  | [], _, x, h => by
    have : x = 0 := by simpa [sp] using h
    subst this
    exact h0
  | a :: L, hL, x, h => by
    have ih := @sp_all P h0 hx L fun b hb => hL b (List.mem_cons_of_mem _ hb)
    have h : (sp L x || sp L (x ^^^ a)) = true := h
    rcases (Bool.or_eq_true _ _).mp h with h | h
    · exact ih h
    · have q := hx _ _ (ih h) (hL a List.mem_cons_self)
      rwa [xor_cancel] at q
end DX
namespace DX
open PySem PySem.Spec PyProof.Rows L2 GF
def shB (s : Sc) (i j : Nat) : Bool := s.ben.any fun b => decide (i ∈ b.2) && decide (j ∈ b.2)
def prsN (n : Nat) : List (Nat × Nat) := (List.range n).flatMap fun i => (List.range (n - (i + 1))).map fun k => (i, i + 1 + k)
def frL (s : Sc) : List (Nat × Nat) := (prsN s.many).filter fun p => !shB s p.1 p.2
abbrev crw (s : Sc) (b : Nat) : List Nat := (s.ben.getD b b00).2
abbrev neg1 (s : Sc) (b : Nat) : Bool := decide ((s.ben.getD b b00).1 = -1)
abbrev tS (s : Sc) (T : Nat × Nat → Bool) : Nat → Nat → Bool := tP (frL s) T
def clV (s : Sc) (T : Nat × Nat → Bool) (b y : Nat) : Bool := xb ((crw s b).map fun x => tS s T x y)
def loV (s : Sc) (T : Nat × Nat → Bool) (p : List Nat) : Bool := xval (tS s T) (lineOf s p)
def miB (s : Sc) (p : List Nat) : Bool := xb (p.map (neg1 s))
def evn (s : Sc) (p : List Nat) : Prop := ∀ x, pcnt (lineOf s p) x = false
def clOk (s : Sc) (T : Nat × Nat → Bool) : Prop := ∀ b, b < s.ben.length → ∀ y, y < s.many → y ∉ crw s b → clV s T b y = false
def crM (s : Sc) : List Nat := s.ben.map fun b => mk b.2
section
variable {s : Sc} {T : Nat × Nat → Bool}
theorem crw_ok (h : ScOk s 15) {b : Nat} (hb : b < s.ben.length) : (crw s b).Pairwise (· < ·) ∧ (crw s b) ≠ [] ∧ (crw s b).length ≤ 8 ∧ ∀ i ∈ crw s b, i < s.many := by
  have hm : s.ben.getD b b00 ∈ s.ben := by
    rw [List.getD_eq_getElem?_getD, List.getElem?_eq_getElem hb]
    exact List.getElem_mem hb
  exact (h.ben _ hm).2
theorem xs_bitm (g : Nat → Nat) (x : Nat) : ∀ p : List Nat, (xs (p.map g)).testBit x = xb (p.map fun i => (g i).testBit x)
  | [] => Nat.zero_testBit x
  | i :: p => by
    rw [List.map_cons, xs_cons, Nat.testBit_xor, xs_bitm g x p]
    rfl
theorem pcnt_nd {l : List Nat} (h : l.Nodup) (x : Nat) : pcnt l x = decide (x ∈ l) := by
  induction l with
  | nil => simp [pcnt]
  | cons y l ih =>
    obtain ⟨h1, h2⟩ := List.nodup_cons.mp h
    rw [pcnt_cons, ih h2]
    by_cases e : y = x
    · subst e
      simp [h1]
    · have e' : ¬ x = y := fun z => e z.symm
      simp [e, e']
theorem pcnt_flat {α : Type} (C : α → List Nat) (x : Nat) : ∀ p : List α, pcnt (p.flatMap C) x = xb (p.map fun b => pcnt (C b) x)
  | [] => rfl
  | b :: p => by rw [List.flatMap_cons, pcnt_app, pcnt_flat C x p]; rfl
theorem crM_len : (crM s).length = s.ben.length := List.length_map _
theorem crM_at {b : Nat} (hb : b < s.ben.length) : (crM s).getD b 0 = mk (crw s b) := by
  unfold crM crw
  rw [List.getD_eq_getElem?_getD, List.getElem?_map, List.getElem?_eq_getElem hb, List.getD_eq_getElem?_getD, List.getElem?_eq_getElem hb]
  rfl
/-- an even lot -/
theorem evn_is (h : ScOk s 15) {p : List Nat} (hp : ∀ b ∈ p, b < s.ben.length) : evn s p ↔ xs (p.map fun i => (crM s).getD i 0) = 0 := by
  have e : ∀ x, (xs (p.map fun i => (crM s).getD i 0)).testBit x = pcnt (lineOf s p) x := fun x => by
    rw [xs_bitm]
    unfold lineOf
    rw [pcnt_flat]
    refine xb_congr fun b hb => ?_
    have nd := asc_nodup (crw_ok h (hp b hb)).1
    rw [crM_at (hp b hb), mk_bit nd, pcnt_nd nd]
  constructor
  · intro he
    exact Nat.eq_of_testBit_eq fun x => by rw [e, he x, Nat.zero_testBit]
  · intro he x
    rw [← e, he, Nat.zero_testBit]
theorem lots_lt' {p : List Nat} (hp : p ∈ lots (crM s)) : p.Pairwise (· < ·) ∧ ∀ b ∈ p, b < s.ben.length := by
  have q := lots_asc hp
  exact ⟨q.1, fun b hb => by have := q.2.2 b hb; rwa [crM_len] at this⟩
theorem lots_evn (h : ScOk s 15) {p : List Nat} (hp : p ∈ lots (crM s)) : evn s p := (evn_is h (lots_lt' hp).2).mpr (lots_zero hp)
end
end DX
namespace DX
open PySem PySem.Spec PyProof.Rows L2 GF
def ci__law_is_minus_0 : EvT := tCmpE (eEqC false (eIx (eIx (eIx (eVar 0) (eC (.str "benches"))) (eVar 2)) (eC (.int 0))) (eUn dNeg (eC (.int 1))))
def ce__law_is_minus_0 : Ev := eC (.int 1)
def b__law_is_minus : Sv := sRet (eEqC false (eBin (dI cMod fun i j => .int (i % j)) (eCall (o1 dInt1) (aCons (eCall oLen (aCons (eOfF (fLc (iSeq (eVar 1)) (tName 2) (ci__law_is_minus_0) (ce__law_is_minus_0) [2])) (aNil))) (aNil))) (eC (.int 2))) (eC (.int 1)))
abbrev m__law_is_minus : Fn := fnOf 3 (b__law_is_minus)
def evnB (s : Sc) (p : List Nat) : Bool := (List.range s.many).all fun x => !(pcnt (lineOf s p) x)
section
variable {s : Sc} {cs : List Cell}
theorem evnB_iff (h : ScOk s 15) {p : List Nat} (hp : ∀ b ∈ p, b < s.ben.length) : evnB s p = true ↔ evn s p := by
  unfold evnB
  rw [List.all_eq_true]
  constructor
  · intro z x
    by_cases hx : x < s.many
    · have := z x (List.mem_range.mpr hx)
      simpa using this
    · unfold pcnt
      rw [List.count_eq_zero.mpr fun hm => hx (line_lt h hp x hm)]
      rfl
  · intro z x _
    rw [z x]
    rfl
theorem pcnt_lot (h : ScOk s 15) {p : List Nat} (hp : ∀ b ∈ p, b < s.ben.length) (x : Nat) : pcnt (lineOf s p) x = decide ((p.filter fun b => decide (x ∈ crw s b)).length % 2 = 1) := by
  rw [← xb_count]
  unfold lineOf
  rw [pcnt_flat]
  exact xb_congr fun b hb => pcnt_nd (asc_nodup (crw_ok h (hp b hb)).1) x
theorem in_natL (a : Nat) (l : List Nat) : dIn (nD a) (iD l) = some (.bl (decide (a ∈ l))) := in_datT EqD.nat (by decide) a l
def cntL (s : Sc) (p : List Nat) (x : Nat) : Nat := (p.filter fun b => decide (x ∈ crw s b)).length
theorem lots_test (h : ScOk s 15) {p : List Nat} (hp : ∀ b ∈ p, b < s.ben.length) : ((List.range s.many).filter fun x => decide (cntL s p x % 2 = 1)).isEmpty = evnB s p := by
  unfold evnB
  have e : ∀ l : List Nat, (l.filter fun x => decide (cntL s p x % 2 = 1)).isEmpty = l.all fun x => !(pcnt (lineOf s p) x) := by
    intro l
    induction l with
    | nil => rfl
    | cons x l ih =>
      rw [List.filter_cons, List.all_cons, ← ih, pcnt_lot h hp x]
      unfold cntL
      cases decide ((p.filter fun b => decide (x ∈ crw s b)).length % 2 = 1) <;> rfl
  exact e _
theorem sgs_at {b : Nat} (hb : b < s.ben.length) : dIx (.tup (s.ben.map bD)) (.int (b : Nat)) = some (bD (s.ben.getD b b00)) := ix_t.trans (at_map b00 hb)
theorem r_law_is_minus {p : List Nat} (hp : ∀ b ∈ p, b < s.ben.length) (lp : p.length ≤ 1000) : m__law_is_minus [.dat (scD s), .dat (iD p)] cs = .ok (.dat (.bl (miB s p))) cs := by
  have eB : dIx (scD s) (.str "benches") = some (.tup (s.ben.map bD)) := rfl
  have n1 : dNeg (.int 1) = some (.int (-1)) := rfl
  have lf := lc_filter (t := tName 2) (p := ci__law_is_minus_0) (f := ce__law_is_minus_0) (env := [some (.dat (scD s)), some (.dat (iD p)), none]) (cs := cs) (fun b : Nat => .dat (nD b)) (fun _ => .int 1) (neg1 s) p (fun b hb => by
    have x1 := sgs_at (hp b hb)
    have x2 : dIx (bD (s.ben.getD b b00)) (.int 0) = some (.int (s.ben.getD b b00).1) := rfl
    refine ⟨_, rfl, ?_, fun _ => ?_⟩
    · unfold nD
      k_state0 [ci__law_is_minus_0, eB, x1, x2, n1, -ix_t]
    · k_state0 [ce__law_is_minus_0])
  have f0 : (p.map nD).map Wv.dat = p.map fun b => Wv.dat (nD b) := by rw [List.map_map]; rfl
  have asP : ∀ c, asSeq (.dat (iD p)) c = .ok (p.map fun b => Wv.dat (nD b)) c := fun _ => by rw [← f0]; rfl
  have ln : dLen (.lst ((p.filter fun b => neg1 s b).map fun _ => Dt.int 1)) = some (.int ((p.filter fun b => neg1 s b).length : Nat)) := congrArg (fun k : Nat => some (Dt.int (k : Int))) (List.length_map _)
  have od : decide ((((p.filter fun b => neg1 s b).length : Nat) : Int) % 2 = 1) = miB s p := by
    unfold miB
    rw [xb_count]
    refine decide_eq_decide.mpr ?_
    show _ ↔ (p.filter fun b => neg1 s b).length % 2 = 1
    omega
  refine fn_ev ?_
  k_state0 [b__law_is_minus, start_cons, start_nil, repl_S, repl_0, asP, wipe_nil, wipe_cons, lf, dats_mapd, ln, od]
end
end DX
namespace DX
open PySem PySem.Spec PyProof.Rows L2 GF
def ce_signs_of_0 : Ev := eVar 1
def b_signs_of (V : Ax) : Sv := sRet (eOfF (fLc (iSeq (eFld (V.A 52) "benches" (eVar 0))) (tTupG 2 (tgCons (tName 1) (tgCons (tName 2) (tgNil)))) (tYesE) (ce_signs_of_0) [1, 2]))
abbrev m_signs_of (V : Ax) : Fn := fnOf 3 (b_signs_of V)
def ce_evens_of_0 : Ev := eFn 1 (m_mask_of) (aCons (eVar 1) (aNil))
def b_evens_of (V : Ax) : Sv := sRet (eFn 1 (m_idle_lots) (aCons (eOfF (fLc (iSeq (eFn 1 (m_crews_of V) (aCons (eVar 0) (aNil)))) (tName 1) (tYesE) (ce_evens_of_0) [1])) (aNil)))
abbrev m_evens_of (V : Ax) : Fn := fnOf 2 (b_evens_of V)
def ci_is_minus_0 : EvT := tCmpE (eEqC false (eIx (eVar 2) (eVar 3)) (eUn dNeg (eC (.int 1))))
def ce_is_minus_0 : Ev := eC (.int 1)
def b_is_minus (V : Ax) : Sv := sSeq (sSet 2 (eFn 1 (m_signs_of V) (aCons (eVar 0) (aNil)))) (sRet (eEqC false (eBin (dI cMod fun i j => .int (i % j)) (eCall oLen (aCons (eOfF (fLc (iSeq (eVar 1)) (tName 3) (ci_is_minus_0) (ce_is_minus_0) [3])) (aNil))) (eC (.int 2))) (eC (.int 1))))
abbrev m_is_minus (V : Ax) : Fn := fnOf 4 (b_is_minus V)
def ci_solved_0 : EvT := tCmpE (eEqC false (eVar 4) (eC (.int 1)))
def ce_solved_0 : Ev := eBin (dI cPow fun i j => .int (i * 2 ^ j.toNat)) (eC (.int 1)) (eBin (dI0 fun i j => .int (i - j)) (eUn dBits (eVar 3)) (eC (.int 1)))
def b_solved : Sv := sSeq (sAsg (tTupG 2 (tgCons (tName 1) (tgCons (tName 2) (tgNil)))) (eFn 1 (m_reduced) (aCons (eVar 0) (aNil)))) (sSeq (sIf (tCmpE (eBin dIn (eC (.int 1)) (eVar 2))) (sRet (eC .non)) (sNil)) (sRet (eCall (o1 dSum) (aCons (eOfF (fLc (iSeq (eVar 1)) (tTupG 2 (tgCons (tName 3) (tgCons (tName 4) (tgNil)))) (ci_solved_0) (ce_solved_0) [3, 4])) (aNil)))))
abbrev m_solved : Fn := fnOf 5 (b_solved)
section
variable {V : Ax} {s : Sc} {cs : List Cell}
theorem r_signs_of (few : s.ben.length ≤ 12) : m_signs_of V [.dat (halD V s)] cs = .ok (.dat (.lst (s.ben.map fun b => .int b.1))) cs := by
  have lm := lc_mapD (t := tTupG 2 (tgCons (tName 1) (tgCons (tName 2) tgNil))) (f := ce_signs_of_0) (env := [some (.dat (halD V s)), none, none]) (cs := cs) bD (fun b => .int b.1) s.ben (fun b _ => by
    refine ⟨_, rfl, ?_⟩
    k_state0 [ce_signs_of_0])
  have d2 := fld_ben (V := V) (s := s) (cs := cs)
  refine fn_ev ?_
  k_state0 [b_signs_of, start_cons, start_nil, repl_S, repl_0, d2, wipe_nil, wipe_cons, lm]
theorem r_evens_of (h : ScOk s 15) : ∃ ys, m_evens_of V [.dat (halD V s)] cs = .ok (.dat (.lst ((lots (crM s)).map iD))) (cs ++ ys) := by
  have few := h.few
  have q1 := r_crews_of (V := V) (s := s) (cs := cs) few
  have lm := lc_mapD (t := tName 1) (f := ce_evens_of_0) (env := [some (.dat (halD V s)), none]) (cs := cs) crD (fun b => nD (mk b.2)) s.ben (fun b hb => by
    refine ⟨_, rfl, ?_⟩
    obtain ⟨z1, z2, z3, z4, z5⟩ := h.ben b hb
    have top := h.top
    have q := r_mask (l := b.2) (w := .dat (.tup (b.2.map nD))) (cs := cs) (.inr rfl) (fun i hi => by have := z5 i hi; omega) (by omega)
    unfold crD iD
    k_state0 [ce_evens_of_0, q])
  have e1 : (s.ben.map fun b => nD (mk b.2)) = (crM s).map nD := by unfold crM; rw [List.map_map]; rfl
  have f0 : (s.ben.map crD).map Wv.dat = s.ben.map fun b => Wv.dat (crD b) := by rw [List.map_map]; rfl
  rw [e1] at lm
  obtain ⟨ys, q2⟩ := r_idle_lots (L := crM s) (cs := cs) (by rw [crM_len]; omega)
  refine ⟨ys, fn_ev ?_⟩
  k_state0 [b_evens_of, start_cons, start_nil, repl_S, repl_0, q1, wipe_nil, wipe_cons, lm, dats_mapd, q2]
theorem dNeg1 : dNeg (.int 1) = some (.int (-1)) := rfl
theorem mi_cnt (p : List Nat) : decide ((p.filter fun b => neg1 s b).length % 2 = 1) = miB s p := (xb_count _ _).symm
theorem sgn_at {b : Nat} (hb : b < s.ben.length) : dIx (.lst (s.ben.map fun b => .int b.1)) (.int (b : Nat)) = some (.int (s.ben.getD b b00).1) := ix_l.trans (at_map (f := fun b : Int × List Nat => Dt.int b.1) b00 hb)
theorem odd_len {α : Type} (l : List α) : eqC false (.dat (.int (((l.length : Nat) : Int) % 2))) (.dat (.int 1)) cs = some (.bl (decide (l.length % 2 = 1))) := by
  have e : decide (((l.length : Nat) : Int) % 2 = 1) = decide (l.length % 2 = 1) := decide_eq_decide.mpr (by omega)
  rw [← e]
  rfl
theorem len_ones {α : Type} (l : List α) : dLen (.lst (l.map fun _ => .int 1)) = some (.int (l.length : Nat)) := congrArg (fun k : Nat => some (Dt.int (k : Int))) (List.length_map _)
theorem r_is_minus (few : s.ben.length ≤ 12) {p : List Nat} (hp : ∀ b ∈ p, b < s.ben.length) (lp : p.length ≤ 1000) : m_is_minus V [.dat (halD V s), .dat (iD p)] cs = .ok (.dat (.bl (miB s p))) cs := by
  have q1 := r_signs_of (V := V) (s := s) (cs := cs) few
  have lf := lc_filter (t := tName 3) (p := ci_is_minus_0) (f := ce_is_minus_0) (env := [some (.dat (halD V s)), some (.dat (iD p)), some (.dat (.lst (s.ben.map fun b => .int b.1))), none]) (cs := cs) (fun b : Nat => .dat (nD b)) (fun _ => .int 1) (neg1 s) p (fun b hb => by
    have x1 := sgn_at (hp b hb)
    refine ⟨_, rfl, ?_, fun _ => ?_⟩
    · unfold nD
      k_state0 [ci_is_minus_0, x1, dNeg1, -ix_l]
    · k_state0 [ce_is_minus_0])
  have f0 : (p.map nD).map Wv.dat = p.map fun b => Wv.dat (nD b) := by rw [List.map_map]; rfl
  have asP : ∀ c, asSeq (.dat (iD p)) c = .ok (p.map fun b => Wv.dat (nD b)) c := fun _ => by rw [← f0]; rfl
  have ln := len_ones (p.filter fun b => neg1 s b)
  have od := odd_len (cs := cs) (p.filter fun b => neg1 s b)
  rw [mi_cnt] at od
  refine fn_ev ?_
  k_state0 [b_is_minus, start_cons, start_nil, repl_S, repl_0, q1, asP, wipe_nil, wipe_cons, lf, dats_mapd, ln, od]
end
theorem in_nat (a : Nat) (l : List Nat) : dIn (nD a) (iD l) = some (.bl (decide (a ∈ l))) := in_datT EqD.nat (by decide) a l
end DX
namespace DX
open PySem PySem.Spec PyProof.Rows L2 GF
def b01 (b : Bool) : Nat := if b = true then 1 else 0
theorem par_b01 (b : Bool) : par (b01 b) = b := by
  cases b with
  | false => exact par_zero
  | true =>
    show par 1 = true
    rw [par_rec, show (1 : Nat) / 2 = 0 from rfl, par_zero]
    rfl
/-- what a table keeps, as the rows tell -/
def keeps (s : Sc) (T : Nat × Nat → Bool) : Prop := clOk s T ∧ ∀ p ∈ lots (crM s), loV s T p = miB s p
end DX
namespace DX
open PySem PySem.Spec PyProof.Rows L2
def gT (G : List (List Int)) (i j : Nat) : Int := (G.getD i []).getD j 0
structure TabOk (n : Nat) (G : List (List Int)) : Prop where
  many : G.length = n
  row : ∀ r ∈ G, r.length = n ∧ ∀ k ∈ r, k = 0 ∨ k = 1
theorem getD_mem' {α : Type} {l : List α} {i : Nat} {d : α} (h : i < l.length) : l.getD i d ∈ l := by
  rw [List.getD_eq_getElem?_getD, List.getElem?_eq_getElem h]
  exact List.getElem_mem h
theorem TabOk.b {n : Nat} {G : List (List Int)} (h : TabOk n G) {i j : Nat} (hi : i < n) (hj : j < n) : gT G i j = 0 ∨ gT G i j = 1 := by
  have hr := h.row _ (getD_mem' (d := []) (by rw [h.many]; exact hi) : G.getD i [] ∈ G)
  exact hr.2 _ (getD_mem' (by rw [hr.1]; exact hj))
end DX
namespace DX
open PySem PySem.Spec PyProof.Rows L2 GF
section
variable {V : Ax} {s : Sc} {cs : List Cell}
abbrev TE (V : Ax) (s : Sc) (n m : Nat) (a4 a5 a6 : Option Wv) : En := [some (.dat (halD V s)), some (.dat (nD m)), some (.cel n), some (.dat (.tup ((frL s).map prN))), a4, a5, a6, none, none]
end
end DX
namespace DX
open PySem PySem.Spec PyProof.Rows L2 GF
theorem rk_top {N : Nat} {L : List Nat} (h : ∀ a ∈ L, a < 2 ^ N) : rk L ≤ N := by
  have q := count_sp h
  have l := List.countP_le_length (p := sp L) (l := List.range (2 ^ N))
  rw [q, List.length_range] at l
  exact (Nat.pow_le_pow_iff_right (by omega)).mp l
def svM (ps : List (Nat × Nat)) : Nat := mk (((outK (red ps).1).filter fun q => decide (q.2 = 1)).map fun q => q.1.log2)
theorem out_row {ps : List (Nat × Nat)} {N : Nat} (hN : ∀ p ∈ ps, p.1 < 2 ^ N) {q : Nat × Nat} (hq : q ∈ outK (red ps).1) : q.1 ≠ 0 ∧ q.1 < 2 ^ N := by
  obtain ⟨k, hk⟩ := outK_mem.mp hq
  have rd := Rd.of ps
  refine ⟨fun z => ?_, ?_⟩
  · have t := (rd.kp.top _ hk).1
    rw [show ((k, q) : KT).2.1 = q.1 from rfl, z, Nat.zero_testBit] at t
    cases t
  · refine sp_lt (L := ps.map (·.1)) (fun a ha => ?_) ?_
    · obtain ⟨p, hp, rfl⟩ := List.mem_map.mp ha
      exact hN p hp
    · rw [← rd.spn]
      exact sp_mem (List.mem_map.mpr ⟨_, hk, rfl⟩)
section
variable {V : Ax} {s : Sc} {cs : List Cell}
theorem r_solved {ps : List (Nat × Nat)} {N : Nat} (hr : rk (ps.map (·.1)) < 63) (hl : ps.length < 100000) (hN : ∀ p ∈ ps, p.1 < 2 ^ N) (hN' : N ≤ 1000) :
    m_solved [.dat (.lst (ps.map prD))] cs = .ok (.dat (if 1 ∈ (red ps).2 then .non else nD (svM ps))) (cs ++ [.dic (dicK (red ps).1), .dead]) := by
  have q1 := r_reducedW (cs := cs) hr hl
  have i1 : dIn (.int 1) (.lst ((red ps).2.map nD)) = some (.bl (decide (1 ∈ (red ps).2))) := in_dat EqD.nat (by decide) 1 (red ps).2
  obtain ⟨c1, h1⟩ : ∃ c1, c1 = cs ++ [Cell.dic (dicK (red ps).1), .dead] := ⟨_, rfl⟩
  rw [← h1] at q1 ⊢
  refine fn_ev ?_
  by_cases hm : 1 ∈ (red ps).2
  · rw [if_pos hm]
    rw [decide_eq_true hm] at i1
    k_state0 [b_solved, start_cons, start_nil, repl_S, repl_0, q1, i1]
  · rw [if_neg hm]
    rw [decide_eq_false hm] at i1
    have lf := lc_filterD (t := tTupG 2 (tgCons (tName 3) (tgCons (tName 4) tgNil))) (p := ci_solved_0) (f := ce_solved_0) (env := [some (.dat (.lst (ps.map prD))), some (.dat (.lst ((outK (red ps).1).map prD))), some (.dat (.lst ((red ps).2.map nD))), none, none]) (cs := c1) prD (fun q => nD (2 ^ q.1.log2)) (fun q => decide (q.2 = 1)) (outK (red ps).1) (fun q hq => by
      obtain ⟨h0, hlt⟩ := out_row hN hq
      have hb := bits_nat h0
      have lg : q.1.log2 < N := (Nat.pow_lt_pow_iff_right (by omega : 1 < 2)).mp (Nat.lt_of_le_of_lt (Nat.log2_self_le h0) hlt)
      have hat : (((q.1.log2 + 1 : Nat) : Int) - 1) = (q.1.log2 : Nat) := by omega
      have ks := k_shl (n := q.1.log2) (by omega)
      have e1 : decide (((q.2 : Nat) : Int) = 1) = decide (q.2 = 1) := decide_eq_decide.mpr (by omega)
      refine ⟨_, rfl, ?_, fun _ => ?_⟩
      · unfold nD
        k_state0 [ci_solved_0, e1]
      · unfold nD
        k_state0 [ce_solved_0, hb, hat, ks])
    have ol : (outK (red ps).1).length < 63 := by rw [outK_len, red_rank]; exact hr
    obtain ⟨Q, hQ⟩ : ∃ Q, Q = (outK (red ps).1).filter fun q => decide (q.2 = 1) := ⟨_, rfl⟩
    rw [← hQ] at lf
    have inz := ints_nD (Q.map fun q => 2 ^ q.1.log2)
    rw [List.map_map] at inz
    have e2 : dSum (.lst (Q.map fun q => nD (2 ^ q.1.log2))) = some (nD (svM ps)) := by
      show (DX.intsOf (Q.map fun q => nD (2 ^ q.1.log2))).map (fun ns => Dt.int ns.sum) = _
      rw [show (Q.map fun q => nD (2 ^ q.1.log2)) = Q.map (nD ∘ fun q => 2 ^ q.1.log2) from rfl, inz, Option.map_some, sum_nat]
      unfold svM mk
      rw [← hQ, List.map_map]
      rfl
    k_state0 [b_solved, start_cons, start_nil, repl_S, repl_0, q1, i1, wipe_nil, wipe_cons, lf, dats_mapd, e2]
end
end DX
namespace DX
open PySem PySem.Spec PyProof.Rows L2 GF
/-- how far a number is from a row's goal -/
def evR (x : Nat) (p : Nat × Nat) : Bool := xor (par (x &&& p.1)) (par p.2)
theorem evR_xor (x a b c d : Nat) : evR x (a ^^^ c, b ^^^ d) = xor (evR x (a, b)) (evR x (c, d)) := by
  unfold evR
  dsimp only
  rw [par_and_xor, par_xor]
  cases par (x &&& a) <;> cases par (x &&& c) <;> cases par b <;> cases par d <;> rfl
theorem down_ev {x : Nat} : ∀ (l : List KT) (p : Nat × Nat), (∀ q ∈ l, evR x q.2 = false) → evR x (down l p) = evR x p
  | [], _, _ => rfl
  | q :: l, p, h => by
    show evR x (down l (d1 p q)) = _
    rw [down_ev l (d1 p q) fun r hr => h r (List.mem_cons_of_mem _ hr)]
    unfold d1
    split
    · have z : evR x (q.2.1, q.2.2) = false := h q List.mem_cons_self
      rw [evR_xor, z, Bool.xor_false]
    · rfl
theorem up_ev {x k : Nat} {p : Nat × Nat} {q : KT} (hp : evR x p = false) (h : evR x (GF.up1 k p q).2 = false) : evR x q.2 = false := by
  unfold GF.up1 at h
  split at h
  · have h : evR x (q.2.1 ^^^ p.1, q.2.2 ^^^ p.2) = false := h
    rw [evR_xor] at h
    have e : evR x (p.1, p.2) = false := hp
    rw [e, Bool.xor_false] at h
    exact h
  · exact h
/-- what keeps the rows told, keeps the rows given -/
theorem red_ev {x : Nat} : ∀ (ps : List (Nat × Nat)) (S : List KT × List Nat), (∀ q ∈ (ps.foldl rstep S).1, evR x q.2 = false) → (∀ t ∈ (ps.foldl rstep S).2, par t = false) → ((∀ q ∈ S.1, evR x q.2 = false) ∧ ∀ t ∈ S.2, par t = false) ∧ ∀ p ∈ ps, evR x p = false
  | [], S, h1, h2 => ⟨⟨h1, h2⟩, fun p hp => by cases hp⟩
  | p :: ps, S, h1, h2 => by
    obtain ⟨⟨k1, k2⟩, k3⟩ := red_ev ps (rstep S p) h1 h2
    have step : ((∀ q ∈ S.1, evR x q.2 = false) ∧ ∀ t ∈ S.2, par t = false) ∧ evR x p = false := by
      unfold rstep put1 at k1 k2
      by_cases hz : (down S.1 p).1 = 0
      · rw [if_pos hz] at k1 k2
        refine ⟨⟨k1, fun t ht => k2 t (List.mem_append_left _ ht)⟩, ?_⟩
        rw [← down_ev S.1 p k1]
        have t := k2 (down S.1 p).2 (List.mem_append_right _ (by simp))
        unfold evR
        rw [hz, Nat.and_zero, par_zero, t]
        rfl
      · rw [if_neg hz] at k1 k2
        have pd : evR x (down S.1 p) = false := k1 ((down S.1 p).1.log2, down S.1 p) (List.mem_append_right _ (by simp))
        have k : ∀ q ∈ S.1, evR x q.2 = false := fun q hq => up_ev pd (k1 _ (List.mem_append_left _ (List.mem_map.mpr ⟨q, hq, rfl⟩)))
        exact ⟨⟨k, k2⟩, by rw [← down_ev S.1 p k]; exact pd⟩
    refine ⟨step.1, fun q hq => ?_⟩
    rcases List.mem_cons.mp hq with rfl | hq
    · exact step.2
    · exact k3 q hq
/-- tags stay figures -/
theorem red_tags {ps : List (Nat × Nat)} (h : ∀ p ∈ ps, p.2 < 2) : (∀ q ∈ (red ps).1, q.2.2 < 2) ∧ ∀ t ∈ (red ps).2, t < 2 :=
  red_rel (P := fun _ b => b < 2) (fun a b c d h1 h2 => Nat.xor_lt_two_pow (n := 1) h1 h2) h
theorem par_lt2 {t : Nat} (h : t < 2) : par t = decide (t = 1) := by
  have : t = 0 ∨ t = 1 := by omega
  rcases this with rfl | rfl
  · rw [par_zero]; rfl
  · have z := par_b01 true
    rw [show b01 true = 1 from rfl] at z
    rw [z]
    rfl
/-- a number whose figures are the kept rows' own keeps them -/
theorem sv_kept {ps : List (Nat × Nat)} (ht : ∀ p ∈ ps, p.2 < 2) {q : KT} (hq : q ∈ (red ps).1) : evR (svM ps) q.2 = false := by
  have rd := Rd.of ps
  have tl := (red_tags ht).1
  have bits : ∀ i, (svM ps).testBit i = true ↔ ∃ r ∈ (red ps).1, r.2.2 = 1 ∧ r.1 = i := fun i => by
    have nd : (((outK (red ps).1).filter fun q => decide (q.2 = 1)).map fun q => q.1.log2).Nodup := by
      have nd : ((outK (red ps).1).map fun q => q.1.log2).Nodup := by
        have p : (outK (red ps).1).Perm ((red ps).1.map (·.2)) := (List.mergeSort_perm _ _).map _
        rw [(p.map fun q : Nat × Nat => q.1.log2).nodup_iff, List.map_map]
        have k := rd.kp.keys
        unfold rows at k
        rw [List.map_map] at k
        have e : (red ps).1.map ((fun q : Nat × Nat => q.1.log2) ∘ (·.2)) = (red ps).1.map (·.1) := k
        rw [e]
        exact rd.kp.nd
      exact nd.sublist (List.filter_sublist.map _)
    unfold svM
    rw [mk_bit nd, decide_eq_true_eq, List.mem_map]
    constructor
    · rintro ⟨z, hz, rfl⟩
      obtain ⟨h1, h2⟩ := List.mem_filter.mp hz
      obtain ⟨k, hk⟩ := outK_mem.mp h1
      exact ⟨(k, z), hk, of_decide_eq_true h2, (top_log2 (rd.kp.top _ hk).1 (rd.kp.top _ hk).2).symm⟩
    · rintro ⟨r, hr, h1, rfl⟩
      exact ⟨r.2, List.mem_filter.mpr ⟨outK_mem.mpr ⟨r.1, hr⟩, decide_eq_true h1⟩, top_log2 (rd.kp.top _ hr).1 (rd.kp.top _ hr).2⟩
  unfold evR
  rw [par_lt2 (tl q hq)]
  have key : svM ps &&& q.2.1 = if q.2.2 = 1 then 2 ^ q.1 else 0 := by
    refine Nat.eq_of_testBit_eq fun i => ?_
    rw [Nat.testBit_and]
    by_cases hi : (svM ps).testBit i = true
    · obtain ⟨r, hr, t1, rfl⟩ := (bits i).mp hi
      rw [hi, Bool.true_and]
      by_cases e : r.1 = q.1
      · have rq : r = q := by
          have nd := rd.kp.nd
          rw [List.Nodup, List.pairwise_map] at nd
          obtain ⟨a, ha, rfl⟩ := List.getElem_of_mem hr
          obtain ⟨b, hb, rfl⟩ := List.getElem_of_mem hq
          rcases Nat.lt_trichotomy a b with lt | eq | gt
          · exact absurd e (List.pairwise_iff_getElem.mp nd a b ha hb lt)
          · subst eq; rfl
          · exact absurd e.symm (List.pairwise_iff_getElem.mp nd b a hb ha gt)
        subst rq
        rw [(rd.kp.top _ hr).1, if_pos t1, Nat.testBit_two_pow, decide_eq_true rfl]
      · rw [rd.kp.own r hr q hq e]
        split
        · rw [Nat.testBit_two_pow, decide_eq_false fun z => e z.symm]
        · rw [Nat.zero_testBit]
    · have hi' : (svM ps).testBit i = false := by simpa using hi
      rw [hi', Bool.false_and]
      split
      · rename_i t1
        rw [Nat.testBit_two_pow]
        exact (decide_eq_false fun z => hi ((bits i).mpr ⟨q, hq, t1, z⟩)).symm
      · rw [Nat.zero_testBit]
  rw [key]
  by_cases t1 : q.2.2 = 1
  · rw [if_pos t1, decide_eq_true t1]
    have pw : par (2 ^ q.1) = true := by
      rw [par_bits (q.1 + 1) _ (Nat.pow_lt_pow_right (by omega) (by omega))]
      have e : (List.range (q.1 + 1)).map (2 ^ q.1).testBit = (List.range (q.1 + 1)).map fun i => decide (i = q.1) && true := List.map_congr_left fun i _ => by
        rw [Nat.testBit_two_pow, Bool.and_true]
        exact decide_eq_decide.mpr ⟨Eq.symm, Eq.symm⟩
      rw [e, xb_one q.1 (fun _ => true) List.nodup_range]
      simp
    rw [pw]
    rfl
  · rw [if_neg t1, decide_eq_false t1, par_zero]
    rfl
/-- rows whose goals clash nowhere are kept -/
theorem sv_all {ps : List (Nat × Nat)} (ht : ∀ p ∈ ps, p.2 < 2) (h1 : ¬ 1 ∈ (red ps).2) : ∀ p ∈ ps, par (svM ps &&& p.1) = par p.2 := fun p hp => by
  have q := (red_ev (x := svM ps) ps ([], []) (fun q hq => sv_kept ht hq) fun t hm => by
    have lt := (red_tags ht).2 t hm
    rw [par_lt2 lt]
    exact decide_eq_false fun e => h1 (e ▸ hm)).2 p hp
  unfold evR at q
  revert q
  cases par (svM ps &&& p.1) <;> cases par p.2 <;> intro q <;> first | rfl | cases q
end DX
namespace DX
open PySem PySem.Spec PyProof.Rows L2 GF
theorem xb_len {α : Type} : ∀ l : List α, decide (l.length % 2 = 1) = xb (l.map fun _ => true)
  | [] => rfl
  | a :: l => by
    rw [List.map_cons, xb_cons, ← xb_len l, List.length_cons]
    by_cases h : l.length % 2 = 1
    · rw [decide_eq_true h, decide_eq_false (by omega)]; rfl
    · rw [decide_eq_false h, decide_eq_true (by omega)]; rfl
def tagB (b : Int × List Nat) : Nat := (b.2.length + (if b.1 = -1 then 1 else 0)) % 2
theorem tagB_lt (b : Int × List Nat) : tagB b < 2 := Nat.mod_lt _ (by decide)
theorem tagB_b (b : Int × List Nat) : decide (tagB b = 1) = xor (decide (b.2.length % 2 = 1)) (decide (b.1 = -1)) := by
  unfold tagB
  by_cases h : b.1 = -1
  · rw [if_pos h, decide_eq_true h]
    by_cases k : b.2.length % 2 = 1
    · rw [decide_eq_true k, decide_eq_false (by omega)]; rfl
    · rw [decide_eq_false k, decide_eq_true (by omega)]; rfl
  · rw [if_neg h, decide_eq_false h, Bool.xor_false, Nat.add_zero]
def sgP (s : Sc) : List (Nat × Nat) := s.ben.map fun b => (mk b.2, tagB b)
section
variable {s : Sc}
theorem sgP_tag : ∀ p ∈ sgP s, p.2 < 2 := fun p hp => by
  obtain ⟨b, _, rfl⟩ := List.mem_map.mp hp
  exact tagB_lt b
def tgs (s : Sc) : List Nat := s.ben.map tagB
theorem tgs_at {i : Nat} (hi : i < s.ben.length) : (tgs s).getD i 0 = tagB (s.ben.getD i b00) := by
  unfold tgs
  rw [List.getD_eq_getElem?_getD, List.getD_eq_getElem?_getD, List.getElem?_map, List.getElem?_eq_getElem hi]
  rfl
/-- the tags of an even lot tell its signs -/
theorem tag_even (h : ScOk s 15) {p : List Nat} (hp : ∀ b ∈ p, b < s.ben.length) (he : evn s p) : xb (p.map fun b => decide (tagB (s.ben.getD b b00) = 1)) = miB s p := by
  have e1 : (fun b => decide (tagB (s.ben.getD b b00) = 1)) = fun b => xor (decide ((crw s b).length % 2 = 1)) (neg1 s b) := funext fun b => tagB_b _
  rw [e1, xb_xor]
  have e2 : xb (p.map fun b => decide ((crw s b).length % 2 = 1)) = false := by
    have e3 : (fun b => decide ((crw s b).length % 2 = 1)) = fun b => xb ((crw s b).map fun _ => true) := funext fun b => xb_len _
    rw [e3, ← xb_flat (fun b => crw s b) (fun _ => true) p]
    have lt : ∀ x ∈ p.flatMap (fun b => crw s b), x < s.many := fun x hx => by
      obtain ⟨b, hb, hx⟩ := List.mem_flatMap.mp hx
      exact (crw_ok h (hp b hb)).2.2.2 x hx
    rw [xb_cnt (fun _ => true) lt]
    refine xb_false fun x _ => ?_
    have : pcnt (p.flatMap fun b => crw s b) x = false := he x
    rw [this]
    rfl
  rw [e2, Bool.false_xor]
  rfl
/-- no solution: an odd lot -/
theorem odd_ex (h : ScOk s 15) (h1 : 1 ∈ (red (sgP s)).2) : ∃ p, p.Pairwise (· < ·) ∧ (∀ b ∈ p, b < s.ben.length) ∧ evn s p ∧ miB s p = true := by
  have lt : (tgs s).length = s.ben.length := List.length_map ..
  have rel := (red_rel (ps := sgP s) (P := fun a b => ∃ t, t < 2 ^ s.ben.length ∧ comb (crM s) t = a ∧ comb (tgs s) t = b) (fun a b c d ⟨t, t0, t1, t2⟩ ⟨u, u0, u1, u2⟩ => ⟨t ^^^ u, Nat.xor_lt_two_pow t0 u0, by rw [comb_xor, t1, u1], by rw [comb_xor, t2, u2]⟩) (fun p hp => by
    obtain ⟨b, hb, rfl⟩ := List.mem_map.mp hp
    obtain ⟨i, hi', rfl⟩ := List.getElem_of_mem hb
    refine ⟨2 ^ i, Nat.pow_lt_pow_right (by decide) hi', ?_, ?_⟩
    · rw [comb_one (by rw [crM_len]; exact hi'), crM_at hi']
      unfold crw
      rw [List.getD_eq_getElem?_getD, List.getElem?_eq_getElem hi']
      rfl
    · rw [comb_one (by rw [lt]; exact hi'), tgs_at hi', List.getD_eq_getElem?_getD, List.getElem?_eq_getElem hi']
      rfl)).2 1 h1
  obtain ⟨t, t0, t1, t2⟩ := rel
  have il := itm_lt t0
  have ev : evn s (itm t) := by
    rw [evn_is h il, ← comb_items (crM s) (by rw [crM_len]; exact t0), t1]
  refine ⟨itm t, itm_asc t, il, ev, ?_⟩
  rw [← tag_even h il ev]
  rw [comb_items (tgs s) (by rw [lt]; exact t0)] at t2
  have t3 : (xs ((itm t).map fun i => (tgs s).getD i 0)).testBit 0 = true := by rw [t2]; rfl
  rw [xs_bitm] at t3
  rw [← t3]
  refine xb_congr fun b hb => ?_
  rw [tgs_at (il b hb)]
  have := tagB_lt (s.ben.getD b b00)
  rcases (by omega : tagB (s.ben.getD b b00) = 0 ∨ tagB (s.ben.getD b b00) = 1) with e | e <;> rw [e] <;> rfl
theorem par_xs (x : Nat) (g : Nat → Nat) : ∀ p : List Nat, xb (p.map fun b => par (x &&& g b)) = par (x &&& xs (p.map g))
  | [] => by
    show false = par (x &&& 0)
    rw [Nat.and_zero, par_zero]
  | b :: p => by
    rw [List.map_cons, xb_cons, List.map_cons, xs_cons, par_and_xor, par_xs x g p]
/-- a solution: no odd lot -/
theorem sol_even (h : ScOk s 15) {x : Nat} (hx : ∀ b, b < s.ben.length → par (x &&& mk (crw s b)) = decide (tagB (s.ben.getD b b00) = 1)) {p : List Nat} (hp : ∀ b ∈ p, b < s.ben.length) (he : evn s p) : miB s p = false := by
  rw [← tag_even h hp he]
  have e1 : xb (p.map fun b => decide (tagB (s.ben.getD b b00) = 1)) = xb (p.map fun b => par (x &&& (crM s).getD b 0)) := xb_congr fun b hb => by rw [crM_at (hp b hb), hx b (hp b hb)]
  rw [e1, par_xs, (evn_is h hp).mp he, Nat.and_zero, par_zero]
theorem sg_sol (h1 : ¬ 1 ∈ (red (sgP s)).2) {b : Nat} (hb : b < s.ben.length) : par (svM (sgP s) &&& mk (crw s b)) = decide (tagB (s.ben.getD b b00) = 1) := by
  have e := sv_all sgP_tag h1 (mk (s.ben.getD b b00).2, tagB (s.ben.getD b b00)) (List.mem_map.mpr ⟨s.ben.getD b b00, by
    rw [List.getD_eq_getElem?_getD, List.getElem?_eq_getElem hb]
    exact List.getElem_mem hb, rfl⟩)
  rw [par_lt2 (tagB_lt _)] at e
  exact e
theorem sg_iff (h : ScOk s 15) : 1 ∈ (red (sgP s)).2 ↔ ∃ p, p.Pairwise (· < ·) ∧ (∀ b ∈ p, b < s.ben.length) ∧ evn s p ∧ miB s p = true := by
  refine ⟨odd_ex h, fun ⟨p, _, hp, he, hm⟩ => Decidable.byContradiction fun h1 => ?_⟩
  rw [sol_even h (fun b hb => sg_sol h1 hb) hp he] at hm
  cases hm
theorem par_crew {N : Nat} (x : Nat) {l : List Nat} (nd : l.Nodup) (hl : ∀ i ∈ l, i < N) : par (x &&& mk l) = xb (l.map x.testBit) := by
  rw [par_and x (mk_lt nd hl), xb_cnt x.testBit hl]
  refine xb_congr fun i _ => ?_
  rw [mk_bit nd, pcnt_nd nd, Bool.and_comm]
/-- the signs told break no bench -/
theorem sg_keeps (h : ScOk s 15) (h1 : ¬ 1 ∈ (red (sgP s)).2) {b : Nat} (hb : b < s.ben.length) : decide (((crw s b).filter fun t => !(svM (sgP s)).testBit t).length % 2 = 1) = neg1 s b := by
  have ok := crw_ok h hb
  have e1 := sg_sol h1 hb
  rw [par_crew _ (asc_nodup ok.1) ok.2.2.2, tagB_b] at e1
  have e2 : decide (((crw s b).filter fun t => !(svM (sgP s)).testBit t).length % 2 = 1) = xb ((crw s b).map fun t => xor true ((svM (sgP s)).testBit t)) := by
    rw [xb_len, xb_filter]
    refine xb_congr fun t _ => ?_
    cases (svM (sgP s)).testBit t <;> rfl
  rw [e2, xb_xor, ← xb_len]
  show xor (decide ((crw s b).length % 2 = 1)) (xb ((crw s b).map (svM (sgP s)).testBit)) = _
  rw [e1]
  show xor (decide ((crw s b).length % 2 = 1)) (xor (decide ((crw s b).length % 2 = 1)) (neg1 s b)) = neg1 s b
  cases decide ((crw s b).length % 2 = 1) <;> cases neg1 s b <;> rfl
end
/-- a row taken out of the rows: one less -/
theorem rk_elim {R : List Nat} {r0 i : Nat} (h0 : r0 ∈ R) (hb : r0.testBit i = true) : rk R = rk (R.map fun r => if r.testBit i = true then r ^^^ r0 else r) + 1 := by
  obtain ⟨R', hR⟩ : ∃ R', R' = R.map fun r => if r.testBit i = true then r ^^^ r0 else r := ⟨_, rfl⟩
  rw [← hR]
  have nb : ∀ a ∈ R', a.testBit i = false := fun a ha => by
    rw [hR] at ha
    obtain ⟨r, _, rfl⟩ := List.mem_map.mp ha
    by_cases h : r.testBit i = true
    · rw [if_pos h, Nat.testBit_xor, h, hb]; rfl
    · rw [if_neg h]; simpa using h
  have e1 : rk R = rk (r0 :: R') := rk_ext (fun r hr => by
    by_cases h : r.testBit i = true
    · have m : r ^^^ r0 ∈ R' := by rw [hR]; exact List.mem_map.mpr ⟨r, hr, if_pos h⟩
      have := sp_add (sp_skip (a := r0) (sp_mem m)) (sp_mem (L := r0 :: R') List.mem_cons_self)
      rwa [xor_cancel] at this
    · have m : r ∈ R' := by rw [hR]; exact List.mem_map.mpr ⟨r, hr, if_neg h⟩
      exact sp_skip (sp_mem m)) (fun a ha => by
    rcases List.mem_cons.mp ha with rfl | ha
    · exact sp_mem h0
    · rw [hR] at ha
      obtain ⟨r, hr, rfl⟩ := List.mem_map.mp ha
      by_cases h : r.testBit i = true
      · rw [if_pos h]; exact sp_add (sp_mem hr) (sp_mem h0)
      · rw [if_neg h]; exact sp_mem hr)
  have e2 : ¬ sp R' r0 = true := fun z => by
    have := sp_bit nb z
    rw [hb] at this
    cases this
  rw [e1]
  show (if sp R' r0 = true then rk R' else rk R' + 1) = _
  rw [if_neg e2]
theorem rk_zero : ∀ {R : List Nat}, (∀ r ∈ R, r = 0) → rk R = 0
  | [], _ => rfl
  | a :: R, h => by
    show (if sp R a = true then rk R else rk R + 1) = 0
    rw [h a List.mem_cons_self, if_pos (sp_zero R), rk_zero fun r hr => h r (List.mem_cons_of_mem _ hr)]
/-- all sums of rows -/
def sumL (L : List Nat) : List Nat := L.foldl (fun F m => F ++ F.map (m ^^^ ·)) [0]
theorem sum_mem : ∀ (L F : List Nat) (x : Nat), x ∈ L.foldl (fun F m => F ++ F.map (m ^^^ ·)) F ↔ ∃ y ∈ F, sp L (x ^^^ y) = true
  | [], F, x => by
    constructor
    · exact fun h => ⟨x, h, by show (x ^^^ x == 0) = true; rw [Nat.xor_self]; rfl⟩
    · rintro ⟨y, hy, e⟩
      have e : (x ^^^ y == 0) = true := e
      have : x = y := by
        have e := eq_of_beq e
        have := xor_cancel x y
        rw [e, Nat.zero_xor] at this
        exact this.symm
      exact this ▸ hy
  | a :: L, F, x => by
    rw [List.foldl_cons, sum_mem L]
    constructor
    · rintro ⟨y, hy, e⟩
      rcases List.mem_append.mp hy with hy | hy
      · exact ⟨y, hy, sp_skip e⟩
      · obtain ⟨z, hz, rfl⟩ := List.mem_map.mp hy
        refine ⟨z, hz, ?_⟩
        show (sp L (x ^^^ z) || sp L ((x ^^^ z) ^^^ a)) = true
        rw [show (x ^^^ z) ^^^ a = x ^^^ (a ^^^ z) by rw [Nat.xor_assoc, Nat.xor_comm z a], e, Bool.or_true]
    · rintro ⟨y, hy, e⟩
      have e : (sp L (x ^^^ y) || sp L ((x ^^^ y) ^^^ a)) = true := e
      rcases Bool.or_eq_true_iff.mp e with e | e
      · exact ⟨y, List.mem_append_left _ hy, e⟩
      · refine ⟨a ^^^ y, List.mem_append_right _ (List.mem_map.mpr ⟨y, hy, rfl⟩), ?_⟩
        rw [show x ^^^ (a ^^^ y) = (x ^^^ y) ^^^ a by rw [Nat.xor_assoc, Nat.xor_comm y a]]
        exact e
theorem sumL_mem {L : List Nat} {x : Nat} : x ∈ sumL L ↔ sp L x = true := by
  unfold sumL
  rw [sum_mem]
  constructor
  · rintro ⟨y, hy, e⟩
    rw [List.mem_singleton.mp hy, Nat.xor_zero] at e
    exact e
  · exact fun e => ⟨0, List.mem_singleton.mpr rfl, by rw [Nat.xor_zero]; exact e⟩
theorem sum_len : ∀ (L F : List Nat), (L.foldl (fun F m => F ++ F.map (m ^^^ ·)) F).length = 2 ^ L.length * F.length
  | [], F => by simp
  | a :: L, F => by
    rw [List.foldl_cons, sum_len L, List.length_append, List.length_map, List.length_cons, Nat.pow_succ, Nat.mul_assoc]
    congr 1
    omega
theorem sumL_len (L : List Nat) : (sumL L).length = 2 ^ L.length := by
  unfold sumL
  rw [sum_len]
  simp
/-- all even lots -/
def evA (s : Sc) : List (List Nat) := (sumL ((lots (crM s)).map mk)).map itm
section
variable {s : Sc}
theorem lots_mk : ∀ q ∈ lotsK (crM s), q.2.1 ∈ (lots (crM s)).map mk := fun q hq => List.mem_map.mpr ⟨itm q.2.1, lots_mem.mpr ⟨q, hq, rfl⟩, mk_itm _⟩
theorem evA_x (h : ScOk s 15) {x : Nat} (hx : sp ((lots (crM s)).map mk) x = true) : x < 2 ^ s.ben.length ∧ evn s (itm x) := by
  have lt : x < 2 ^ s.ben.length := sp_lt (fun a ha => by
    obtain ⟨p, hp, rfl⟩ := List.mem_map.mp ha
    have := lots_lt' hp
    exact mk_lt (asc_nodup this.1) this.2) hx
  refine ⟨lt, ?_⟩
  have z : comb (crM s) x = 0 := sp_all (P := fun x => comb (crM s) x = 0) (comb_zero _) (fun a b ha hb => by rw [comb_xor, ha, hb]; rfl) (L := (lots (crM s)).map mk) (fun a ha => by
    obtain ⟨p, hp, rfl⟩ := List.mem_map.mp ha
    have l := lots_lt' hp
    rw [comb_items (crM s) (by rw [crM_len]; exact mk_lt (asc_nodup l.1) l.2), itm_mk l.1]
    exact (evn_is h l.2).mp (lots_evn h hp)) hx
  rw [evn_is h (itm_lt lt), ← comb_items (crM s) (by rw [crM_len]; exact lt)]
  exact z
theorem evA_mem (h : ScOk s 15) {p : List Nat} : p ∈ evA s ↔ (p.Pairwise (· < ·) ∧ ∀ b ∈ p, b < s.ben.length) ∧ evn s p := by
  constructor
  · intro hp
    obtain ⟨x, hx, rfl⟩ := List.mem_map.mp hp
    obtain ⟨lt, ev⟩ := evA_x h (sumL_mem.mp hx)
    exact ⟨⟨itm_asc x, itm_lt lt⟩, ev⟩
  · rintro ⟨⟨ha, hl⟩, he⟩
    refine List.mem_map.mpr ⟨mk p, sumL_mem.mpr ?_, itm_mk ha⟩
    have lt : mk p < 2 ^ s.ben.length := mk_lt (asc_nodup ha) hl
    have z : comb (crM s) (mk p) = 0 := by
      rw [comb_items (crM s) (by rw [crM_len]; exact lt), itm_mk ha]
      exact (evn_is h hl).mp he
    have := (Lots.of (crM s)).all (mk p) (by rw [crM_len]; exact lt) z
    refine sp_le (L := rows (lotsK (crM s))) (fun a ha => ?_) this
    obtain ⟨q, hq, rfl⟩ := List.mem_map.mp ha
    exact sp_mem (lots_mk q hq)
theorem evA_len : (evA s).length ≤ 2 ^ s.ben.length := by
  unfold evA
  rw [List.length_map, sumL_len, List.length_map]
  refine Nat.pow_le_pow_right (by decide) ?_
  have := lots_many (crM s)
  rw [crM_len] at this
  omega
/-- the odd lots -/
def odA (s : Sc) : List (List Nat) := (evA s).filter (miB s)
theorem odA_mem (h : ScOk s 15) {p : List Nat} : p ∈ odA s ↔ ((p.Pairwise (· < ·) ∧ ∀ b ∈ p, b < s.ben.length) ∧ evn s p) ∧ miB s p = true := by
  unfold odA
  rw [List.mem_filter, evA_mem h]
theorem odA_iff (h : ScOk s 15) : odA s = [] ↔ ¬ 1 ∈ (red (sgP s)).2 := by
  rw [sg_iff h]
  constructor
  · rintro e ⟨p, ha, hl, he, hm⟩
    have := (odA_mem h).mpr ⟨⟨⟨ha, hl⟩, he⟩, hm⟩
    rw [e] at this
    cases this
  · intro z
    cases e : odA s with
    | nil => rfl
    | cons p r =>
      have := (odA_mem (p := p) h).mp (by rw [e]; exact List.mem_cons_self)
      exact (z ⟨p, this.1.1.1, this.1.1.2, this.1.2, this.2⟩).elim
end
end DX
namespace DX
open PySem PySem.Spec PyProof.Rows L2 GF
def ce_sums_of_0 : Ev := eBin (dI0 fun i j => .int (Builtin.bitXor i j)) (eVar 2) (eVar 3)
def lb_sums_of_0 : Sv := sSet 1 (eBin dAdd (eVar 1) (eOfF (fLc (iSeq (eVar 1)) (tName 3) (tYesE) (ce_sums_of_0) [3])))
def b_sums_of : Sv := sSeq (sSet 1 (eLst (aCons (eC (.int 0)) (aNil)))) (sSeq (sFor (iSeq (eVar 0)) (tName 2) (lb_sums_of_0)) (sRet (eVar 1)))
abbrev m_sums_of : Fn := fnOf 4 (b_sums_of)
def ce_evens_all_0 : Ev := eFn 1 (m_mask_of) (aCons (eVar 2) (aNil))
def ce_evens_all_1 : Ev := eFn 1 (m_items_of) (aCons (eVar 1) (aNil))
def b_evens_all (V : Ax) : Sv := sRet (eOfF (fLc (iSeq (eFn 1 (m_sums_of) (aCons (eOfF (fLc (iSeq (eFn 1 (m_evens_of V) (aCons (eVar 0) (aNil)))) (tName 2) (tYesE) (ce_evens_all_0) [2])) (aNil)))) (tName 1) (tYesE) (ce_evens_all_1) [1]))
abbrev m_evens_all (V : Ax) : Fn := fnOf 3 (b_evens_all V)
def b_first_of : Sv := sRet (eIf (tCmpE (eEqC true (eVar 0) (eLst (aNil)))) (eMinLen (eVar 0)) (eC .non))
abbrev m_first_of : Fn := fnOf 1 (b_first_of)
def ci_odd_lot_for_0 (V : Ax) : EvT := tTru (eFn 2 (m_is_minus V) (aCons (eVar 0) (aCons (eVar 1) (aNil))))
def ce_odd_lot_for_0 : Ev := eVar 1
def b_odd_lot_for (V : Ax) : Sv := sRet (eFn 1 (m_first_of) (aCons (eOfF (fLc (iSeq (eFn 1 (m_evens_all V) (aCons (eVar 0) (aNil)))) (tName 1) ((ci_odd_lot_for_0 V)) (ce_odd_lot_for_0) [1])) (aNil)))
abbrev m_odd_lot_for (V : Ax) : Fn := fnOf 2 (b_odd_lot_for V)
def b_odd_lot_of (V : Ax) : Sv := sSeq (sExpr (eFn 1 (m_need_hall V) (aCons (eVar 0) (aNil)))) (sRet (eFn 1 (m_odd_lot_for V) (aCons (eVar 0) (aNil))))
abbrev m_odd_lot_of (V : Ax) : Fn := fnOf 1 (b_odd_lot_of V)
def lb_breaking_of_0 (V : Ax) : Sv := sSeq (sSet 5 (eBin dAdd (eCall (o1 dInt1) (aCons (eEqC false (eIx (eFn 1 (m_signs_of V) (aCons (eVar 0) (aNil))) (eVar 3)) (eUn dNeg (eC (.int 1)))) (aNil))) (eCall (o1 dInt1) (aCons (eBin dIn (eVar 3) (eVar 1)) (aNil))))) (sExpr (eMeth okLst oAppend (eVar 2) (aCons (eTup (aCons (eFn 1 (m_mask_of) (aCons (eVar 4) (aNil))) (aCons (eBin (dI cMod fun i j => .int (i % j)) (eBin dAdd (eCall oLen (aCons (eVar 4) (aNil))) (eVar 5)) (eC (.int 2))) (aNil)))) (aNil))))
def ce_breaking_of_0 : Ev := eIf (tCmpE (eEqC false (eBin (dI0 fun i j => .int (Builtin.bitAnd i j)) (eBin (dI cShr fun i j => .int (i / 2 ^ j.toNat)) (eVar 6) (eVar 7)) (eC (.int 1))) (eC (.int 1)))) (eC (.int 1)) (eUn dNeg (eC (.int 1)))
def b_breaking_of (V : Ax) : Sv := sSeq (sSet 2 (eCelF (fLst (aNil)))) (sSeq (sFor (iEnumT (aCons (eFn 1 (m_crews_of V) (aCons (eVar 0) (aNil))) (aNil))) (tTupG 2 (tgCons (tName 3) (tgCons (tName 4) (tgNil)))) ((lb_breaking_of_0 V))) (sSeq (sSet 6 (eFn 1 (m_solved) (aCons (eFrz (eVar 2)) (aNil)))) (sSeq (sIf (tCmpE (eBin dIs (eVar 6) (eC .non))) (sRet (eC .non)) (sNil)) (sRet (eCall (oSeq dTupOf .tup) (aCons (eOfF (fLc (iRg1 (aCons (eFld (V.A 52) "many" (eVar 0)) (aNil))) (tName 7) (tYesE) (ce_breaking_of_0) [7])) (aNil)))))))
abbrev m_breaking_of (V : Ax) : Fn := fnOf 8 (b_breaking_of V)
def b_signing_for (V : Ax) : Sv := sRet (eFn 2 (m_breaking_of V) (aCons (eVar 0) (aCons (eTup (aNil)) (aNil))))
abbrev m_signing_for (V : Ax) : Fn := fnOf 1 (b_signing_for V)
def b_signing_of (V : Ax) : Sv := sSeq (sExpr (eFn 1 (m_need_hall V) (aCons (eVar 0) (aNil)))) (sRet (eFn 1 (m_signing_for V) (aCons (eVar 0) (aNil))))
abbrev m_signing_of (V : Ax) : Fn := fnOf 1 (b_signing_of V)
def ce_signings_many_0 : Ev := eTup (aCons (eFn 1 (m_mask_of) (aCons (eVar 3) (aNil))) (aCons (eC (.int 0)) (aNil)))
def b_signings_many (V : Ax) : Sv := sSeq (sExpr (eFn 1 (m_need_hall V) (aCons (eVar 0) (aNil)))) (sSeq (sIf (tCmpE (eBin dIs (eFn 1 (m_signing_for V) (aCons (eVar 0) (aNil))) (eC .non))) (sRet (eC (.int 0))) (sNil)) (sSeq (sAsg (tTupG 2 (tgCons (tName 1) (tgCons (tName 2) (tgNil)))) (eFn 1 (m_reduced) (aCons (eOfF (fLc (iSeq (eFn 1 (m_crews_of V) (aCons (eVar 0) (aNil)))) (tName 3) (tYesE) (ce_signings_many_0) [3])) (aNil)))) (sRet (eBin (dI cPow fun i j => .int (i * 2 ^ j.toNat)) (eC (.int 1)) (eBin (dI0 fun i j => .int (i - j)) (eFld (V.A 52) "many" (eVar 0)) (eCall oLen (aCons (eVar 1) (aNil))))))))
abbrev m_signings_many (V : Ax) : Fn := fnOf 4 (b_signings_many V)
def tagL (s : Sc) (lot : List Nat) (b : Nat) : Nat := ((crw s b).length + ((if neg1 s b = true then 1 else 0) + (if b ∈ lot then 1 else 0))) % 2
/-- the signs of a lot turned -/
def scL (s : Sc) (lot : List Nat) : Sc := ⟨s.many, (List.range s.ben.length).map fun b => (if b ∈ lot then -(s.ben.getD b b00).1 else (s.ben.getD b b00).1, crw s b)⟩
def sgL (s : Sc) (lot : List Nat) : List (Nat × Nat) := (List.range s.ben.length).map fun b => (mk (crw s b), tagL s lot b)
section
variable {s : Sc}
theorem scL_nil : scL s [] = s := by
  unfold scL
  have e : (List.range s.ben.length).map (fun b => (if b ∈ ([] : List Nat) then -(s.ben.getD b b00).1 else (s.ben.getD b b00).1, crw s b)) = s.ben := by
    have := range_getD b00 (fun b : Int × List Nat => b) s.ben
    rw [List.map_id'] at this
    refine Eq.trans (List.map_congr_left fun b _ => ?_) this
    rw [if_neg (by simp)]
  rw [e]
theorem scL_len (lot : List Nat) : (scL s lot).ben.length = s.ben.length := by
  unfold scL
  rw [List.length_map, List.length_range]
theorem scL_ok {N : Nat} (h : ScOk s N) (lot : List Nat) : ScOk (scL s lot) N := by
  refine ⟨h.one, h.top, by rw [scL_len]; exact h.few, fun b hb => ?_⟩
  unfold scL at hb
  obtain ⟨i, hi, rfl⟩ := List.mem_map.mp hb
  have hi := List.mem_range.mp hi
  have m : s.ben.getD i b00 ∈ s.ben := by
    rw [List.getD_eq_getElem?_getD, List.getElem?_eq_getElem hi]
    exact List.getElem_mem hi
  obtain ⟨g1, g2⟩ := h.ben _ m
  refine ⟨?_, g2⟩
  show Sg (if i ∈ lot then -(s.ben.getD i b00).1 else (s.ben.getD i b00).1)
  split
  · rcases g1 with e | e <;> rw [e]
    · exact .inr rfl
    · exact .inl rfl
  · exact g1
theorem sgL_is (h : ScOk s 15) (lot : List Nat) : sgL s lot = sgP (scL s lot) := by
  unfold sgL sgP scL
  rw [List.map_map]
  refine List.map_congr_left fun b hb => ?_
  have hb := List.mem_range.mp hb
  have m : s.ben.getD b b00 ∈ s.ben := by
    rw [List.getD_eq_getElem?_getD, List.getElem?_eq_getElem hb]
    exact List.getElem_mem hb
  have g1 := (h.ben _ m).1
  show (mk (crw s b), tagL s lot b) = (mk (crw s b), tagB (if b ∈ lot then -(s.ben.getD b b00).1 else (s.ben.getD b b00).1, crw s b))
  refine congrArg _ ?_
  unfold tagL tagB neg1
  dsimp only
  rcases g1 with e | e <;> rw [e] <;> by_cases z : b ∈ lot
  · rw [if_pos z, if_pos z]; simp
  · rw [if_neg z, if_neg z]; simp
  · rw [if_pos z, if_pos z]; simp
  · rw [if_neg z, if_neg z]; simp
end
section
variable {V : Ax} {s : Sc} {cs : List Cell}
abbrev BR (V : Ax) (s : Sc) (lot : List Nat) (K : Nat) (a3 a4 a5 : Option Wv) : En := [some (.dat (halD V s)), some (.dat (iD lot)), some (.cel K), a3, a4, a5, none, none]
theorem br_step (h : ScOk s 15) {lot : List Nat} {b : Nat} (hb : b < s.ben.length) {K : Nat} {l : List (Nat × Nat)} (ll : l.length ≤ 100) (hK : cs[K]? = some (.lst ((l.map prD).map .dat))) {a5 : Option Wv} :
    ∃ b5, lb_breaking_of_0 V (BR V s lot K (some (.dat (nD b))) (some (.dat (iD (crw s b)))) a5) cs = .ok (.nx (BR V s lot K (some (.dat (nD b))) (some (.dat (iD (crw s b)))) b5)) (cs.set K (.lst (((l ++ [(mk (crw s b), tagL s lot b)]).map prD).map .dat))) := by
  obtain ⟨a1, a2, a3, a4⟩ := crw_ok h hb
  have top := h.top
  have q1 := r_signs_of (V := V) (s := s) (cs := cs) h.few
  have x1 := sgn_at hb
  have ne : eqC false (.dat (.int (s.ben.getD b b00).1)) (.dat (.int (-1))) cs = some (.bl (neg1 s b)) := rfl
  have inb := in_nat b lot
  have mq := r_mask (l := crw s b) (w := .dat (iD (crw s b))) (cs := cs) (.inr rfl) (fun i hi => by have := a4 i hi; omega) (by omega)
  have ln : dLen (iD (crw s b)) = some (.int ((crw s b).length : Nat)) := by
    show some (Dt.int (((crw s b).map nD).length : Nat)) = _
    rw [List.length_map]
  have sm : dAdd (.int (if neg1 s b = true then 1 else 0)) (.int (if decide (b ∈ lot) = true then 1 else 0)) = some (.int ((if neg1 s b = true then 1 else 0) + (if decide (b ∈ lot) = true then 1 else 0))) := rfl
  have sm2 : ∀ x : Int, dAdd (.int ((crw s b).length : Nat)) (.int x) = some (.int ((crw s b).length + x)) := fun _ => rfl
  have tg : (((crw s b).length : Int) + ((if neg1 s b = true then 1 else 0) + (if decide (b ∈ lot) = true then 1 else 0))) % 2 = ((tagL s lot b : Nat) : Int) := by
    unfold tagL
    cases neg1 s b <;> by_cases z : b ∈ lot <;> simp [z] <;> omega
  have ap := append_of (u := .dat (prD (mk (crw s b), tagL s lot b))) hK (by rw [List.length_map, List.length_map]; omega)
  have e8 : (l.map prD).map Wv.dat ++ [.dat (prD (mk (crw s b), tagL s lot b))] = ((l ++ [(mk (crw s b), tagL s lot b)]).map prD).map Wv.dat := by rw [List.map_append, List.map_append]; rfl
  rw [e8] at ap
  have ok1 : okLst (.cel K) cs = true := ok_lst hK
  have ap : oAppend (.cel K) [.dat (.tup [nD (mk (crw s b)), .int ((tagL s lot b : Nat) : Int)])] cs = .ok (.dat .non) (cs.set K (.lst (((l ++ [(mk (crw s b), tagL s lot b)]).map prD).map .dat))) := ap
  have x1 : dIx (.lst (s.ben.map fun b => .int b.1)) (nD b) = some (.int (s.ben.getD b b00).1) := x1
  refine ⟨some (.dat (.int ((if neg1 s b = true then 1 else 0) + (if decide (b ∈ lot) = true then 1 else 0)))), ?_⟩
  simp only [neg1, decide_eq_true_eq] at tg
  unfold BR
  k_state0 [lb_breaking_of_0, q1, x1, dNeg1, ne, inb, mq, ln, sm2, tg, ok1, ap, -dk_app, -ix_l]
/-- the signs told, by the figures of a number -/
def sgT (n m : Nat) : List Int := (List.range n).map fun t => if m.testBit t = true then 1 else -1
def brD (s : Sc) (lot : List Nat) : Dt := if 1 ∈ (red (sgP (scL s lot))).2 then .non else .tup ((sgT s.many (svM (sgP (scL s lot)))).map Dt.int)
theorem sgP_lt (h : ScOk s 15) : ∀ p ∈ sgP s, p.1 < 2 ^ s.many := fun p hp => by
  obtain ⟨b, hb, rfl⟩ := List.mem_map.mp hp
  obtain ⟨_, g2, _, _, g5⟩ := h.ben b hb
  exact mk_lt (asc_nodup g2) g5
theorem r_breaking_of (h : ScOk s 15) (lot : List Nat) : ∃ ys, m_breaking_of V [.dat (halD V s), .dat (iD lot)] cs = .ok (.dat (brD s lot)) (cs ++ ys) := by
  have few := h.few
  have top := h.top
  have q0 := r_crews_of (V := V) (s := s) (cs := cs ++ [.lst []]) few
  obtain ⟨env4, c4, e4, ⟨a3, a4, a5, rfl⟩, rfl⟩ := ls_all (t := tTupG 2 (tgCons (tName 3) (tgCons (tName 4) (tgNil)))) (b := lb_breaking_of_0 V) (fun b : Nat => Wv.dat (.tup [.int (b : Nat), crD (s.ben.getD b b00)]))
    (fun pr env d => (∃ a3 a4 a5 : Option Wv, env = BR V s lot cs.length a3 a4 a5) ∧ d = cs ++ [.lst (((pr.map fun b => (mk (crw s b), tagL s lot b)).map prD).map .dat)]) (List.range s.ben.length)
    (env := BR V s lot cs.length none none none) (cs := cs ++ [.lst []])
    (fun pr b post env d he ⟨⟨a3, a4, a5, h1⟩, h2⟩ => by
      subst h1 h2
      obtain ⟨hb, prl, _⟩ := pre_lt he
      obtain ⟨b5, q⟩ := br_step (V := V) (cs := cs ++ [.lst (((pr.map fun b => (mk (crw s b), tagL s lot b)).map prD).map .dat)]) h hb (lot := lot) (K := cs.length) (l := pr.map fun b => (mk (crw s b), tagL s lot b)) (by rw [List.length_map]; omega) dk_last (a5 := a5)
      refine ⟨_, _, _, rfl, .inl q, ⟨_, _, _, rfl⟩, ?_⟩
      rw [dk_setl]
      simp only [List.map_append, List.map_cons, List.map_nil])
    ⟨⟨none, none, none, rfl⟩, rfl⟩
  have en : ∀ c, asEnumT [.dat (.lst (s.ben.map crD))] c = .ok ((List.range s.ben.length).map fun b : Nat => Wv.dat (.tup [.int (b : Nat), crD (s.ben.getD b b00)])) c := fun c => by
    have z : asEnumT [.dat (.lst (s.ben.map crD))] c = .ok (enumW (s.ben.map crD)) c := rfl
    rw [z, enum_rng crD b00]
  have eP : ((List.range s.ben.length).map fun b => (mk (crw s b), tagL s lot b)) = sgL s lot := rfl
  rw [eP] at e4
  have gK : (cs ++ [Cell.lst (((sgL s lot).map prD).map .dat)])[cs.length]? = some (.lst (((sgL s lot).map prD).map .dat)) := dk_last
  have fz := frzc_of gK (dats_mapd ((sgL s lot).map prD))
  rw [dk_setl] at fz
  have lP : (sgL s lot).length = s.ben.length := by unfold sgL; rw [List.length_map, List.length_range]
  have ep := sgL_is h lot
  have sv := r_solved (ps := sgL s lot) (N := s.many) (cs := cs ++ [.dead]) (Nat.lt_of_le_of_lt (rk_len _) (by rw [List.length_map, lP]; omega)) (by rw [lP]; omega) (fun p hp => by
    rw [ep] at hp
    exact sgP_lt (scL_ok h lot) p hp) (by omega)
  obtain ⟨y5, hy5⟩ : ∃ y5, y5 = [Cell.dic (dicK (red (sgL s lot)).1), .dead] := ⟨_, rfl⟩
  rw [← hy5, ep] at sv
  rw [ep] at e4 fz
  have fm := fun c => fld_many (V := V) (s := s) (cs := c)
  by_cases h1 : 1 ∈ (red (sgP (scL s lot))).2
  · rw [if_pos h1] at sv
    refine ⟨[.dead] ++ y5, fn_ev ?_⟩
    rw [← List.append_assoc]
    unfold brD
    rw [if_pos h1]
    unfold BR at e4
    k_state0 [b_breaking_of, start_cons, start_nil, repl_S, repl_0, q0, s_enumT, en, e4, fz, sv, (show dIs .non .non = some (.bl true) from rfl), -dk_frz, -k_frzT]
  · rw [if_neg h1] at sv
    obtain ⟨m, hm⟩ : ∃ m, m = svM (sgP (scL s lot)) := ⟨_, rfl⟩
    rw [← hm] at sv
    obtain ⟨c5, hc5⟩ : ∃ c5, c5 = cs ++ [Cell.dead] ++ y5 := ⟨_, rfl⟩
    rw [← hc5] at sv
    have lm := lc_map (t := tName 7) (f := ce_breaking_of_0) (env := [some (.dat (halD V s)), some (.dat (iD lot)), some (.cel cs.length), a3, a4, a5, some (.dat (nD m)), none]) (cs := c5) (fun t : Nat => Wv.dat (nD t)) (fun t => Dt.int (if m.testBit t = true then 1 else -1)) (List.range s.many) (fun t ht => by
      have ht := List.mem_range.mp ht
      refine ⟨_, rfl, ?_⟩
      cases hb : m.testBit t with
      | true =>
        have e2 := tb_t hb
        unfold nD
        k_state0 [ce_breaking_of_0, e2]
      | false =>
        have e2 := tb_f hb
        unfold nD
        k_state0 [ce_breaking_of_0, e2, dNeg1])
    have rg : rangeW 0 s.many = (List.range s.many).map fun t : Nat => Wv.dat (nD t) := by
      rw [rangeW_is]
      refine List.map_congr_left fun i _ => ?_
      unfold nD
      rw [Int.zero_add]
    rw [← rg] at lm
    have zr : (rangeW 0 s.many).length ≤ 16777216 := by rw [rg, List.length_map, List.length_range]; omega
    refine ⟨[.dead] ++ y5, fn_ev ?_⟩
    rw [← List.append_assoc, ← hc5]
    unfold brD
    rw [if_neg h1, ← hm]
    unfold BR at e4
    have e9 : (List.range s.many).map (fun t => Dt.int (if m.testBit t = true then 1 else -1)) = (sgT s.many m).map Dt.int := by
      unfold sgT
      rw [List.map_map]
      rfl
    rw [e9] at lm
    k_state0 [b_breaking_of, start_cons, start_nil, repl_S, repl_0, q0, s_enumT, en, e4, fz, sv, (show dIs (nD m) .non = some (.bl false) from rfl), fm, wipe_nil, wipe_cons, lm, k_lc zr, dats_mapd, -dk_frz, -k_frzT, -k_lc]
def siD (s : Sc) : Dt := if 1 ∈ (red (sgP s)).2 then .non else .tup ((sgT s.many (svM (sgP s))).map Dt.int)
theorem r_signing_for (h : ScOk s 15) : ∃ ys, m_signing_for V [.dat (halD V s)] cs = .ok (.dat (siD s)) (cs ++ ys) := by
  obtain ⟨ys, q⟩ := r_breaking_of (V := V) (cs := cs) h []
  have e : brD s [] = siD s := by unfold brD siD; rw [scL_nil]
  rw [e] at q
  have q : m_breaking_of V [.dat (halD V s), .dat (.tup [])] cs = .ok (.dat (siD s)) (cs ++ ys) := q
  refine ⟨ys, fn_ev ?_⟩
  k_state0 [b_signing_for, start_cons, start_nil, repl_S, repl_0, q]
theorem r_signing_of (H : HallK V) (h : ScOk s 15) : ∃ ys, m_signing_of V [.dat (halD V s)] cs = .ok (.dat (siD s)) (cs ++ ys) := by
  have q1 := r_need_hall (V := V) (s := s) (cs := cs) H
  obtain ⟨ys, q⟩ := r_signing_for (V := V) (cs := cs) h
  refine ⟨ys, fn_ev ?_⟩
  k_state0 [b_signing_of, start_cons, start_nil, repl_S, repl_0, q1, q]
def manyS (s : Sc) : Nat := if 1 ∈ (red (sgP s)).2 then 0 else 2 ^ (s.many - rk (crM s))
theorem rk_many (h : ScOk s 15) : rk (crM s) ≤ s.many := rk_top fun a ha => by
  obtain ⟨b, hb, rfl⟩ := List.mem_map.mp ha
  obtain ⟨_, g2, _, _, g5⟩ := h.ben b hb
  exact mk_lt (asc_nodup g2) g5
theorem r_signings_many (H : HallK V) (h : ScOk s 15) : ∃ ys, m_signings_many V [.dat (halD V s)] cs = .ok (.dat (nD (manyS s))) (cs ++ ys) := by
  have few := h.few
  have top := h.top
  have q1 := r_need_hall (V := V) (s := s) (cs := cs) H
  obtain ⟨ys, q2⟩ := r_signing_for (V := V) (cs := cs) h
  unfold manyS
  unfold siD at q2
  by_cases h1 : 1 ∈ (red (sgP s)).2
  · rw [if_pos h1] at q2 ⊢
    refine ⟨ys, fn_ev ?_⟩
    k_state0 [b_signings_many, start_cons, start_nil, repl_S, repl_0, q1, q2, (show dIs .non .non = some (.bl true) from rfl)]
    rfl
  · rw [if_neg h1] at q2 ⊢
    obtain ⟨c1, hc1⟩ : ∃ c1, c1 = cs ++ ys := ⟨_, rfl⟩
    rw [← hc1] at q2
    obtain ⟨L, hL⟩ : ∃ L, L = (sgT s.many (svM (sgP s))).map Dt.int := ⟨_, rfl⟩
    rw [← hL] at q2
    have q3 := r_crews_of (V := V) (s := s) (cs := c1) few
    have lm := lc_mapD (t := tName 3) (f := ce_signings_many_0) (env := [some (.dat (halD V s)), none, none, none]) (cs := c1) crD (fun b => prD (mk b.2, 0)) s.ben (fun b hb => by
      obtain ⟨z1, z2, z3, z4, z5⟩ := h.ben b hb
      have q := r_mask (l := b.2) (w := .dat (.tup (b.2.map nD))) (cs := c1) (.inr rfl) (fun i hi => by have := z5 i hi; omega) (by omega)
      refine ⟨_, rfl, ?_⟩
      unfold crD iD
      k_state0 [ce_signings_many_0, q]
      rfl)
    obtain ⟨R, hR⟩ : ∃ R : List (Nat × Nat), R = s.ben.map fun b => (mk b.2, 0) := ⟨_, rfl⟩
    have e1 : (s.ben.map fun b => prD (mk b.2, 0)) = R.map prD := by rw [hR, List.map_map]; rfl
    rw [e1] at lm
    have eR : R.map (·.1) = crM s := by rw [hR, List.map_map]; rfl
    have lR : R.length = s.ben.length := by rw [hR, List.length_map]
    have q4 := r_reduced (ps := R) (cs := c1) (by omega)
    obtain ⟨c2, hc2⟩ : ∃ c2, c2 = c1 ++ [Cell.dic (dicK (red R).1), .dead] := ⟨_, rfl⟩
    rw [← hc2] at q4
    have ol : (outK (red R).1).length = rk (crM s) := by rw [outK_len, red_rank, eR]
    have lz : ((s.ben.map crD).map Wv.dat).length ≤ 16777216 := by rw [List.length_map, List.length_map]; omega
    have asC : ∀ c, asSeq (.dat (.lst (s.ben.map crD))) c = .ok ((s.ben.map crD).map Wv.dat) c := fun _ => rfl
    have ln : dLen (.lst ((outK (red R).1).map prD)) = some (.int (rk (crM s) : Nat)) := by
      show some (Dt.int (((outK (red R).1).map prD).length : Nat)) = _
      rw [List.length_map, ol]
    have fm := fun c => fld_many (V := V) (s := s) (cs := c)
    have rm := rk_many h
    have sb : ((s.many : Nat) : Int) - ((rk (crM s) : Nat) : Int) = ((s.many - rk (crM s) : Nat) : Int) := by omega
    have ks := k_shl (n := s.many - rk (crM s)) (by omega)
    refine ⟨ys ++ [Cell.dic (dicK (red R).1), .dead], fn_ev ?_⟩
    rw [← List.append_assoc, ← hc1, ← hc2]
    k_state0 [b_signings_many, start_cons, start_nil, repl_S, repl_0, q1, q2, (show dIs (.tup L) .non = some (.bl false) from rfl), q3, asC, wipe_nil, wipe_cons, k_lc lz, lm, dats_mapd, q4, fm, ln, sb, ks, -k_lc]
    rfl
/-- all sums of rows, read -/
theorem sums_loop {x : Dt} : ∀ (L F : List Nat) (a2 a3 : Option Wv), F.length * 2 ^ L.length ≤ 100000 → (∀ m ∈ L, m < 2 ^ 60) →
    ∃ b2 b3, loopS (tName 2) lb_sums_of_0 (L.map fun m => Wv.dat (nD m)) [some (.dat x), some (.dat (.lst (F.map nD))), a2, a3] cs = .ok (.nx [some (.dat x), some (.dat (.lst ((L.foldl (fun F m => F ++ F.map (m ^^^ ·)) F).map nD))), b2, b3]) cs
  | [], F, a2, a3, _, _ => ⟨a2, a3, rfl⟩
  | m :: L, F, a2, a3, hF, hL => by
    have hF2 : F.length * (2 ^ L.length * 2) ≤ 100000 := by rw [List.length_cons, Nat.pow_succ] at hF; exact hF
    have pp : 1 ≤ 2 ^ L.length := Nat.one_le_two_pow
    have hF3 : F.length * 1 ≤ F.length * (2 ^ L.length * 2) := Nat.mul_le_mul (Nat.le_refl _) (by omega)
    have lm := lc_mapD (t := tName 3) (f := ce_sums_of_0) (env := [some (.dat x), some (.dat (.lst (F.map nD))), some (.dat (nD m)), none]) (cs := cs) nD (fun y => nD (m ^^^ y)) F (fun y hy => by
      have e := o_xor (i := m) (j := y)
      refine ⟨_, rfl, ?_⟩
      unfold nD
      k_state0 [ce_sums_of_0, bitXor_nat])
    have e1 : (F.map fun y => nD (m ^^^ y)) = (F.map (m ^^^ ·)).map nD := by rw [List.map_map]; rfl
    rw [e1] at lm
    have asF : ∀ c, asSeq (.dat (.lst (F.map nD))) c = .ok ((F.map nD).map Wv.dat) c := fun _ => rfl
    have lz : ((F.map nD).map Wv.dat).length ≤ 16777216 := by rw [List.length_map, List.length_map]; omega
    have ad : dAdd (.lst (F.map nD)) (.lst ((F.map (m ^^^ ·)).map nD)) = some (.lst ((F ++ F.map (m ^^^ ·)).map nD)) := by
      rw [d_addL (by rw [List.length_map, List.length_map, List.length_map]; omega), List.map_append]
    have b1 : lb_sums_of_0 [some (.dat x), some (.dat (.lst (F.map nD))), some (.dat (nD m)), a3] cs = .ok (.nx [some (.dat x), some (.dat (.lst ((F ++ F.map (m ^^^ ·)).map nD))), some (.dat (nD m)), a3]) cs := by
      k_state0 [lb_sums_of_0, asF, wipe_nil, wipe_cons, k_lc lz, lm, dats_mapd, ad, -k_lc]
    obtain ⟨b2, b3, q⟩ := sums_loop L (F ++ F.map (m ^^^ ·)) (some (.dat (nD m))) a3 (by
      rw [List.length_append, List.length_map]
      have : (F.length + F.length) * 2 ^ L.length = F.length * (2 ^ L.length * 2) := by rw [← Nat.two_mul, Nat.mul_comm 2, Nat.mul_assoc, Nat.mul_comm 2]
      omega) fun k hk => hL k (List.mem_cons_of_mem _ hk)
    refine ⟨b2, b3, ?_⟩
    rw [List.map_cons, loopS, mb]
    k_state0 [mb, b1]
    exact q
theorem r_sums_of {L : List Nat} (lL : L.length ≤ 14) (hL : ∀ m ∈ L, m < 2 ^ 60) : m_sums_of [.dat (.lst (L.map nD))] cs = .ok (.dat (.lst ((sumL L).map nD))) cs := by
  obtain ⟨b2, b3, q⟩ := sums_loop (cs := cs) (x := .lst (L.map nD)) L [0] none none (by
    have : 2 ^ L.length ≤ 2 ^ 14 := Nat.pow_le_pow_right (by decide) lL
    rw [List.length_singleton, Nat.one_mul]
    exact Nat.le_trans this (by decide)) hL
  have f0 : (L.map fun m => Wv.dat (nD m)) = (L.map nD).map Wv.dat := by rw [List.map_map]; rfl
  rw [f0] at q
  have q : loopS (tName 2) lb_sums_of_0 ((L.map nD).map Wv.dat) [some (.dat (.lst (L.map nD))), some (.dat (.lst [.int 0])), none, none] cs = .ok (.nx [some (.dat (.lst (L.map nD))), some (.dat (.lst ((sumL L).map nD))), b2, b3]) cs := q
  have asL : ∀ c, asSeq (.dat (.lst (L.map nD))) c = .ok ((L.map nD).map Wv.dat) c := fun _ => rfl
  refine fn_ev ?_
  k_state0 [b_sums_of, start_cons, start_nil, repl_S, repl_0, asL, q]
theorem r_evens_all (h : ScOk s 15) : ∃ ys, m_evens_all V [.dat (halD V s)] cs = .ok (.dat (.lst ((evA s).map iD))) (cs ++ ys) := by
  have few := h.few
  obtain ⟨ys, q1⟩ := r_evens_of (V := V) (cs := cs) h
  obtain ⟨c1, hc1⟩ : ∃ c1, c1 = cs ++ ys := ⟨_, rfl⟩
  rw [← hc1] at q1
  obtain ⟨P, hP⟩ : ∃ P, P = lots (crM s) := ⟨_, rfl⟩
  have lP : P.length ≤ 12 := by
    rw [hP]
    have := lots_many (crM s)
    rw [crM_len] at this
    omega
  have ok : ∀ p ∈ P, p.Pairwise (· < ·) ∧ ∀ b ∈ p, b < s.ben.length := fun p hp => lots_lt' (hP ▸ hp)
  have lm := lc_mapD (t := tName 2) (f := ce_evens_all_0) (env := [some (.dat (halD V s)), none, none]) (cs := c1) iD (fun p => nD (mk p)) P (fun p hp => by
    have o := ok p hp
    have q := r_mask (l := p) (w := .dat (iD p)) (cs := c1) (.inr rfl) (fun i hi => by have := o.2 i hi; omega) (by have := nat_many (asc_nodup o.1) o.2; omega)
    refine ⟨_, rfl, ?_⟩
    k_state0 [ce_evens_all_0, q])
  have e1 : (P.map fun p => nD (mk p)) = (P.map mk).map nD := by rw [List.map_map]; rfl
  rw [e1] at lm
  have q2 := r_sums_of (cs := c1) (L := P.map mk) (by rw [List.length_map]; omega) (fun m hm => by
    obtain ⟨p, hp, rfl⟩ := List.mem_map.mp hm
    exact Nat.lt_of_lt_of_le (mk_lt (asc_nodup (ok p hp).1) (ok p hp).2) (Nat.pow_le_pow_right (by decide) (by omega)))
  have lS : (sumL (P.map mk)).length ≤ 4096 := by
    rw [sumL_len, List.length_map]
    exact Nat.le_trans (Nat.pow_le_pow_right (by decide) lP) (by decide)
  have lm2 := lc_mapD (t := tName 1) (f := ce_evens_all_1) (env := [some (.dat (halD V s)), none, none]) (cs := c1) nD (fun m => iD (itm m)) (sumL (P.map mk)) (fun m hm => by
    have lt := (evA_x (s := s) h (x := m) (by rw [← hP]; exact sumL_mem.mp hm)).1
    have q := r_items (m := m) (cs := c1) (Nat.lt_of_lt_of_le lt (Nat.pow_le_pow_right (by decide) (by omega)))
    refine ⟨_, rfl, ?_⟩
    k_state0 [ce_evens_all_1, q])
  have e2 : ((sumL (P.map mk)).map fun m => iD (itm m)) = (evA s).map iD := by unfold evA; rw [← hP, List.map_map]; rfl
  rw [e2] at lm2
  rw [← hP] at q1
  have as1 : ∀ c, asSeq (.dat (.lst (P.map iD))) c = .ok ((P.map iD).map Wv.dat) c := fun _ => rfl
  have as2 : ∀ c, asSeq (.dat (.lst ((sumL (P.map mk)).map nD))) c = .ok (((sumL (P.map mk)).map nD).map Wv.dat) c := fun _ => rfl
  have lz1 : ((P.map iD).map Wv.dat).length ≤ 16777216 := by rw [List.length_map, List.length_map]; omega
  have lz2 : (((sumL (P.map mk)).map nD).map Wv.dat).length ≤ 16777216 := by rw [List.length_map, List.length_map]; omega
  refine ⟨ys, fn_ev ?_⟩
  rw [← hc1]
  k_state0 [b_evens_all, start_cons, start_nil, repl_S, repl_0, q1, as1, wipe_nil, wipe_cons, k_lc lz1, lm, dats_mapd, q2, as2, k_lc lz2, lm2, -k_lc]
/-- the first of some lots -/
def fsL (L : List (List Nat)) : List Nat := L.getD (minLenI (L.map zL)) []
def fsD (L : List (List Nat)) : Dt := if L = [] then .non else iD (fsL L)
theorem ne_lots (L : List (List Nat)) (cs : List Cell) : eqC true (.dat (.lst (L.map iD))) (.dat (.lst [])) cs = some (.bl (!decide (L = []))) := eq_dat (EqD.lst (EqD.tup EqD.nat)) (by decide) true L [] cs
theorem min_lots {L : List (List Nat)} (h : L ≠ []) : mMinLen (.dat (.lst (L.map iD))) cs = .ok (.dat (iD (fsL L))) cs := by
  obtain ⟨p, r, rfl⟩ : ∃ p r, L = p :: r := by
    cases L with
    | nil => exact absurd rfl h
    | cons p r => exact ⟨p, r, rfl⟩
  unfold mMinLen
  dsimp only
  rw [tups_z]
  show R.ok (Wv.dat (DX.tupI (((p :: r).map zL).getD (minLenI ((p :: r).map zL)) []))) cs = _
  refine congrArg (fun d => R.ok (Wv.dat d) cs) ?_
  unfold fsL
  rw [iD_tup]
  refine congrArg _ ?_
  rw [List.map_cons, List.getD_eq_getElem?_getD, List.getD_eq_getElem?_getD, ← List.map_cons, List.getElem?_map]
  cases (p :: r)[minLenI ((p :: r).map zL)]? <;> rfl
theorem k_min (f : Ev) (env : En) (cs : List Cell) : eMinLen f env cs = rb (f env cs) mMinLen := mb _ _ _
theorem r_first_of (L : List (List Nat)) : m_first_of [.dat (.lst (L.map iD))] cs = .ok (.dat (fsD L)) cs := by
  have ne := ne_lots L cs
  unfold fsD
  by_cases h : L = []
  · rw [if_pos h]
    rw [decide_eq_true h] at ne
    refine fn_ev ?_
    k_state0 [b_first_of, start_cons, start_nil, repl_S, repl_0, ne]
  · rw [if_neg h]
    rw [decide_eq_false h] at ne
    have q := min_lots (cs := cs) h
    refine fn_ev ?_
    k_state0 [b_first_of, start_cons, start_nil, repl_S, repl_0, ne, k_min, q]
theorem fsL_mem {L : List (List Nat)} (h : L ≠ []) : fsL L ∈ L := by
  have lt : minLenI (L.map zL) < L.length := by
    have := argBest_le (bt := btW (L.map zL)) ((L.map zL).length - 1)
    have pos := List.length_pos_iff.mpr h
    unfold minLenI
    rw [List.length_map] at this ⊢
    omega
  unfold fsL
  rw [List.getD_eq_getElem?_getD, List.getElem?_eq_getElem lt]
  exact List.getElem_mem lt
theorem r_odd_lot_for (h : ScOk s 15) : ∃ ys, m_odd_lot_for V [.dat (halD V s)] cs = .ok (.dat (fsD (odA s))) (cs ++ ys) := by
  have few := h.few
  obtain ⟨ys, q1⟩ := r_evens_all (V := V) (cs := cs) h
  obtain ⟨c1, hc1⟩ : ∃ c1, c1 = cs ++ ys := ⟨_, rfl⟩
  rw [← hc1] at q1
  have lf := lc_filterD (t := tName 1) (p := ci_odd_lot_for_0 V) (f := ce_odd_lot_for_0) (env := [some (.dat (halD V s)), none]) (cs := c1) iD iD (miB s) (evA s) (fun p hp => by
    have o := ((evA_mem h).mp hp).1
    have q := r_is_minus (V := V) (s := s) (cs := c1) few o.2 (by have := nat_many (asc_nodup o.1) o.2; omega)
    refine ⟨_, rfl, ?_, fun _ => ?_⟩
    · k_state0 [ci_odd_lot_for_0, q]
    · k_state0 [ce_odd_lot_for_0])
  have as1 : ∀ c, asSeq (.dat (.lst ((evA s).map iD))) c = .ok (((evA s).map iD).map Wv.dat) c := fun _ => rfl
  have le : (evA s).length ≤ 4096 := Nat.le_trans evA_len (Nat.le_trans (Nat.pow_le_pow_right (by decide) few) (by decide))
  have lz1 : (((evA s).map iD).map Wv.dat).length ≤ 16777216 := by rw [List.length_map, List.length_map]; omega
  have eO : (evA s).filter (miB s) = odA s := rfl
  rw [eO] at lf
  have q2 := r_first_of (cs := c1) (odA s)
  refine ⟨ys, fn_ev ?_⟩
  rw [← hc1]
  k_state0 [b_odd_lot_for, start_cons, start_nil, repl_S, repl_0, q1, as1, wipe_nil, wipe_cons, k_lc lz1, lf, dats_mapd, q2, -k_lc]
theorem r_odd_lot_of (H : HallK V) (h : ScOk s 15) : ∃ ys, m_odd_lot_of V [.dat (halD V s)] cs = .ok (.dat (fsD (odA s))) (cs ++ ys) := by
  have q1 := r_need_hall (V := V) (s := s) (cs := cs) H
  obtain ⟨ys, q⟩ := r_odd_lot_for (V := V) (cs := cs) h
  refine ⟨ys, fn_ev ?_⟩
  k_state0 [b_odd_lot_of, start_cons, start_nil, repl_S, repl_0, q1, q]
end
end DX
namespace DX
open PySem PySem.Spec PyProof.Rows L2 GF
def ce__law_drawn_signs_0 : Ev := eFn 2 (m__law_pick) (aCons (eVar 0) (aCons (eLst (aCons (eC (.int 1)) (aCons (eUn dNeg (eC (.int 1))) (aNil)))) (aNil)))
def b__law_drawn_signs : Sv := sRet (eCall (oSeq dTupOf .tup) (aCons (eOfF (fLc (iRg1 (aCons (eVar 1) (aNil))) (tName 2) (tYesE) (ce__law_drawn_signs_0) [2])) (aNil)))
abbrev m__law_drawn_signs : Fn := fnOf 3 (b__law_drawn_signs)
def ci__law_signs_of_0 : EvT := tCmpE (eEqC false (eIx (eVar 1) (eVar 6)) (eUn dNeg (eC (.int 1))))
def ce__law_signs_of_0 : Ev := eC (.int 1)
def lb__law_signs_of_0 : Sv := sSeq (sSet 5 (eOfF (fLc (iSeq (eVar 4)) (tName 6) (ci__law_signs_of_0) (ce__law_signs_of_0) [6]))) (sExpr (eMeth okLst oAppend (eVar 2) (aCons (eEqC false (eEqC false (eBin (dI cMod fun i j => .int (i % j)) (eCall (o1 dInt1) (aCons (eCall oLen (aCons (eVar 5) (aNil))) (aNil))) (eC (.int 2))) (eC (.int 1))) (eEqC false (eVar 3) (eUn dNeg (eC (.int 1))))) (aNil))))
def b__law_signs_of : Sv := sSeq (sSet 2 (eCelF (fLst (aNil)))) (sSeq (sFor (iSeq (eIx (eVar 0) (eC (.str "benches")))) (tTupG 2 (tgCons (tName 3) (tgCons (tName 4) (tgNil)))) (lb__law_signs_of_0)) (sRet (eFrz (eVar 2))))
abbrev m__law_signs_of : Fn := fnOf 7 (b__law_signs_of)
def ci__law_broken_0 : EvT := tNot' (tTru (eIx (eVar 2) (eVar 3)))
def ce__law_broken_0 : Ev := eVar 3
def b__law_broken : Sv := sSeq (sSet 2 (eFn 2 (m__law_signs_of) (aCons (eVar 0) (aCons (eVar 1) (aNil))))) (sRet (eCall (oSeq dTupOf .tup) (aCons (eOfF (fLc (iRg1 (aCons (eCall oLen (aCons (eVar 2) (aNil))) (aNil))) (tName 3) (ci__law_broken_0) (ce__law_broken_0) [3])) (aNil))))
abbrev m__law_broken : Fn := fnOf 4 (b__law_broken)
def ci__law_are_signs_0 : EvT := tOr' (tNot' (tTru (eFn 1 (m__law_is_whole) (aCons (eVar 2) (aNil))))) (tCmpE (eBin dNotIn (eVar 2) (eLst (aCons (eC (.int 1)) (aCons (eUn dNeg (eC (.int 1))) (aNil))))))
def ce__law_are_signs_0 : Ev := eC (.int 1)
def b__law_are_signs : Sv := sSeq (sIf (tOr' (tNot' (tTru (eCall oIsi (aCons (eVar 0) (aCons (eC (.op (.ty "tuple"))) (aNil)))))) (tCmpE (eEqC true (eCall oLen (aCons (eVar 0) (aNil))) (eVar 1)))) (sRet (eC (.bl false))) (sNil)) (sRet (eEqC false (eOfF (fLc (iSeq (eVar 0)) (tName 2) (ci__law_are_signs_0) (ce__law_are_signs_0) [2])) (eLst (aNil))))
abbrev m__law_are_signs : Fn := fnOf 3 (b__law_are_signs)
def ci__law_meant_0 : EvT := tCmpE (eEqC false (eIx (eVar 2) (eVar 7)) (eUn dNeg (eC (.int 1))))
def ce__law_meant_0 : Ev := eC (.int 1)
def lb__law_meant_0 : Sv := sSeq (sSet 6 (eOfF (fLc (iSeq (eVar 5)) (tName 7) (ci__law_meant_0) (ce__law_meant_0) [7]))) (sExpr (eMeth okLst oAppend (eVar 3) (aCons (eTup (aCons (eIf (tCmpE (eEqC false (eBin (dI cMod fun i j => .int (i % j)) (eCall (o1 dInt1) (aCons (eCall oLen (aCons (eVar 6) (aNil))) (aNil))) (eC (.int 2))) (eC (.int 1)))) (eUn dNeg (eC (.int 1))) (eC (.int 1))) (aCons (eVar 5) (aNil)))) (aNil))))
def b__law_meant : Sv := sSeq (sPar 2 3 (aCons (eFn 2 (m__law_drawn_signs) (aCons (eVar 0) (aCons (eIx (eVar 1) (eC (.str "many"))) (aNil)))) (aCons (eCelF (fLst (aNil))) (aNil)))) (sSeq (sFor (iSeq (eIx (eVar 1) (eC (.str "benches")))) (tTupG 2 (tgCons (tName 4) (tgCons (tName 5) (tgNil)))) (lb__law_meant_0)) (sRet (eDic [(.inr "many", eIx (eVar 1) (eC (.str "many"))), (.inr "benches", eCall (oSeq dTupOf .tup) (aCons (eVar 3) (aNil)))])))
abbrev m__law_meant : Fn := fnOf 8 (b__law_meant)
def PlT (x : Dt) : Prop := pl1 x = true ∧ szT x = true
abbrev iT (l : List Int) : Dt := .tup (l.map Dt.int)
def SgL (l : List Int) : Prop := ∀ i ∈ l, Sg i
def prB (l : List Int) : Bool := decide ((l.filter fun i => decide (i = -1)).length % 2 = 1)
def pr (l : List Int) : Int := if prB l = true then -1 else 1
theorem pr_sg (l : List Int) : Sg (pr l) := by
  unfold pr
  split
  · exact .inr rfl
  · exact .inl rfl
theorem PlT.ints {l : List Int} (h : l.length ≤ 1000) : PlT (iT l) := ⟨List.all_eq_true.mpr fun x hx => by
  obtain ⟨i, _, rfl⟩ := List.mem_map.mp hx
  rfl, decide_eq_true (by rw [List.length_map]; exact h)⟩
section
variable {V : Ax} {s : Sc} {cs xt : List Cell} {t : Nat}
theorem ix_iT {l : List Int} {k : Nat} (h : k < l.length) : dIx (iT l) (.int (k : Nat)) = some (.int (l.getD k 1)) := ix_t.trans (at_map (f := Dt.int) 1 h)
theorem eq_m1 (i : Int) (c : List Cell) : eqC false (.dat (.int i)) (.dat (.int (-1))) c = some (.bl (decide (i = -1))) := eq_dat EqD.int (by decide) false i (-1) c
theorem par_int (l : List Int) : decide ((((l.filter fun i => decide (i = -1)).length : Nat) : Int) % 2 = 1) = prB l := by
  unfold prB
  exact decide_eq_decide.mpr (by omega)
theorem pick_sg (h : St cs xt t) (ht : t < 1000000) : ∃ g c1, m__law_pick [.cel 1, .dat (.lst [.int 1, .int (-1)])] cs = .ok (.dat (.int g)) c1 ∧ Sg g ∧ St c1 xt (t + 1) := by
  obtain ⟨sd, c1, e1, hsd, t1⟩ := r_pick (l := [.int 1, .int (-1)]) h ht (by decide) (by decide)
  simp only [List.mem_cons, List.not_mem_nil, or_false] at hsd
  rcases hsd with h | h <;> subst h
  · exact ⟨1, c1, e1, .inl rfl, t1⟩
  · exact ⟨-1, c1, e1, .inr rfl, t1⟩
theorem r_drawn {n : Nat} (hs : St cs xt t) (hn : n ≤ 1000) (ht : t + n + 2 < 1000000) : ∃ σ cs', m__law_drawn_signs [.cel 1, .dat (.int (n : Nat))] cs = .ok (.dat (iT σ)) cs' ∧ σ.length = n ∧ SgL σ ∧ St cs' xt (t + n) := by
  have ng : dNeg (.int 1) = some (.int (-1)) := rfl
  obtain ⟨σ, cs2, q, ⟨s2, ok⟩, l2⟩ := lc_acc (t := tName 2) (f := ce__law_drawn_signs_0) (env := [some (.cel 1), some (.dat (.int (n : Nat))), none]) (fun i : Nat => .dat (.int (0 + (i : Int)))) Dt.int
    (fun pr ac c => St c xt (t + pr.length) ∧ ∀ i ∈ ac, Sg i) (List.range n) [] [] cs (fun pr x post ac c he ⟨h, ok⟩ => by
      have hl : pr.length < n := by
        have := congrArg List.length he
        simp at this
        omega
      obtain ⟨g, c1, e1, sg, t1⟩ := pick_sg h (by omega)
      refine ⟨[some (.cel 1), some (.dat (.int (n : Nat))), some (.dat (.int (0 + (x : Int))))], g, c1, rfl, ?_, t1.mono (by simp only [List.length_append, List.length_cons, List.length_nil]; omega), fun z hz => ?_⟩
      · k_state0 [ce__law_drawn_signs_0, ng, e1]
      · rcases List.mem_append.mp hz with hz | hz
        · exact ok z hz
        · rw [List.mem_singleton.mp hz]; exact sg) ⟨hs.mono (by simp), fun b hb => absurd hb (by simp)⟩
  rw [List.nil_append] at s2 ok
  rw [List.length_range] at s2 l2
  rw [← rangeW_is] at q
  have lr : (rangeW 0 n).length ≤ 16777216 := by rw [rangeW_is, List.length_map, List.length_range]; omega
  have lz : (σ.map Dt.int).length ≤ 16777216 := by rw [List.length_map]; omega
  refine ⟨σ, cs2, fn_ev ?_, by omega, ok, s2⟩
  k_state0 [b__law_drawn_signs, start_cons, start_nil, repl_S, repl_0, wipe_nil, wipe_cons, k_lc lr, q]
def atS (σ : List Int) (p : List Nat) : List Int := p.map fun i => σ.getD i 1
def okB (σ : List Int) (b : Int × List Nat) : Bool := prB (atS σ b.2) == decide (b.1 = -1)
def brk (s : Sc) (σ : List Int) : List Nat := (List.range s.ben.length).filter fun i => !okB σ (s.ben.getD i b00)
theorem atS_flt (σ : List Int) (p : List Nat) : (p.filter fun i => decide (σ.getD i 1 = -1)).length = ((atS σ p).filter fun i => decide (i = -1)).length := by
  unfold atS
  rw [List.filter_map, List.length_map]
  rfl
theorem par_atS (σ : List Int) (p : List Nat) : decide ((((p.filter fun i => decide (σ.getD i 1 = -1)).length : Nat) : Int) % 2 = 1) = prB (atS σ p) := by
  rw [atS_flt, par_int]
theorem less_lc {t : Tg} {p : EvT} {f : Ev} {env : En} (σ : List Int) (q : List Nat) (h : ∀ i ∈ q, ∃ env', t (.dat (nD i)) env = some env' ∧ p env' cs = .ok (decide (σ.getD i 1 = -1)) cs ∧ f env' cs = .ok (.dat (.int 1)) cs) : loopC t p f env ((q.map nD).map Wv.dat) cs = .ok ((((q.filter fun i => decide (σ.getD i 1 = -1)).map fun _ => Dt.int 1)).map Wv.dat) cs :=
  lc_filterD (t := t) (p := p) (f := f) (env := env) (cs := cs) nD (fun _ => .int 1) (fun i => decide (σ.getD i 1 = -1)) q (fun i hi => by
    obtain ⟨env', h1, h2, h3⟩ := h i hi
    exact ⟨env', h1, h2, fun _ => h3⟩)
theorem eq_bl (a b : Bool) (c : List Cell) : eqC false (.dat (.bl a)) (.dat (.bl b)) c = some (.bl (a == b)) := by
  cases a <;> cases b <;> rfl
theorem as_iD (p : List Nat) (c : List Cell) : asSeq (.dat (iD p)) c = .ok ((p.map nD).map Wv.dat) c := (rfl)
theorem l_signs_of {σ : List Int} (h : ScOk s 15) (lσ : σ.length = s.many) : m__law_signs_of [.dat (scD s), .dat (iT σ)] cs = .ok (.dat (.lst (s.ben.map fun b => .bl (okB σ b)))) (cs ++ [.dead]) := by
  have few := h.few
  have top := h.top
  have dB : dIx (scD s) (.str "benches") = some (.tup (s.ben.map bD)) := rfl
  have ng : dNeg (.int 1) = some (.int (-1)) := rfl
  have i1 : ∀ z : Int, dInt1 (.int z) = some (.int z) := fun _ => rfl
  obtain ⟨env4, cs4, e4, ⟨e3, e4', e5, rfl⟩, rfl⟩ := ls_all (t := tTupG 2 (tgCons (tName 3) (tgCons (tName 4) tgNil))) (b := lb__law_signs_of_0) (fun b : Int × List Nat => .dat (bD b))
    (fun pr env c => (∃ e3 e4 e5 : Option Wv, env = [some (.dat (scD s)), some (.dat (iT σ)), some (.cel cs.length), e3, e4, e5, none]) ∧ c = cs ++ [.lst (wvs (fun b => .bl (okB σ b)) pr)]) s.ben
    (env := [some (.dat (scD s)), some (.dat (iT σ)), some (.cel cs.length), none, none, none, none]) (cs := cs ++ [.lst []])
    (fun pr b post env c he ⟨⟨e3, e4, e5, h1⟩, h2⟩ => by
      subst h1 h2
      have hb : b ∈ s.ben := he ▸ List.mem_append_right _ List.mem_cons_self
      obtain ⟨z1, z2, z3, z4, z5⟩ := h.ben b hb
      have prl : pr.length ≤ 12 := by
        have := congrArg List.length he
        simp at this
        omega
      have lc := less_lc (cs := cs ++ [.lst (wvs (fun b => .bl (okB σ b)) pr)]) (t := tName 6) (p := ci__law_signs_of_0) (f := ce__law_signs_of_0) (env := [some (.dat (scD s)), some (.dat (iT σ)), some (.cel cs.length), some (.dat (.int b.1)), some (.dat (iD b.2)), e5, none]) σ b.2 (fun i hi => by
        have x1 := ix_iT (l := σ) (k := i) (by have := z5 i hi; omega)
        have e := eq_m1 (σ.getD i 1)
        unfold iT at *
        refine ⟨_, rfl, ?_, ?_⟩
        · unfold nD
          k_state0 [ci__law_signs_of_0, x1, ng, e, -ix_t]
        · k_state0 [ce__law_signs_of_0])
      have asI := as_iD b.2
      have le := Nat.le_trans (List.length_filter_le (fun i => decide (σ.getD i 1 = -1)) b.2) z4
      have ln : (((b.2.filter fun i => decide (σ.getD i 1 = -1)).map fun _ => Dt.int 1)).length = (b.2.filter fun i => decide (σ.getD i 1 = -1)).length := List.length_map _
      have pi := par_atS σ b.2
      have em := eq_m1 b.1
      have eb := eq_bl (prB (atS σ b.2)) (decide (b.1 = -1))
      have k7 : (cs ++ [Cell.lst (wvs (fun b => .bl (okB σ b)) pr)])[cs.length]? = some (.lst (wvs (fun b => .bl (okB σ b)) pr)) := dk_last
      have ap := append_of (u := .dat (.bl (okB σ b))) k7 (by rw [List.length_map]; omega)
      have st : (cs ++ [Cell.lst (wvs (fun b => .bl (okB σ b)) pr)]).set cs.length (.lst (wvs (fun b => .bl (okB σ b)) pr ++ [.dat (.bl (okB σ b))])) = cs ++ [.lst (wvs (fun b => .bl (okB σ b)) (pr ++ [b]))] := by rw [dk_setl]; simp
      rw [st] at ap
      refine ⟨[some (.dat (scD s)), some (.dat (iT σ)), some (.cel cs.length), some (.dat (.int b.1)), some (.dat (iD b.2)), e5, none], [some (.dat (scD s)), some (.dat (iT σ)), some (.cel cs.length), some (.dat (.int b.1)), some (.dat (iD b.2)), some (.dat (.lst ((b.2.filter fun i => decide (σ.getD i 1 = -1)).map fun _ => Dt.int 1))), none], _, rfl, .inl ?_, ⟨_, _, _, rfl⟩, rfl⟩
      unfold iT at *
      k_state0 [lb__law_signs_of_0, asI, wipe_nil, wipe_cons, lc, dats_mapd, ln, i1, pi, ng, em, eb, ap]
      try exact congrArg (fun z => R.ok _ (cs ++ [Cell.lst z])) (List.map_append (l₂ := [b])).symm)
    ⟨⟨none, none, none, rfl⟩, rfl⟩
  have kk : (cs ++ [Cell.lst (wvs (fun b => .bl (okB σ b)) s.ben)])[cs.length]? = some (.lst (wvs (fun b => .bl (okB σ b)) s.ben)) := dk_last
  have fz := frzc_of kk (dats_wvs (fun b => .bl (okB σ b)) s.ben)
  rw [dk_setl] at fz
  have f1 : (s.ben.map fun b => Wv.dat (bD b)) = (s.ben.map bD).map Wv.dat := by rw [List.map_map]; rfl
  rw [f1] at e4
  refine fn_ev ?_
  k_state0 [b__law_signs_of, start_cons, start_nil, repl_S, repl_0, dB, e4, fz, -dk_frz]
end
section
variable {V : Ax} {s : Sc} {cs xt : List Cell} {t : Nat} {σ : List Int}
theorem brk_len (s : Sc) (σ : List Int) : (brk s σ).length ≤ s.ben.length := by
  have := List.length_filter_le (fun i => !okB σ (s.ben.getD i b00)) (List.range s.ben.length)
  unfold brk
  rw [List.length_range] at this
  exact this
theorem l_broken (h : ScOk s 15) (lσ : σ.length = s.many) : m__law_broken [.dat (scD s), .dat (iT σ)] cs = .ok (.dat (iD (brk s σ))) (cs ++ [.dead]) := by
  have few := h.few
  have q := l_signs_of (cs := cs) h lσ
  have lr : (rangeW 0 s.ben.length).length ≤ 16777216 := by rw [rangeW_is, List.length_map, List.length_range]; omega
  have lc := lc_filter (t := tName 3) (p := ci__law_broken_0) (f := ce__law_broken_0) (env := [some (.dat (scD s)), some (.dat (iT σ)), some (.dat (.lst (s.ben.map fun b => .bl (okB σ b)))), none]) (cs := cs ++ [.dead]) (fun i : Nat => .dat (.int (0 + (i : Int)))) nD (fun i => !okB σ (s.ben.getD i b00)) (List.range s.ben.length) (fun i hi => by
    have hi := List.mem_range.mp hi
    have z0 : (0 : Int) + (i : Int) = i := Int.zero_add _
    have x1 : dIx (.lst (s.ben.map fun b => Dt.bl (okB σ b))) (.int (i : Nat)) = some (.bl (okB σ (s.ben.getD i b00))) := ix_l.trans (at_map (f := fun b => Dt.bl (okB σ b)) b00 hi)
    refine ⟨_, rfl, ?_, fun _ => ?_⟩
    · k_state0 [ci__law_broken_0, z0, x1, -ix_l]
    · unfold nD
      k_state0 [ce__law_broken_0, z0])
  rw [← rangeW_is] at lc
  have ll : (s.ben.map fun b => Dt.bl (okB σ b)).length = s.ben.length := List.length_map _
  have l2 := brk_len s σ
  have l3 : ((brk s σ).map nD).length ≤ 16777216 := by rw [List.length_map]; omega
  unfold brk at l3
  refine fn_ev ?_
  unfold iD brk
  k_state0 [b__law_broken, start_cons, start_nil, repl_S, repl_0, wipe_nil, wipe_cons, q, k_lc lr, lc, ll]
end
def sgsB (m : Nat) : Dt → Bool
  | .tup ds => decide (ds.length = m) && ds.all sgB
  | _ => false
theorem sgsB_iT {m : Nat} {σ : List Int} (h : SgL σ) (l : σ.length = m) : sgsB m (iT σ) = true := by
  show (decide ((σ.map Dt.int).length = m) && (σ.map Dt.int).all sgB) = true
  rw [List.length_map, decide_eq_true l, Bool.true_and, List.all_eq_true]
  intro x hx
  obtain ⟨i, hi, rfl⟩ := List.mem_map.mp hx
  rcases h i hi with h | h <;> rw [h] <;> rfl
section
variable {V : Ax} {s : Sc} {cs xt : List Cell} {t : Nat} {σ : List Int}
theorem isi_T {l : List Dt} (c : List Cell) : oIsi [.dat (.tup l), .dat (.op (.ty "tuple"))] c = some (.bl true) := rfl
theorem isi_nT {x : Dt} (h : pl1 x = true) (hx : ∀ l, x ≠ .tup l) (c : List Cell) : oIsi [.dat x, .dat (.op (.ty "tuple"))] c = some (.bl false) := by
  cases x with
  | tup l => exact absurd rfl (hx l)
  | op v => cases h
  | scr v => cases h
  | exn v => cases h
  | dit v => cases h
  | lam _ _ => cases h
  | _ => rfl
theorem sgsB_n {m : Nat} {x : Dt} (hx : ∀ l, x ≠ .tup l) : sgsB m x = false := by
  cases x with
  | tup l => exact absurd rfl (hx l)
  | _ => rfl
theorem nat_len (a b : Nat) : decide (((a : Nat) : Int) = (b : Nat)) = decide (a = b) := decide_eq_decide.mpr (by omega)
theorem whole_sg {d : Dt} (h : pl0 d = true) {a b : Option Wv} : ci__law_are_signs_0 [a, b, some (.dat d)] cs = .ok (!sgB d) cs := by
  have q := r_is_whole (cs := cs) h
  have ng : dNeg (.int 1) = some (.int (-1)) := rfl
  cases d with
  | int i =>
    have nn := notin_pm (s := i)
    have q : m__law_is_whole [.dat (.int i)] cs = .ok (.dat (.bl true)) cs := q
    k_state0 [ci__law_are_signs_0, q, ng, nn]
    rfl
  | op v => cases h
  | scr v => cases h
  | exn v => cases h
  | dit v => cases h
  | lam _ _ => cases h
  | non => k_state0 [ci__law_are_signs_0, q]; rfl
  | bl b => k_state0 [ci__law_are_signs_0, q]; rfl
  | str z => k_state0 [ci__law_are_signs_0, q]; rfl
  | tup z => k_state0 [ci__law_are_signs_0, q]; rfl
  | lst z => k_state0 [ci__law_are_signs_0, q]; rfl
  | dic z => k_state0 [ci__law_are_signs_0, q]; rfl
  | obj C z => k_state0 [ci__law_are_signs_0, q]; rfl
theorem l_are_signs {x : Dt} {m : Nat} (hp : pl1 x = true) (hz : szT x = true) : m__law_are_signs [.dat x, .dat (.int (m : Nat))] cs = .ok (.dat (.bl (sgsB m x))) cs := by
  by_cases hx : ∃ l, x = .tup l
  · obtain ⟨l, rfl⟩ := hx
    have hp : l.all pl0 = true := hp
    have hz : l.length ≤ 1000 := of_decide_eq_true hz
    have lm := lc_filter (t := tName 2) (p := ci__law_are_signs_0) (f := ce__law_are_signs_0) (env := [some (.dat (.tup l)), some (.dat (.int (m : Nat))), none]) (cs := cs) Wv.dat (fun _ => .int 1) (fun d => !sgB d) l (fun d hd => by
      have q := whole_sg (cs := cs) (a := some (.dat (.tup l))) (b := some (.dat (.int (m : Nat)))) (List.all_eq_true.mp hp d hd)
      refine ⟨_, rfl, q, fun _ => ?_⟩
      k_state0 [ce__law_are_signs_0])
    have asI : ∀ c, asSeq (.dat (.tup l)) c = .ok (l.map Wv.dat) c := fun _ => rfl
    have is := isi_T (l := l)
    have lf := List.length_filter_le (fun d => !sgB d) l
    have lz : ((l.filter fun d => !sgB d).map fun _ => Dt.int 1).length ≤ 16777216 := by rw [List.length_map]; omega
    have nl := nat_len l.length m
    have en := eq_nil_ones (l.filter fun d => !sgB d)
    have fe : (l.filter fun d => !sgB d).isEmpty = l.all sgB := by
      rw [Bool.eq_iff_iff, List.isEmpty_iff, List.filter_eq_nil_iff, List.all_eq_true]
      simp
    refine fn_ev ?_
    show _ = R.ok (Wv.dat (.bl (decide (l.length = m) && l.all sgB))) cs
    cases e : decide (l.length = m) with
    | false =>
      rw [e] at nl
      have nl := of_decide_eq_false nl
      k_state0 [b__law_are_signs, start_cons, start_nil, repl_S, repl_0, is, nl]
    | true =>
      rw [e] at nl
      have nl := of_decide_eq_true nl
      k_state0 [b__law_are_signs, start_cons, start_nil, repl_S, repl_0, is, nl, asI, wipe_nil, wipe_cons, lm, dats_mapd, en, fe]
  · have hx : ∀ l, x ≠ .tup l := fun l e => hx ⟨l, e⟩
    have is := isi_nT hp hx
    rw [sgsB_n hx]
    refine fn_ev ?_
    k_state0 [b__law_are_signs, start_cons, start_nil, repl_S, repl_0, is]
theorem r_meant (hs : St cs xt t) (h : ScOk s 15) (ht : t + 500 < 1000000) : ∃ s' cs' xt', m__law_meant [.cel 1, .dat (scD s)] cs = .ok (.dat (scD s')) cs' ∧ (∀ N, ScOk s N → ScOk s' N) ∧ St cs' xt' (t + 100) := by
  have few := h.few
  have top := h.top
  have dB : dIx (scD s) (.str "benches") = some (.tup (s.ben.map bD)) := rfl
  have dM : dIx (scD s) (.str "many") = some (.int (s.many : Nat)) := rfl
  have ng : dNeg (.int 1) = some (.int (-1)) := rfl
  have i1 : ∀ z : Int, dInt1 (.int z) = some (.int z) := fun _ => rfl
  obtain ⟨σ, c1, q1, lσ, hσ, s1⟩ := r_drawn (n := s.many) hs (by omega) (by omega)
  obtain ⟨f, hf⟩ : ∃ f : Int × List Nat → Int × List Nat, f = fun b => (pr (atS σ b.2), b.2) := ⟨_, rfl⟩
  obtain ⟨env4, cs4, e4, ⟨e4', e5, e6, rfl⟩, rfl⟩ := ls_all (t := tTupG 2 (tgCons (tName 4) (tgCons (tName 5) tgNil))) (b := lb__law_meant_0) (fun b : Int × List Nat => .dat (bD b))
    (fun pr env c => (∃ e4 e5 e6 : Option Wv, env = [some (.cel 1), some (.dat (scD s)), some (.dat (iT σ)), some (.cel c1.length), e4, e5, e6, none]) ∧ c = c1 ++ [.lst (wvs (fun b => bD (f b)) pr)]) s.ben
    (env := [some (.cel 1), some (.dat (scD s)), some (.dat (iT σ)), some (.cel c1.length), none, none, none, none]) (cs := c1 ++ [.lst []])
    (fun P b post env c he ⟨⟨e4, e5, e6, h1⟩, h2⟩ => by
      subst h1 h2
      have hb : b ∈ s.ben := he ▸ List.mem_append_right _ List.mem_cons_self
      obtain ⟨z1, z2, z3, z4, z5⟩ := h.ben b hb
      have prl : P.length ≤ 12 := by
        have := congrArg List.length he
        simp at this
        omega
      have lc := less_lc (cs := c1 ++ [.lst (wvs (fun b => bD (f b)) P)]) (t := tName 7) (p := ci__law_meant_0) (f := ce__law_meant_0) (env := [some (.cel 1), some (.dat (scD s)), some (.dat (iT σ)), some (.cel c1.length), some (.dat (.int b.1)), some (.dat (iD b.2)), e6, none]) σ b.2 (fun i hi => by
        have x1 := ix_iT (l := σ) (k := i) (by have := z5 i hi; omega)
        have e := eq_m1 (σ.getD i 1)
        unfold iT at *
        refine ⟨_, rfl, ?_, ?_⟩
        · unfold nD
          k_state0 [ci__law_meant_0, x1, ng, e, -ix_t]
        · k_state0 [ce__law_meant_0])
      have asI := as_iD b.2
      have le := Nat.le_trans (List.length_filter_le (fun i => decide (σ.getD i 1 = -1)) b.2) z4
      have ln : (((b.2.filter fun i => decide (σ.getD i 1 = -1)).map fun _ => Dt.int 1)).length = (b.2.filter fun i => decide (σ.getD i 1 = -1)).length := List.length_map _
      have pi := par_atS σ b.2
      have k7 : (c1 ++ [Cell.lst (wvs (fun b => bD (f b)) P)])[c1.length]? = some (.lst (wvs (fun b => bD (f b)) P)) := dk_last
      have ap := append_of (u := .dat (bD (f b))) k7 (by rw [List.length_map]; omega)
      have st : (c1 ++ [Cell.lst (wvs (fun b => bD (f b)) P)]).set c1.length (.lst (wvs (fun b => bD (f b)) P ++ [.dat (bD (f b))])) = c1 ++ [.lst (wvs (fun b => bD (f b)) (P ++ [b]))] := by rw [dk_setl]; simp
      rw [st] at ap
      have m1 := fun (env : En) (ga : EvA) => methl_of (o := oAppend) (ga := ga) (env := env) k7
      refine ⟨[some (.cel 1), some (.dat (scD s)), some (.dat (iT σ)), some (.cel c1.length), some (.dat (.int b.1)), some (.dat (iD b.2)), e6, none], [some (.cel 1), some (.dat (scD s)), some (.dat (iT σ)), some (.cel c1.length), some (.dat (.int b.1)), some (.dat (iD b.2)), some (.dat (.lst ((b.2.filter fun i => decide (σ.getD i 1 = -1)).map fun _ => Dt.int 1))), none], _, rfl, .inl ?_, ⟨_, _, _, rfl⟩, rfl⟩
      have fb : ∀ p : Bool, prB (atS σ b.2) = p → f b = (if p = true then -1 else 1, b.2) := fun p hp => by rw [hf, ← hp]; rfl
      cases ep : prB (atS σ b.2) with
      | true =>
        rw [ep] at pi
        have fb := fb true ep
        rw [if_pos rfl] at fb
        have b0 : bD (-1, b.2) = .tup [.int (-1), iD b.2] := rfl
        rw [fb, b0] at ap
        unfold iT at *
        k_state0 [lb__law_meant_0, asI, wipe_nil, wipe_cons, lc, dats_mapd, ln, i1, pi, ng, m1, ap, -dk_app, -dk_methc]
      | false =>
        rw [ep] at pi
        have fb := fb false ep
        rw [if_neg Bool.false_ne_true] at fb
        have b0 : bD (1, b.2) = .tup [.int 1, iD b.2] := rfl
        rw [fb, b0] at ap
        unfold iT at *
        k_state0 [lb__law_meant_0, asI, wipe_nil, wipe_cons, lc, dats_mapd, ln, i1, pi, ng, m1, ap, -dk_app, -dk_methc])
    ⟨⟨none, none, none, rfl⟩, rfl⟩
  have kk : (c1 ++ [Cell.lst (wvs (fun b => bD (f b)) s.ben)])[c1.length]? = some (.lst (wvs (fun b => bD (f b)) s.ben)) := dk_last
  have f1 : (s.ben.map fun b => Wv.dat (bD b)) = (s.ben.map bD).map Wv.dat := by rw [List.map_map]; rfl
  rw [f1] at e4
  have cS : cSeq .tup (some (.lst (wvs (fun b => bD (f b)) s.ben))) = some (.tup ((s.ben.map f).map bD)) := by
    show (dats (wvs (fun b => bD (f b)) s.ben)).map Dt.tup = _
    rw [dats_wvs, List.map_map]
    rfl
  have lz : (s.ben.map bD).length ≤ 16777216 := by rw [List.length_map]; omega
  refine ⟨⟨s.many, s.ben.map f⟩, _, _, fn_ev ?_, fun N o => ⟨o.one, o.top, by show (s.ben.map f).length ≤ 12; rw [List.length_map]; exact few, fun b hb => ?_⟩, (s1.app [.lst (wvs (fun b => bD (f b)) s.ben)]).mono (by omega)⟩
  · have sc : Dt.dic [(.inr "many", .int (s.many : Nat)), (.inr "benches", .tup ((s.ben.map f).map bD))] = scD ⟨s.many, s.ben.map f⟩ := rfl
    k_state0 [b__law_meant, start_cons, start_nil, repl_S, repl_0, dB, dM, q1, e4, kk, cS, sc]
  · obtain ⟨b', hb', rfl⟩ := List.mem_map.mp hb
    obtain ⟨z1, z2⟩ := o.ben b' hb'
    rw [hf]
    exact ⟨pr_sg _, z2⟩
end
end DX
namespace DX
open PySem PySem.Spec PyProof.Rows L2 GF
def b__law_some : Sv := sSeq (sSet 4 (eCall (o2 dMin2) (aCons (eBin dAdd (eVar 2) (eFn 2 (m__law_draw) (aCons (eVar 0) (aCons (eBin dAdd (eBin (dI0 fun i j => .int (i - j)) (eVar 3) (eVar 2)) (eC (.int 1))) (aNil))))) (aCons (eCall oLen (aCons (eVar 1) (aNil))) (aNil))))) (sRet (eCall (oSeq dTupOf .tup) (aCons (eCall oSorted2 (aCons (eSl (eFn 2 (m__law_mixed) (aCons (eVar 0) (aCons (eVar 1) (aNil)))) (oNone) (oSome (eVar 4))) (aNil))) (aNil))))
abbrev m__law_some : Fn := fnOf 5 (b__law_some)
def b__law_sign_v2 : Sv := sRet (eFn 2 (m__law_pick) (aCons (eVar 0) (aCons (eLst (aCons (eC (.int 1)) (aCons (eUn dNeg (eC (.int 1))) (aNil)))) (aNil))))
abbrev m__law_sign_v2 : Fn := fnOf 1 (b__law_sign_v2)
def ci__law_is_odd_lot_0 : EvT := tCmpE (eBin dIn (eVar 2) (eIx (eIx (eIx (eVar 0) (eC (.str "benches"))) (eVar 4)) (eC (.int 1))))
def ce__law_is_odd_lot_0 : Ev := eC (.int 1)
def lb__law_is_odd_lot_0 : Sv := sSeq (sSet 3 (eCall oLen (aCons (eOfF (fLc (iSeq (eVar 1)) (tName 4) (ci__law_is_odd_lot_0) (ce__law_is_odd_lot_0) [4])) (aNil)))) (sIf (tCmpE (eEqC false (eBin (dI cMod fun i j => .int (i % j)) (eCall (o1 dInt1) (aCons (eVar 3) (aNil))) (eC (.int 2))) (eC (.int 1)))) (sRet (eC (.bl false))) (sNil))
def b__law_is_odd_lot : Sv := sSeq (sIf (tOr' (tNot' (tTru (eFn 2 (m__law_is_rising) (aCons (eVar 1) (aCons (eCall oLen (aCons (eIx (eVar 0) (eC (.str "benches"))) (aNil))) (aNil)))))) (tNot' (tTru (eFn 2 (m__law_is_minus) (aCons (eVar 0) (aCons (eVar 1) (aNil))))))) (sRet (eC (.bl false))) (sNil)) (sSeq (sFor (iRg1 (aCons (eIx (eVar 0) (eC (.str "many"))) (aNil))) (tName 2) (lb__law_is_odd_lot_0)) (sRet (eC (.bl true))))
abbrev m__law_is_odd_lot : Fn := fnOf 5 (b__law_is_odd_lot)
section
variable {V : Ax} {s : Sc} {cs xt : List Cell} {t : Nat}
theorem min_int (a b : Nat) : dMin2 (.int (a : Nat)) (.int (b : Nat)) = some (.int ((min a b : Nat) : Int)) := by
  show some (Dt.int (if (b : Int) < (a : Int) then (b : Int) else (a : Int))) = _
  by_cases h : b < a
  · rw [if_pos (by omega), Nat.min_eq_right (by omega)]
  · rw [if_neg (by omega), Nat.min_eq_left (by omega)]
theorem r_some {n least most : Nat} (hs : St cs xt t) (hlm : least ≤ most) (hm : most ≤ 1000) (hn : n ≤ 1000) (ht : t + n + 10 < 1000000) :
    ∃ (p : List Nat) (cs' : List Cell), m__law_some [.cel 1, .dat (.lst ((List.range n).map nD)), .dat (.int (least : Nat)), .dat (.int (most : Nat))] cs = .ok (.dat (iD p)) cs' ∧ p.Pairwise (· < ·) ∧ (∀ i ∈ p, i < n) ∧ p.length ≤ most ∧ (least ≤ n → least ≤ p.length) ∧ St cs' (xt ++ [.lst [], .dead]) (t + n + 1) := by
  obtain ⟨d, cs1, q1, d0, d1, s1⟩ := r_draw (n := ((most : Nat) : Int) - (least : Nat) + 1) hs (by omega) (by omega) (by omega)
  obtain ⟨P, cs2, pm, q2, s2⟩ := r_mixed EqD.nat (by decide) (L := List.range n) s1 (by rw [List.length_range]; omega) (by rw [List.length_range]; omega)
  rw [List.length_range] at s2
  obtain ⟨k, hk⟩ : ∃ k : Nat, (least : Int) + d = (k : Int) := ⟨((least : Int) + d).toNat, by omega⟩
  have pl : P.length = n := by rw [pm.length_eq, List.length_range]
  have pn : P.Nodup := pm.nodup_iff.mpr List.nodup_range
  have mn := min_int k n
  have c1 := cutA nD P (min k n)
  have sr := srt_nat (P.take (min k n)) cs2
  have q2' : m__law_mixed [.cel 1, .dat (.lst ((List.range n).map nD))] cs1 = .ok (.dat (.lst (P.map nD))) cs2 := q2
  have ln : dLen (.lst ((List.range n).map nD)) = some (.int (n : Nat)) := by
    show some (Dt.int (((List.range n).map nD).length : Nat)) = _
    rw [List.length_map, List.length_range]
  have sl : (srtN (P.take (min k n))).length = min k n := by rw [(srtN_perm _).length_eq, List.length_take]; omega
  refine ⟨srtN (P.take (min k n)), cs2, fn_ev ?_, asc_take pn _, fun i hi => ?_, by omega, fun h => by omega, s2.mono (by omega)⟩
  · k_state0 [b__law_some, start_cons, start_nil, repl_S, repl_0, q1, hk, ln, mn, q2', c1, sr]
    rfl
  · have := (srtN_perm _).mem_iff.mp hi
    exact List.mem_range.mp (pm.mem_iff.mp (List.mem_of_mem_take this))
theorem r_sign2 (hs : St cs xt t) (ht : t < 1000000) : ∃ g c', m__law_sign_v2 [.cel 1] cs = .ok (.dat (.int g)) c' ∧ Sg g ∧ St c' xt (t + 1) := by
  obtain ⟨g, c3, q3, sg, s3⟩ := pick_sg hs ht
  have ng : dNeg (.int 1) = some (.int (-1)) := rfl
  refine ⟨g, c3, fn_ev ?_, sg, s3⟩
  k_state0 [b__law_sign_v2, start_cons, start_nil, repl_S, repl_0, ng, q3]
theorem oddl_loop {p : List Nat} (hp : ∀ b ∈ p, b < s.ben.length) (lp : p.length ≤ 1000) : ∀ (X : List Nat) (a2 a3 : Option Wv),
    ∃ b2 b3, loopS (tName 2) lb__law_is_odd_lot_0 (X.map fun x => Wv.dat (nD x)) [some (.dat (scD s)), some (.dat (iD p)), a2, a3, none] cs = if (X.filter fun x => decide (cntL s p x % 2 = 1)) = [] then .ok (.nx [some (.dat (scD s)), some (.dat (iD p)), b2, b3, none]) cs else .ok (.rt (.dat (.bl false))) cs
  | [], a2, a3 => ⟨a2, a3, rfl⟩
  | x :: X, a2, a3 => by
    have dB : dIx (scD s) (.str "benches") = some (.tup (s.ben.map bD)) := rfl
    have d1 : ∀ b : Int × List Nat, dIx (bD b) (.int 1) = some (iD b.2) := fun _ => rfl
    have lf := lc_filter (t := tName 4) (p := ci__law_is_odd_lot_0) (f := ce__law_is_odd_lot_0) (env := [some (.dat (scD s)), some (.dat (iD p)), some (.dat (nD x)), a3, none]) (cs := cs) (fun b : Nat => .dat (nD b)) (fun _ => .int 1) (fun b => decide (x ∈ crw s b)) p (fun b hb => by
      have x1 := sgs_at (hp b hb)
      have x1 : dIx (.tup (s.ben.map bD)) (nD b) = some (bD (s.ben.getD b b00)) := x1
      have x2 := in_natL x (crw s b)
      refine ⟨_, rfl, ?_, fun _ => ?_⟩
      · k_state0 [ci__law_is_odd_lot_0, dB, x1, d1, x2, -ix_t]
      · k_state0 [ce__law_is_odd_lot_0])
    have f0 : (p.map nD).map Wv.dat = p.map fun b => Wv.dat (nD b) := by rw [List.map_map]; rfl
    have asP : ∀ c, asSeq (.dat (iD p)) c = .ok (p.map fun b => Wv.dat (nD b)) c := fun _ => by rw [← f0]; rfl
    have ln : dLen (.lst ((p.filter fun b => decide (x ∈ crw s b)).map fun _ => Dt.int 1)) = some (.int (cntL s p x : Nat)) := congrArg (fun k : Nat => some (Dt.int (k : Int))) (List.length_map _)
    have i1 : ∀ z : Int, dInt1 (.int z) = some (.int z) := fun _ => rfl
    have lz : (p.map fun b => Wv.dat (nD b)).length ≤ 16777216 := by rw [List.length_map]; omega
    have le : ((p.filter fun b => decide (x ∈ crw s b)).map fun _ => Dt.int 1).length = cntL s p x := List.length_map _
    rw [List.map_cons, loopS, mb]
    by_cases o : cntL s p x % 2 = 1
    · refine ⟨none, none, ?_⟩
      rw [List.filter_cons_of_pos (by simpa using o), if_neg (by simp)]
      have o' : ((cntL s p x : Nat) : Int) % 2 = 1 := by omega
      k_state0 [mb, lb__law_is_odd_lot_0, asP, wipe_nil, wipe_cons, k_lc lz, lf, dats_mapd, ln, i1, o', -k_lc]
      try rfl
    · rw [List.filter_cons_of_neg (by simpa using o)]
      have o' : ¬ ((cntL s p x : Nat) : Int) % 2 = 1 := by omega
      obtain ⟨b2, b3, ih⟩ := oddl_loop hp lp X (some (.dat (nD x))) (some (.dat (.int (cntL s p x : Nat))))
      refine ⟨b2, b3, ?_⟩
      have b1 : lb__law_is_odd_lot_0 [some (.dat (scD s)), some (.dat (iD p)), some (.dat (nD x)), a3, none] cs = .ok (.nx [some (.dat (scD s)), some (.dat (iD p)), some (.dat (nD x)), some (.dat (.int (cntL s p x : Nat))), none]) cs := by
        k_state0 [lb__law_is_odd_lot_0, asP, wipe_nil, wipe_cons, k_lc lz, lf, dats_mapd, ln, i1, o', -k_lc]
      k_state0 [mb, b1]
      exact ih
theorem l_is_odd_lot (h : ScOk s 15) {p : List Nat} (ha : p.Pairwise (· < ·)) (hp : ∀ b ∈ p, b < s.ben.length) : m__law_is_odd_lot [.dat (scD s), .dat (iD p)] cs = .ok (.dat (.bl (miB s p && evnB s p))) cs := by
  have few := h.few
  have top := h.top
  have lp : p.length ≤ 12 := Nat.le_trans (nat_many (asc_nodup ha) hp) few
  have dB : dIx (scD s) (.str "benches") = some (.tup (s.ben.map bD)) := rfl
  have dM : dIx (scD s) (.str "many") = some (.int (s.many : Nat)) := rfl
  have lB : dLen (.tup (s.ben.map bD)) = some (nD s.ben.length) := congrArg (fun k : Nat => some (Dt.int (k : Int))) (List.length_map _)
  have q1 := r_rising ha hp (by omega) cs
  have q2 := r_law_is_minus (s := s) (cs := cs) hp (by omega)
  have lt := lots_test h hp
  obtain ⟨b2, b3, q3⟩ := oddl_loop (s := s) (cs := cs) hp (by omega) (List.range s.many) none none
  have rg : rangeW 0 s.many = (List.range s.many).map fun t : Nat => Wv.dat (nD t) := by
    rw [rangeW_is]
    refine List.map_congr_left fun i _ => ?_
    unfold nD
    rw [Int.zero_add]
  rw [← rg] at q3
  refine fn_ev ?_
  cases hm : miB s p with
  | false =>
    rw [hm] at q2
    k_state0 [b__law_is_odd_lot, start_cons, start_nil, repl_S, repl_0, dB, lB, q1, q2]
  | true =>
    rw [hm] at q2
    by_cases e : ((List.range s.many).filter fun x => decide (cntL s p x % 2 = 1)) = []
    · rw [if_pos e] at q3
      have ev : evnB s p = true := by rw [← lt, e]; rfl
      rw [ev]
      k_state0 [b__law_is_odd_lot, start_cons, start_nil, repl_S, repl_0, dB, lB, q1, q2, dM, q3]
    · rw [if_neg e] at q3
      have ev : evnB s p = false := by
        rw [← lt]
        cases z : (List.range s.many).filter fun x => decide (cntL s p x % 2 = 1) with
        | nil => exact absurd z e
        | cons _ _ => rfl
      rw [ev]
      k_state0 [b__law_is_odd_lot, start_cons, start_nil, repl_S, repl_0, dB, lB, q1, q2, dM, q3]
end
end DX
namespace DX
open PySem PySem.Spec PyProof.Rows L2 GF
section
variable {s : Sc}
def plt (c d : Nat × Nat) : Prop := c.1 < d.1 ∨ (c.1 = d.1 ∧ c.2 < d.2)
instance (c d : Nat × Nat) : Decidable (plt c d) := inferInstanceAs (Decidable (_ ∨ _))
end
end DX
namespace DX
open PySem PySem.Spec PyProof.Rows L2 GF
section
variable {cs : List Cell}
theorem r_unlikeG {w1 w2 : Dt} {p q : List Nat} (h1 : w1 = .lst (p.map nD) ∨ w1 = .tup (p.map nD)) (h2 : w2 = .lst (q.map nD) ∨ w2 = .tup (q.map nD)) (lp : p.length < 1000) (lq : q.length < 1000) (cs : List Cell) : m__law_unlike [.dat w1, .dat w2] cs = .ok (.dat (.lst ((srtN (unl0 p q)).map nD))) cs := by
  have i1 : ∀ a, dNotIn (nD a) w1 = some (.bl (!decide (a ∈ p))) := fun a => by
    rcases h1 with rfl | rfl
    · exact notin_dat EqD.nat (by decide) a p
    · exact notin_datT EqD.nat (by decide) a p
  have i2 : ∀ a, dNotIn (nD a) w2 = some (.bl (!decide (a ∈ q))) := fun a => by
    rcases h2 with rfl | rfl
    · exact notin_dat EqD.nat (by decide) a q
    · exact notin_datT EqD.nat (by decide) a q
  have lf1 := lc_filterD (t := tName 2) (p := ci__law_unlike_0) (f := ce__law_unlike_0) (env := [some (.dat w1), some (.dat w2), none]) (cs := cs) nD nD (fun a => !decide (a ∈ q)) p (fun a _ => by
    refine ⟨_, rfl, ?_, fun _ => rfl⟩
    have := i2 a
    k_state0 [ci__law_unlike_0, this])
  have lf2 := lc_filterD (t := tName 2) (p := ci__law_unlike_1) (f := ce__law_unlike_1) (env := [some (.dat w1), some (.dat w2), none]) (cs := cs) nD nD (fun a => !decide (a ∈ p)) q (fun a _ => by
    refine ⟨_, rfl, ?_, fun _ => rfl⟩
    have := i1 a
    k_state0 [ci__law_unlike_1, this])
  have f1 : (p.filter fun a => !decide (a ∈ q)).length < 1000 := Nat.lt_of_le_of_lt (List.length_filter_le _ _) lp
  have f2 : (q.filter fun a => !decide (a ∈ p)).length < 1000 := Nat.lt_of_le_of_lt (List.length_filter_le _ _) lq
  have hs2 := srt_nat (unl0 p q) cs
  unfold unl0 at hs2 ⊢
  rw [List.map_append] at hs2
  refine fn_ev ?_
  have a1 : ∀ c, asSeq (.dat w1) c = .ok ((p.map nD).map Wv.dat) c := fun _ => by rcases h1 with rfl | rfl <;> rfl
  have a2 : ∀ c, asSeq (.dat w2) c = .ok ((q.map nD).map Wv.dat) c := fun _ => by rcases h2 with rfl | rfl <;> rfl
  k_state0 [b__law_unlike, start_cons, start_nil, repl_S, repl_0, a1, a2, wipe_nil, wipe_cons, lf1, lf2, hs2]
variable {s : Sc}
end
end DX
namespace DX
open PySem PySem.Spec PyProof.Rows L2
def lb__law_wide_hall_0 : Sv := sExpr (eMeth okLst oAppend (eVar 2) (aCons (eTup (aCons (eFn 1 (m__law_sign_v2) (aCons (eVar 0) (aNil))) (aCons (eFn 4 (m__law_some) (aCons (eVar 0) (aCons (eRgL1 .lst (eVar 1)) (aCons (eC (.int 1)) (aCons (eFn 2 (m__law_pick) (aCons (eVar 0) (aCons (eLst (aCons (eC (.int 1)) (aCons (eC (.int 3)) (aCons (eC (.int 8)) (aNil))))) (aNil)))) (aNil)))))) (aNil)))) (aNil)))
def b__law_wide_hall : Sv := sSeq (sSet 1 (eFn 2 (m__law_pick) (aCons (eVar 0) (aCons (eLst (aCons (eC (.int 1)) (aCons (eC (.int 2)) (aCons (eC (.int 3)) (aCons (eC (.int 5)) (aCons (eC (.int 8)) (aCons (eC (.int 10)) (aCons (eC (.int 11)) (aCons (eC (.int 15)) (aNil)))))))))) (aNil))))) (sSeq (sSet 2 (eCelF (fLst (aNil)))) (sSeq (sFor (iRg1 (aCons (eFn 2 (m__law_draw) (aCons (eVar 0) (aCons (eC (.int 13)) (aNil)))) (aNil))) (tName 3) (lb__law_wide_hall_0)) (sRet (eDic [(.inr "many", eVar 1), (.inr "benches", eCall (oSeq dTupOf .tup) (aCons (eVar 2) (aNil)))]))))
abbrev m__law_wide_hall : Fn := fnOf 4 (b__law_wide_hall)
def lb__law_power_0 : Sv := sSet 1 (eBin dMul (eC (.int 2)) (eVar 1))
def b__law_power : Sv := sSeq (sSet 1 (eC (.int 1))) (sSeq (sFor (iRg1 (aCons (eVar 0) (aNil))) (tName 2) (lb__law_power_0)) (sRet (eVar 1)))
abbrev m__law_power : Fn := fnOf 3 (b__law_power)
def ce__law_freedom_0 : Ev := eCall oListOf (aCons (eVar 5) (aNil))
def ci__law_freedom_0 : EvT := tCmpE (eBin dIn (eVar 3) (eVar 5))
def ce__law_freedom_1 : Ev := eVar 5
def ce__law_freedom_2 : Ev := eIf (tCmpE (eBin dIn (eVar 3) (eVar 5))) (eFn 2 (m__law_unlike) (aCons (eVar 5) (aCons (eIx (eVar 4) (eC (.int 0))) (aNil)))) (eVar 5)
def lb__law_freedom_0 : Sv := sSeq (sSet 4 (eOfF (fLc (iSeq (eVar 1)) (tName 5) (ci__law_freedom_0) (ce__law_freedom_1) [5]))) (sIf (tCmpE (eEqC true (eVar 4) (eLst (aNil)))) (sSeq (sSet 2 (eBin (dI0 fun i j => .int (i - j)) (eVar 2) (eC (.int 1)))) (sSet 1 (eOfF (fLc (iSeq (eVar 1)) (tName 5) (tYesE) (ce__law_freedom_2) [5])))) (sNil))
def b__law_freedom : Sv := sSeq (sPar 1 2 (aCons (eOfF (fLc (iSeq (eFn 1 (m__law_crews) (aCons (eVar 0) (aNil)))) (tName 5) (tYesE) (ce__law_freedom_0) [5])) (aCons (eIx (eVar 0) (eC (.str "many"))) (aNil)))) (sSeq (sFor (iRg1 (aCons (eIx (eVar 0) (eC (.str "many"))) (aNil))) (tName 3) (lb__law_freedom_0)) (sRet (eVar 2)))
abbrev m__law_freedom : Fn := fnOf 6 (b__law_freedom)
def b__law_one_or_other (V : Ax) : Sv := sSeq (sSet 1 (eFn 1 (m__law_made V) (aCons (eVar 0) (aNil)))) (sSeq (sPar 2 3 (aCons (eFn 1 (m_signing_of V) (aCons (eVar 1) (aNil))) (aCons (eFn 1 (m_odd_lot_of V) (aCons (eVar 1) (aNil))) (aNil)))) (sSeq (sIf (tCmpE (eEqC false (eBin dIs (eVar 2) (eC .non)) (eBin dIs (eVar 3) (eC .non)))) (sRet (eC (.bl false))) (sNil)) (sSeq (sIf (tCmpE (eBin dNotN (eVar 3) (eC .non))) (sRet (eAnd (eFn 2 (m__law_is_odd_lot) (aCons (eVar 0) (aCons (eVar 3) (aNil)))) (eEqC false (eCall oReprA (aCons (eFn 1 (m_signings_many V) (aCons (eVar 1) (aNil))) (aNil))) (eC (.str "0"))))) (sNil)) (sSeq (sIf (tOr' (tNot' (tTru (eFn 2 (m__law_are_signs) (aCons (eVar 2) (aCons (eIx (eVar 0) (eC (.str "many"))) (aNil)))))) (tCmpE (eEqC true (eFn 2 (m__law_broken) (aCons (eVar 0) (aCons (eVar 2) (aNil)))) (eTup (aNil))))) (sRet (eC (.bl false))) (sNil)) (sRet (eEqC false (eCall oReprA (aCons (eFn 1 (m_signings_many V) (aCons (eVar 1) (aNil))) (aNil))) (eCall oReprA (aCons (eFn 1 (m__law_power) (aCons (eFn 1 (m__law_freedom) (aCons (eVar 0) (aNil))) (aNil))) (aNil)))))))))
abbrev m__law_one_or_other (V : Ax) : Fn := fnOf 4 (b__law_one_or_other V)
def lb_law_v43_0 (V : Ax) : Sv := sSeq (sIf (tCmpE (eEqC true (eIx (eVar 2) (eC (.str "benches"))) (eTup (aNil)))) (sSet 2 (eFn 2 (m__law_one_turned) (aCons (eVar 1) (aCons (eVar 2) (aNil))))) (sNil)) (sIf (tNot' (tTru (eFn 1 (m__law_one_or_other V) (aCons (eVar 2) (aNil))))) (sRet (eC (.bl false))) (sNil))
def b_law_v43 (V : Ax) : Sv := sSeq (sSet 1 (eFn 1 (m__law_begun) (aCons (eVar 0) (aNil)))) (sSeq (sSet 2 (eFn 1 (m__law_wide_hall) (aCons (eVar 1) (aNil)))) (sSeq (sIf (tCmpE (eBin (dI0 fun i j => .bl (decide (j < i))) (eFn 2 (m__law_draw) (aCons (eVar 1) (aCons (eC (.int 4)) (aNil)))) (eC (.int 0)))) (sSet 2 (eFn 2 (m__law_meant) (aCons (eVar 1) (aCons (eVar 2) (aNil))))) (sNil)) (sSeq (sIf (tNot' (tTru (eFn 1 (m__law_one_or_other V) (aCons (eVar 2) (aNil))))) (sRet (eC (.bl false))) (sNil)) (sSeq (sFor (iRg1 (aCons (eC (.int 3)) (aNil))) (tName 3) ((lb_law_v43_0 V))) (sSeq (sSet 4 (eDic [(.inr "many", eIx (eVar 2) (eC (.str "many"))), (.inr "benches", eSl (eIx (eVar 2) (eC (.str "benches"))) (oSome (eC (.int 1))) (oNone))])) (sSeq (sSet 5 (eFn 1 (m_odd_lot_of V) (aCons (eFn 1 (m__law_made V) (aCons (eVar 2) (aNil))) (aNil)))) (sSeq (sIf (tAnd' (tCmpE (eBin dNotN (eVar 5) (eC .non))) (tAnd' (tCmpE (eEqC true (eSl (eVar 5) (oNone) (oSome (eC (.int 1)))) (eTup (aCons (eC (.int 0)) (aNil))))) (tCmpE (eBin dIs (eFn 1 (m_odd_lot_of V) (aCons (eFn 1 (m__law_made V) (aCons (eVar 4) (aNil))) (aNil))) (eC .non))))) (sRet (eC (.bl false))) (sNil)) (sRet (eFn 1 (m__law_one_or_other V) (aCons (eVar 4) (aNil)))))))))))
abbrev m_law_v43 (V : Ax) : Fn := fnOf 6 (b_law_v43 V)
/-- what is known of the classes -/
structure AxF_k22 (V : Ax) : Prop where
  lk_BadMany : V.L.lookup ("BadMany" : Str) = some (V.A 15)
  mm_BadMany : V.A 15 ∈ V.L.map (·.2)
  lk_BadBenches : V.L.lookup ("BadBenches" : Str) = some (V.A 2)
  mm_BadBenches : V.A 2 ∈ V.L.map (·.2)
  lk_BadHall : V.L.lookup ("BadHall" : Str) = some (V.A 9)
  mm_BadHall : V.A 9 ∈ V.L.map (·.2)
  kt_Hall_NoneType : PySem.W.kitOne V.K (.type "NoneType") (.ref (V.A 52)) = some false
  kt_Hall_bool : PySem.W.kitOne V.K (.type "bool") (.ref (V.A 52)) = some false
  kt_Hall_int : PySem.W.kitOne V.K (.type "int") (.ref (V.A 52)) = some false
  kt_Hall_str : PySem.W.kitOne V.K (.type "str") (.ref (V.A 52)) = some false
  kt_Hall_tuple : PySem.W.kitOne V.K (.type "tuple") (.ref (V.A 52)) = some false
  kt_Hall_list : PySem.W.kitOne V.K (.type "list") (.ref (V.A 52)) = some false
  kt_Hall_dict : PySem.W.kitOne V.K (.type "dict") (.ref (V.A 52)) = some false
  kt_Hall : PySem.W.kitOne V.K (.ref (V.A 52)) (.ref (V.A 52)) = some true
end DX
namespace DX
open PySem PySem.Spec PyProof.Rows L2
def topS (i : Nat) : Stmt := PySem.Challenge.pw_leftminus_k22_whole_a_signing_or_an_odd.main.body.getD i (.Pass ⟨0, 0, 0, 0⟩)
abbrev s__law_begun : Stmt := topS 39
theorem sc__law_begun : FnScope ["_law_script", "_law_cells_here", "_law_large", "_law_cell"] ["_law_script"] (defScope s__law_begun) := ⟨rfl, rfl, rfl, by decide +kernel, rfl, by decide +kernel, by decide +kernel⟩
abbrev s__law_draw : Stmt := topS 40
theorem sc__law_draw : FnScope ["_law_state", "_law_size_here", "_law_found", "_law_turn", "_law_cell", "_law_mixed_here"] ["_law_state", "_law_size_here"] (defScope s__law_draw) := ⟨rfl, rfl, rfl, by decide +kernel, rfl, by decide +kernel, by decide +kernel⟩
abbrev s__law_pick : Stmt := topS 41
theorem sc__law_pick : FnScope ["_law_state", "_law_several"] ["_law_state", "_law_several"] (defScope s__law_pick) := ⟨rfl, rfl, rfl, by decide +kernel, rfl, by decide +kernel, by decide +kernel⟩
abbrev s__law_sign : Stmt := topS 54
theorem sc__law_sign : FnScope ["_law_state"] ["_law_state"] (defScope s__law_sign) := ⟨rfl, rfl, rfl, by decide +kernel, rfl, by decide +kernel, by decide +kernel⟩
abbrev s__law_mixed : Stmt := topS 42
theorem sc__law_mixed : FnScope ["_law_state", "_law_several", "_law_left", "_law_found"] ["_law_state", "_law_several"] (defScope s__law_mixed) := ⟨rfl, rfl, rfl, by decide +kernel, rfl, by decide +kernel, by decide +kernel⟩
abbrev s__law_some : Stmt := topS 53
theorem sc__law_some : FnScope ["_law_state", "_law_several", "_law_least", "_law_most", "_law_many"] ["_law_state", "_law_several", "_law_least", "_law_most"] (defScope s__law_some) := ⟨rfl, rfl, rfl, by decide +kernel, rfl, by decide +kernel, by decide +kernel⟩
abbrev s__law_wide_hall : Stmt := topS 55
theorem sc__law_wide_hall : FnScope ["_law_state", "_law_many", "_law_benches_here", "_law_lap"] ["_law_state"] (defScope s__law_wide_hall) := ⟨rfl, rfl, rfl, by decide +kernel, rfl, by decide +kernel, by decide +kernel⟩
abbrev s_is_number : Stmt := topS 7
theorem sc_is_number : FnScope ["thing"] ["thing"] (defScope s_is_number) := ⟨rfl, rfl, rfl, by decide +kernel, rfl, by decide +kernel, by decide +kernel⟩
abbrev s_is_between : Stmt := topS 8
theorem sc_is_between : FnScope ["thing", "least", "most"] ["thing", "least", "most"] (defScope s_is_between) := ⟨rfl, rfl, rfl, by decide +kernel, rfl, by decide +kernel, by decide +kernel⟩
abbrev s_is_sign : Stmt := topS 9
theorem sc_is_sign : FnScope ["thing"] ["thing"] (defScope s_is_sign) := ⟨rfl, rfl, rfl, by decide +kernel, rfl, by decide +kernel, by decide +kernel⟩
abbrev s_is_rising : Stmt := topS 10
theorem sc_is_rising : FnScope ["thing", "many", "item", "one", "other"] ["thing", "many"] (defScope s_is_rising) := ⟨rfl, rfl, rfl, by decide +kernel, rfl, by decide +kernel, by decide +kernel⟩
abbrev s_is_crew : Stmt := topS 20
theorem sc_is_crew : FnScope ["many", "thing"] ["many", "thing"] (defScope s_is_crew) := ⟨rfl, rfl, rfl, by decide +kernel, rfl, by decide +kernel, by decide +kernel⟩
abbrev s_is_bench : Stmt := topS 21
theorem sc_is_bench : FnScope ["many", "thing"] ["many", "thing"] (defScope s_is_bench) := ⟨rfl, rfl, rfl, by decide +kernel, rfl, by decide +kernel, by decide +kernel⟩
abbrev s_Hall_init_ : Stmt := inClass (topS 22) 0
theorem sc_Hall_init_ : FnScope ["self", "many", "benches", "bench"] ["self", "many", "benches"] (defScope s_Hall_init_) := ⟨rfl, rfl, rfl, by decide +kernel, rfl, by decide +kernel, by decide +kernel⟩
abbrev s_need_hall : Stmt := topS 23
theorem sc_need_hall : FnScope ["hall"] ["hall"] (defScope s_need_hall) := ⟨rfl, rfl, rfl, by decide +kernel, rfl, by decide +kernel, by decide +kernel⟩
abbrev s_first_of : Stmt := topS 35
theorem sc_first_of : FnScope ["lots"] ["lots"] (defScope s_first_of) := ⟨rfl, rfl, rfl, by decide +kernel, rfl, by decide +kernel, by decide +kernel⟩
abbrev s_items_of : Stmt := topS 2
theorem sc_items_of : FnScope ["mask", "at"] ["mask"] (defScope s_items_of) := ⟨rfl, rfl, rfl, by decide +kernel, rfl, by decide +kernel, by decide +kernel⟩
abbrev s_sums_of : Stmt := topS 33
theorem sc_sums_of : FnScope ["masks", "found", "mask", "other"] ["masks"] (defScope s_sums_of) := ⟨rfl, rfl, rfl, by decide +kernel, rfl, by decide +kernel, by decide +kernel⟩
abbrev s_mask_of : Stmt := topS 1
theorem sc_mask_of : FnScope ["items", "item"] ["items"] (defScope s_mask_of) := ⟨rfl, rfl, rfl, by decide +kernel, rfl, by decide +kernel, by decide +kernel⟩
abbrev s_reduced : Stmt := topS 3
theorem sc_reduced : FnScope ["pairs", "kept", "idle", "row", "tag", "last", "at"] ["pairs"] (defScope s_reduced) := ⟨rfl, rfl, rfl, by decide +kernel, rfl, by decide +kernel, by decide +kernel⟩
abbrev s_idle_lots : Stmt := topS 5
theorem sc_idle_lots : FnScope ["rows", "_", "idle", "kept", "at", "row", "mask"] ["rows"] (defScope s_idle_lots) := ⟨rfl, rfl, rfl, by decide +kernel, rfl, by decide +kernel, by decide +kernel⟩
abbrev s_crews_of : Stmt := topS 24
theorem sc_crews_of : FnScope ["hall", "_", "crew"] ["hall"] (defScope s_crews_of) := ⟨rfl, rfl, rfl, by decide +kernel, rfl, by decide +kernel, by decide +kernel⟩
abbrev s_evens_of : Stmt := topS 26
theorem sc_evens_of : FnScope ["hall", "crew"] ["hall"] (defScope s_evens_of) := ⟨rfl, rfl, rfl, by decide +kernel, rfl, by decide +kernel, by decide +kernel⟩
abbrev s_evens_all : Stmt := topS 34
theorem sc_evens_all : FnScope ["hall", "mask", "lot"] ["hall"] (defScope s_evens_all) := ⟨rfl, rfl, rfl, by decide +kernel, rfl, by decide +kernel, by decide +kernel⟩
abbrev s_signs_of : Stmt := topS 25
theorem sc_signs_of : FnScope ["hall", "sign", "_"] ["hall"] (defScope s_signs_of) := ⟨rfl, rfl, rfl, by decide +kernel, rfl, by decide +kernel, by decide +kernel⟩
abbrev s_is_minus : Stmt := topS 27
theorem sc_is_minus : FnScope ["hall", "lot", "signs", "bench"] ["hall", "lot"] (defScope s_is_minus) := ⟨rfl, rfl, rfl, by decide +kernel, rfl, by decide +kernel, by decide +kernel⟩
abbrev s_odd_lot_for : Stmt := topS 36
theorem sc_odd_lot_for : FnScope ["hall", "lot"] ["hall"] (defScope s_odd_lot_for) := ⟨rfl, rfl, rfl, by decide +kernel, rfl, by decide +kernel, by decide +kernel⟩
abbrev s_odd_lot_of : Stmt := topS 37
theorem sc_odd_lot_of : FnScope ["hall"] ["hall"] (defScope s_odd_lot_of) := ⟨rfl, rfl, rfl, by decide +kernel, rfl, by decide +kernel, by decide +kernel⟩
abbrev s__law_made : Stmt := topS 48
theorem sc__law_made : FnScope ["_law_scope"] ["_law_scope"] (defScope s__law_made) := ⟨rfl, rfl, rfl, by decide +kernel, rfl, by decide +kernel, by decide +kernel⟩
abbrev s_solved : Stmt := topS 4
theorem sc_solved : FnScope ["pairs", "kept", "idle", "row", "goal"] ["pairs"] (defScope s_solved) := ⟨rfl, rfl, rfl, by decide +kernel, rfl, by decide +kernel, by decide +kernel⟩
abbrev s_breaking_of : Stmt := topS 29
theorem sc_breaking_of : FnScope ["hall", "lot", "pairs", "at", "crew", "less", "found", "turner"] ["hall", "lot"] (defScope s_breaking_of) := ⟨rfl, rfl, rfl, by decide +kernel, rfl, by decide +kernel, by decide +kernel⟩
abbrev s_signing_for : Stmt := topS 30
theorem sc_signing_for : FnScope ["hall"] ["hall"] (defScope s_signing_for) := ⟨rfl, rfl, rfl, by decide +kernel, rfl, by decide +kernel, by decide +kernel⟩
abbrev s_signing_of : Stmt := topS 31
theorem sc_signing_of : FnScope ["hall"] ["hall"] (defScope s_signing_of) := ⟨rfl, rfl, rfl, by decide +kernel, rfl, by decide +kernel, by decide +kernel⟩
abbrev s__law_is_whole : Stmt := topS 43
theorem sc__law_is_whole : FnScope ["_law_item"] ["_law_item"] (defScope s__law_is_whole) := ⟨rfl, rfl, rfl, by decide +kernel, rfl, by decide +kernel, by decide +kernel⟩
abbrev s__law_is_below : Stmt := topS 44
theorem sc__law_is_below : FnScope ["_law_item", "_law_size_here"] ["_law_item", "_law_size_here"] (defScope s__law_is_below) := ⟨rfl, rfl, rfl, by decide +kernel, rfl, by decide +kernel, by decide +kernel⟩
abbrev s__law_is_rising : Stmt := topS 46
theorem sc__law_is_rising : FnScope ["_law_item", "_law_many", "_law_each", "_law_spot"] ["_law_item", "_law_many"] (defScope s__law_is_rising) := ⟨rfl, rfl, rfl, by decide +kernel, rfl, by decide +kernel, by decide +kernel⟩
abbrev s__law_is_minus : Stmt := topS 51
theorem sc__law_is_minus : FnScope ["_law_scope", "_law_lot", "_law_spot"] ["_law_scope", "_law_lot"] (defScope s__law_is_minus) := ⟨rfl, rfl, rfl, by decide +kernel, rfl, by decide +kernel, by decide +kernel⟩
abbrev s__law_is_odd_lot : Stmt := topS 57
theorem sc__law_is_odd_lot : FnScope ["_law_scope", "_law_item", "_law_turner_here", "_law_many", "_law_spot"] ["_law_scope", "_law_item"] (defScope s__law_is_odd_lot) := ⟨rfl, rfl, rfl, by decide +kernel, rfl, by decide +kernel, by decide +kernel⟩
abbrev s__law_are_signs : Stmt := topS 58
theorem sc__law_are_signs : FnScope ["_law_item", "_law_many", "_law_each"] ["_law_item", "_law_many"] (defScope s__law_are_signs) := ⟨rfl, rfl, rfl, by decide +kernel, rfl, by decide +kernel, by decide +kernel⟩
abbrev s__law_signs_of : Stmt := topS 52
theorem sc__law_signs_of : FnScope ["_law_scope", "_law_several", "_law_found", "_law_sign_here", "_law_crew", "_law_less", "_law_item"] ["_law_scope", "_law_several"] (defScope s__law_signs_of) := ⟨rfl, rfl, rfl, by decide +kernel, rfl, by decide +kernel, by decide +kernel⟩
abbrev s__law_broken : Stmt := topS 56
theorem sc__law_broken : FnScope ["_law_scope", "_law_several", "_law_told", "_law_spot"] ["_law_scope", "_law_several"] (defScope s__law_broken) := ⟨rfl, rfl, rfl, by decide +kernel, rfl, by decide +kernel, by decide +kernel⟩
abbrev s_signings_many : Stmt := topS 32
theorem sc_signings_many : FnScope ["hall", "kept", "_", "crew"] ["hall"] (defScope s_signings_many) := ⟨rfl, rfl, rfl, by decide +kernel, rfl, by decide +kernel, by decide +kernel⟩
abbrev s__law_power : Stmt := topS 61
theorem sc__law_power : FnScope ["_law_times_here", "_law_found", "_law_lap"] ["_law_times_here"] (defScope s__law_power) := ⟨rfl, rfl, rfl, by decide +kernel, rfl, by decide +kernel, by decide +kernel⟩
abbrev s__law_crews : Stmt := topS 49
theorem sc__law_crews : FnScope ["_law_scope", "_law_sign_here", "_law_crew"] ["_law_scope"] (defScope s__law_crews) := ⟨rfl, rfl, rfl, by decide +kernel, rfl, by decide +kernel, by decide +kernel⟩
abbrev s__law_unlike : Stmt := topS 47
theorem sc__law_unlike : FnScope ["_law_one", "_law_other", "_law_item"] ["_law_one", "_law_other"] (defScope s__law_unlike) := ⟨rfl, rfl, rfl, by decide +kernel, rfl, by decide +kernel, by decide +kernel⟩
abbrev s__law_freedom : Stmt := topS 62
theorem sc__law_freedom : FnScope ["_law_scope", "_law_crews_here", "_law_many", "_law_item", "_law_near", "_law_crew"] ["_law_scope"] (defScope s__law_freedom) := ⟨rfl, rfl, rfl, by decide +kernel, rfl, by decide +kernel, by decide +kernel⟩
abbrev s__law_one_or_other : Stmt := topS 63
theorem sc__law_one_or_other : FnScope ["_law_scope", "_law_made_here", "_law_several", "_law_lot"] ["_law_scope"] (defScope s__law_one_or_other) := ⟨rfl, rfl, rfl, by decide +kernel, rfl, by decide +kernel, by decide +kernel⟩
abbrev s__law_drawn_signs : Stmt := topS 59
theorem sc__law_drawn_signs : FnScope ["_law_state", "_law_many", "_law_lap"] ["_law_state", "_law_many"] (defScope s__law_drawn_signs) := ⟨rfl, rfl, rfl, by decide +kernel, rfl, by decide +kernel, by decide +kernel⟩
abbrev s__law_meant : Stmt := topS 60
theorem sc__law_meant : FnScope ["_law_state", "_law_scope", "_law_several", "_law_found", "_law_sign_here", "_law_crew", "_law_less", "_law_item"] ["_law_state", "_law_scope"] (defScope s__law_meant) := ⟨rfl, rfl, rfl, by decide +kernel, rfl, by decide +kernel, by decide +kernel⟩
abbrev s__law_put : Stmt := topS 45
theorem sc__law_put : FnScope ["_law_row", "_law_spot", "_law_item"] ["_law_row", "_law_spot", "_law_item"] (defScope s__law_put) := ⟨rfl, rfl, rfl, by decide +kernel, rfl, by decide +kernel, by decide +kernel⟩
abbrev s__law_one_turned : Stmt := topS 50
theorem sc__law_one_turned : FnScope ["_law_state", "_law_scope", "_law_spot", "_law_sign_here", "_law_crew"] ["_law_state", "_law_scope"] (defScope s__law_one_turned) := ⟨rfl, rfl, rfl, by decide +kernel, rfl, by decide +kernel, by decide +kernel⟩
abbrev s_law : Stmt := topS 64
theorem sc_law : FnScope ["_law_script", "_law_state", "_law_scope", "_law_lap", "_law_less", "_law_lot"] ["_law_script"] (defScope s_law) := ⟨rfl, rfl, rfl, by decide +kernel, rfl, by decide +kernel, by decide +kernel⟩
set_option genInjectivity false
set_option genSizeOf false
structure Top (K : Frag) (mg : MG) where
  C_Hall : Addr
  M_Hall : mg "Hall" = some (.ref C_Hall)
  f__law_begun : Addr
  d__law_begun : FuncData
  F__law_begun : Fun K "_law_begun" "_law_begun" s__law_begun f__law_begun d__law_begun
  m__law_begun : mg "_law_begun" = some (.ref f__law_begun)
  b__law_begun : L2.Binds K d__law_begun ["_law_script"] []
  f__law_draw : Addr
  d__law_draw : FuncData
  F__law_draw : Fun K "_law_draw" "_law_draw" s__law_draw f__law_draw d__law_draw
  m__law_draw : mg "_law_draw" = some (.ref f__law_draw)
  b__law_draw : L2.Binds K d__law_draw ["_law_state", "_law_size_here"] []
  f__law_pick : Addr
  d__law_pick : FuncData
  F__law_pick : Fun K "_law_pick" "_law_pick" s__law_pick f__law_pick d__law_pick
  m__law_pick : mg "_law_pick" = some (.ref f__law_pick)
  b__law_pick : L2.Binds K d__law_pick ["_law_state", "_law_several"] []
  f__law_sign : Addr
  d__law_sign : FuncData
  F__law_sign : Fun K "_law_sign" "_law_sign" s__law_sign f__law_sign d__law_sign
  m__law_sign : mg "_law_sign" = some (.ref f__law_sign)
  b__law_sign : L2.Binds K d__law_sign ["_law_state"] []
  f__law_mixed : Addr
  d__law_mixed : FuncData
  F__law_mixed : Fun K "_law_mixed" "_law_mixed" s__law_mixed f__law_mixed d__law_mixed
  m__law_mixed : mg "_law_mixed" = some (.ref f__law_mixed)
  b__law_mixed : L2.Binds K d__law_mixed ["_law_state", "_law_several"] []
  f__law_some : Addr
  d__law_some : FuncData
  F__law_some : Fun K "_law_some" "_law_some" s__law_some f__law_some d__law_some
  m__law_some : mg "_law_some" = some (.ref f__law_some)
  b__law_some : L2.Binds K d__law_some ["_law_state", "_law_several", "_law_least", "_law_most"] []
  f__law_wide_hall : Addr
  d__law_wide_hall : FuncData
  F__law_wide_hall : Fun K "_law_wide_hall" "_law_wide_hall" s__law_wide_hall f__law_wide_hall d__law_wide_hall
  m__law_wide_hall : mg "_law_wide_hall" = some (.ref f__law_wide_hall)
  b__law_wide_hall : L2.Binds K d__law_wide_hall ["_law_state"] []
  f_is_number : Addr
  d_is_number : FuncData
  F_is_number : Fun K "is_number" "is_number" s_is_number f_is_number d_is_number
  m_is_number : mg "is_number" = some (.ref f_is_number)
  b_is_number : L2.Binds K d_is_number ["thing"] []
  f_is_between : Addr
  d_is_between : FuncData
  F_is_between : Fun K "is_between" "is_between" s_is_between f_is_between d_is_between
  m_is_between : mg "is_between" = some (.ref f_is_between)
  b_is_between : L2.Binds K d_is_between ["thing", "least", "most"] []
  f_is_sign : Addr
  d_is_sign : FuncData
  F_is_sign : Fun K "is_sign" "is_sign" s_is_sign f_is_sign d_is_sign
  m_is_sign : mg "is_sign" = some (.ref f_is_sign)
  b_is_sign : L2.Binds K d_is_sign ["thing"] []
  f_is_rising : Addr
  d_is_rising : FuncData
  F_is_rising : Fun K "is_rising" "is_rising" s_is_rising f_is_rising d_is_rising
  m_is_rising : mg "is_rising" = some (.ref f_is_rising)
  b_is_rising : L2.Binds K d_is_rising ["thing", "many"] []
  f_is_crew : Addr
  d_is_crew : FuncData
  F_is_crew : Fun K "is_crew" "is_crew" s_is_crew f_is_crew d_is_crew
  m_is_crew : mg "is_crew" = some (.ref f_is_crew)
  b_is_crew : L2.Binds K d_is_crew ["many", "thing"] []
  f_is_bench : Addr
  d_is_bench : FuncData
  F_is_bench : Fun K "is_bench" "is_bench" s_is_bench f_is_bench d_is_bench
  m_is_bench : mg "is_bench" = some (.ref f_is_bench)
  b_is_bench : L2.Binds K d_is_bench ["many", "thing"] []
  f_Hall_init_ : Addr
  d_Hall_init_ : FuncData
  F_Hall_init_ : Fun K "__init__" "Hall.__init__" s_Hall_init_ f_Hall_init_ d_Hall_init_
  b_Hall_init_ : L2.Binds K d_Hall_init_ ["self", "many", "benches"] []
  f_need_hall : Addr
  d_need_hall : FuncData
  F_need_hall : Fun K "need_hall" "need_hall" s_need_hall f_need_hall d_need_hall
  m_need_hall : mg "need_hall" = some (.ref f_need_hall)
  b_need_hall : L2.Binds K d_need_hall ["hall"] []
  f_first_of : Addr
  d_first_of : FuncData
  F_first_of : Fun K "first_of" "first_of" s_first_of f_first_of d_first_of
  m_first_of : mg "first_of" = some (.ref f_first_of)
  b_first_of : L2.Binds K d_first_of ["lots"] []
  f_items_of : Addr
  d_items_of : FuncData
  F_items_of : Fun K "items_of" "items_of" s_items_of f_items_of d_items_of
  m_items_of : mg "items_of" = some (.ref f_items_of)
  b_items_of : L2.Binds K d_items_of ["mask"] []
  f_sums_of : Addr
  d_sums_of : FuncData
  F_sums_of : Fun K "sums_of" "sums_of" s_sums_of f_sums_of d_sums_of
  m_sums_of : mg "sums_of" = some (.ref f_sums_of)
  b_sums_of : L2.Binds K d_sums_of ["masks"] []
  f_mask_of : Addr
  d_mask_of : FuncData
  F_mask_of : Fun K "mask_of" "mask_of" s_mask_of f_mask_of d_mask_of
  m_mask_of : mg "mask_of" = some (.ref f_mask_of)
  b_mask_of : L2.Binds K d_mask_of ["items"] []
  f_reduced : Addr
  d_reduced : FuncData
  F_reduced : Fun K "reduced" "reduced" s_reduced f_reduced d_reduced
  m_reduced : mg "reduced" = some (.ref f_reduced)
  b_reduced : L2.Binds K d_reduced ["pairs"] []
  f_idle_lots : Addr
  d_idle_lots : FuncData
  F_idle_lots : Fun K "idle_lots" "idle_lots" s_idle_lots f_idle_lots d_idle_lots
  m_idle_lots : mg "idle_lots" = some (.ref f_idle_lots)
  b_idle_lots : L2.Binds K d_idle_lots ["rows"] []
  f_crews_of : Addr
  d_crews_of : FuncData
  F_crews_of : Fun K "crews_of" "crews_of" s_crews_of f_crews_of d_crews_of
  m_crews_of : mg "crews_of" = some (.ref f_crews_of)
  b_crews_of : L2.Binds K d_crews_of ["hall"] []
  f_evens_of : Addr
  d_evens_of : FuncData
  F_evens_of : Fun K "evens_of" "evens_of" s_evens_of f_evens_of d_evens_of
  m_evens_of : mg "evens_of" = some (.ref f_evens_of)
  b_evens_of : L2.Binds K d_evens_of ["hall"] []
  f_evens_all : Addr
  d_evens_all : FuncData
  F_evens_all : Fun K "evens_all" "evens_all" s_evens_all f_evens_all d_evens_all
  m_evens_all : mg "evens_all" = some (.ref f_evens_all)
  b_evens_all : L2.Binds K d_evens_all ["hall"] []
  f_signs_of : Addr
  d_signs_of : FuncData
  F_signs_of : Fun K "signs_of" "signs_of" s_signs_of f_signs_of d_signs_of
  m_signs_of : mg "signs_of" = some (.ref f_signs_of)
  b_signs_of : L2.Binds K d_signs_of ["hall"] []
  f_is_minus : Addr
  d_is_minus : FuncData
  F_is_minus : Fun K "is_minus" "is_minus" s_is_minus f_is_minus d_is_minus
  m_is_minus : mg "is_minus" = some (.ref f_is_minus)
  b_is_minus : L2.Binds K d_is_minus ["hall", "lot"] []
  f_odd_lot_for : Addr
  d_odd_lot_for : FuncData
  F_odd_lot_for : Fun K "odd_lot_for" "odd_lot_for" s_odd_lot_for f_odd_lot_for d_odd_lot_for
  m_odd_lot_for : mg "odd_lot_for" = some (.ref f_odd_lot_for)
  b_odd_lot_for : L2.Binds K d_odd_lot_for ["hall"] []
  f_odd_lot_of : Addr
  d_odd_lot_of : FuncData
  F_odd_lot_of : Fun K "odd_lot_of" "odd_lot_of" s_odd_lot_of f_odd_lot_of d_odd_lot_of
  m_odd_lot_of : mg "odd_lot_of" = some (.ref f_odd_lot_of)
  b_odd_lot_of : L2.Binds K d_odd_lot_of ["hall"] []
  f__law_made : Addr
  d__law_made : FuncData
  F__law_made : Fun K "_law_made" "_law_made" s__law_made f__law_made d__law_made
  m__law_made : mg "_law_made" = some (.ref f__law_made)
  b__law_made : L2.Binds K d__law_made ["_law_scope"] []
  f_solved : Addr
  d_solved : FuncData
  F_solved : Fun K "solved" "solved" s_solved f_solved d_solved
  m_solved : mg "solved" = some (.ref f_solved)
  b_solved : L2.Binds K d_solved ["pairs"] []
  f_breaking_of : Addr
  d_breaking_of : FuncData
  F_breaking_of : Fun K "breaking_of" "breaking_of" s_breaking_of f_breaking_of d_breaking_of
  m_breaking_of : mg "breaking_of" = some (.ref f_breaking_of)
  b_breaking_of : L2.Binds K d_breaking_of ["hall", "lot"] []
  f_signing_for : Addr
  d_signing_for : FuncData
  F_signing_for : Fun K "signing_for" "signing_for" s_signing_for f_signing_for d_signing_for
  m_signing_for : mg "signing_for" = some (.ref f_signing_for)
  b_signing_for : L2.Binds K d_signing_for ["hall"] []
  f_signing_of : Addr
  d_signing_of : FuncData
  F_signing_of : Fun K "signing_of" "signing_of" s_signing_of f_signing_of d_signing_of
  m_signing_of : mg "signing_of" = some (.ref f_signing_of)
  b_signing_of : L2.Binds K d_signing_of ["hall"] []
  f__law_is_whole : Addr
  d__law_is_whole : FuncData
  F__law_is_whole : Fun K "_law_is_whole" "_law_is_whole" s__law_is_whole f__law_is_whole d__law_is_whole
  m__law_is_whole : mg "_law_is_whole" = some (.ref f__law_is_whole)
  b__law_is_whole : L2.Binds K d__law_is_whole ["_law_item"] []
  f__law_is_below : Addr
  d__law_is_below : FuncData
  F__law_is_below : Fun K "_law_is_below" "_law_is_below" s__law_is_below f__law_is_below d__law_is_below
  m__law_is_below : mg "_law_is_below" = some (.ref f__law_is_below)
  b__law_is_below : L2.Binds K d__law_is_below ["_law_item", "_law_size_here"] []
  f__law_is_rising : Addr
  d__law_is_rising : FuncData
  F__law_is_rising : Fun K "_law_is_rising" "_law_is_rising" s__law_is_rising f__law_is_rising d__law_is_rising
  m__law_is_rising : mg "_law_is_rising" = some (.ref f__law_is_rising)
  b__law_is_rising : L2.Binds K d__law_is_rising ["_law_item", "_law_many"] []
  f__law_is_minus : Addr
  d__law_is_minus : FuncData
  F__law_is_minus : Fun K "_law_is_minus" "_law_is_minus" s__law_is_minus f__law_is_minus d__law_is_minus
  m__law_is_minus : mg "_law_is_minus" = some (.ref f__law_is_minus)
  b__law_is_minus : L2.Binds K d__law_is_minus ["_law_scope", "_law_lot"] []
  f__law_is_odd_lot : Addr
  d__law_is_odd_lot : FuncData
  F__law_is_odd_lot : Fun K "_law_is_odd_lot" "_law_is_odd_lot" s__law_is_odd_lot f__law_is_odd_lot d__law_is_odd_lot
  m__law_is_odd_lot : mg "_law_is_odd_lot" = some (.ref f__law_is_odd_lot)
  b__law_is_odd_lot : L2.Binds K d__law_is_odd_lot ["_law_scope", "_law_item"] []
  f__law_are_signs : Addr
  d__law_are_signs : FuncData
  F__law_are_signs : Fun K "_law_are_signs" "_law_are_signs" s__law_are_signs f__law_are_signs d__law_are_signs
  m__law_are_signs : mg "_law_are_signs" = some (.ref f__law_are_signs)
  b__law_are_signs : L2.Binds K d__law_are_signs ["_law_item", "_law_many"] []
  f__law_signs_of : Addr
  d__law_signs_of : FuncData
  F__law_signs_of : Fun K "_law_signs_of" "_law_signs_of" s__law_signs_of f__law_signs_of d__law_signs_of
  m__law_signs_of : mg "_law_signs_of" = some (.ref f__law_signs_of)
  b__law_signs_of : L2.Binds K d__law_signs_of ["_law_scope", "_law_several"] []
  f__law_broken : Addr
  d__law_broken : FuncData
  F__law_broken : Fun K "_law_broken" "_law_broken" s__law_broken f__law_broken d__law_broken
  m__law_broken : mg "_law_broken" = some (.ref f__law_broken)
  b__law_broken : L2.Binds K d__law_broken ["_law_scope", "_law_several"] []
  f_signings_many : Addr
  d_signings_many : FuncData
  F_signings_many : Fun K "signings_many" "signings_many" s_signings_many f_signings_many d_signings_many
  m_signings_many : mg "signings_many" = some (.ref f_signings_many)
  b_signings_many : L2.Binds K d_signings_many ["hall"] []
  f__law_power : Addr
  d__law_power : FuncData
  F__law_power : Fun K "_law_power" "_law_power" s__law_power f__law_power d__law_power
  m__law_power : mg "_law_power" = some (.ref f__law_power)
  b__law_power : L2.Binds K d__law_power ["_law_times_here"] []
  f__law_crews : Addr
  d__law_crews : FuncData
  F__law_crews : Fun K "_law_crews" "_law_crews" s__law_crews f__law_crews d__law_crews
  m__law_crews : mg "_law_crews" = some (.ref f__law_crews)
  b__law_crews : L2.Binds K d__law_crews ["_law_scope"] []
  f__law_unlike : Addr
  d__law_unlike : FuncData
  F__law_unlike : Fun K "_law_unlike" "_law_unlike" s__law_unlike f__law_unlike d__law_unlike
  m__law_unlike : mg "_law_unlike" = some (.ref f__law_unlike)
  b__law_unlike : L2.Binds K d__law_unlike ["_law_one", "_law_other"] []
  f__law_freedom : Addr
  d__law_freedom : FuncData
  F__law_freedom : Fun K "_law_freedom" "_law_freedom" s__law_freedom f__law_freedom d__law_freedom
  m__law_freedom : mg "_law_freedom" = some (.ref f__law_freedom)
  b__law_freedom : L2.Binds K d__law_freedom ["_law_scope"] []
  f__law_one_or_other : Addr
  d__law_one_or_other : FuncData
  F__law_one_or_other : Fun K "_law_one_or_other" "_law_one_or_other" s__law_one_or_other f__law_one_or_other d__law_one_or_other
  m__law_one_or_other : mg "_law_one_or_other" = some (.ref f__law_one_or_other)
  b__law_one_or_other : L2.Binds K d__law_one_or_other ["_law_scope"] []
  f__law_drawn_signs : Addr
  d__law_drawn_signs : FuncData
  F__law_drawn_signs : Fun K "_law_drawn_signs" "_law_drawn_signs" s__law_drawn_signs f__law_drawn_signs d__law_drawn_signs
  m__law_drawn_signs : mg "_law_drawn_signs" = some (.ref f__law_drawn_signs)
  b__law_drawn_signs : L2.Binds K d__law_drawn_signs ["_law_state", "_law_many"] []
  f__law_meant : Addr
  d__law_meant : FuncData
  F__law_meant : Fun K "_law_meant" "_law_meant" s__law_meant f__law_meant d__law_meant
  m__law_meant : mg "_law_meant" = some (.ref f__law_meant)
  b__law_meant : L2.Binds K d__law_meant ["_law_state", "_law_scope"] []
  f__law_put : Addr
  d__law_put : FuncData
  F__law_put : Fun K "_law_put" "_law_put" s__law_put f__law_put d__law_put
  m__law_put : mg "_law_put" = some (.ref f__law_put)
  b__law_put : L2.Binds K d__law_put ["_law_row", "_law_spot", "_law_item"] []
  f__law_one_turned : Addr
  d__law_one_turned : FuncData
  F__law_one_turned : Fun K "_law_one_turned" "_law_one_turned" s__law_one_turned f__law_one_turned d__law_one_turned
  m__law_one_turned : mg "_law_one_turned" = some (.ref f__law_one_turned)
  b__law_one_turned : L2.Binds K d__law_one_turned ["_law_state", "_law_scope"] []
  f_law : Addr
  d_law : FuncData
  F_law : Fun K "law" "law" s_law f_law d_law
  m_law : mg "law" = some (.ref f_law)
  b_law : L2.Binds K d_law ["_law_script"] []
  C_TurnError : Addr
  M_TurnError : mg "TurnError" = some (.ref C_TurnError)
  q_TurnError : PySem.W.excIn K C_TurnError bmV newV = true
  k_TurnError : PySem.W.keepIn K (.ref C_TurnError) = true
  r_TurnError : PySem.W.subIn K (.ref C_TurnError) (.type "BaseException") = some true
  t_TurnError : PySem.W.typeIn K (.ref C_TurnError) = some (.type "type")
  X_TurnError : ExcC K C_TurnError
  C_BadMany : Addr
  M_BadMany : mg "BadMany" = some (.ref C_BadMany)
  q_BadMany : PySem.W.excIn K C_BadMany bmV newV = true
  k_BadMany : PySem.W.keepIn K (.ref C_BadMany) = true
  r_BadMany : PySem.W.subIn K (.ref C_BadMany) (.type "BaseException") = some true
  t_BadMany : PySem.W.typeIn K (.ref C_BadMany) = some (.type "type")
  X_BadMany : ExcC K C_BadMany
  C_BadBenches : Addr
  M_BadBenches : mg "BadBenches" = some (.ref C_BadBenches)
  q_BadBenches : PySem.W.excIn K C_BadBenches bmV newV = true
  k_BadBenches : PySem.W.keepIn K (.ref C_BadBenches) = true
  r_BadBenches : PySem.W.subIn K (.ref C_BadBenches) (.type "BaseException") = some true
  t_BadBenches : PySem.W.typeIn K (.ref C_BadBenches) = some (.type "type")
  X_BadBenches : ExcC K C_BadBenches
  C_BadHall : Addr
  M_BadHall : mg "BadHall" = some (.ref C_BadHall)
  q_BadHall : PySem.W.excIn K C_BadHall bmV newV = true
  k_BadHall : PySem.W.keepIn K (.ref C_BadHall) = true
  r_BadHall : PySem.W.subIn K (.ref C_BadHall) (.type "BaseException") = some true
  t_BadHall : PySem.W.typeIn K (.ref C_BadHall) = some (.type "type")
  X_BadHall : ExcC K C_BadHall
  cl_Hall : Cls K C_Hall
  ic_Hall : OwnC K C_Hall
  mk_Hall : Mk K C_Hall f_Hall_init_
  nf_Hall_benches : NoAttr K C_Hall "benches"
  nf_Hall_many : NoAttr K C_Hall "many"
  g_MOST_TURNERS : ∃ t, mg "MOST_TURNERS" = some (.int 15 t)
  g_MOST_BENCHES : ∃ t, mg "MOST_BENCHES" = some (.int 12 t)
  g_MOST_CREW : ∃ t, mg "MOST_CREW" = some (.int 8 t)
  z_abs : mg "abs" = none
  z_all : mg "all" = none
  z_bool : mg "bool" = none
  z_enumerate : mg "enumerate" = none
  z_int : mg "int" = none
  z_isinstance : mg "isinstance" = none
  z_len : mg "len" = none
  z_list : mg "list" = none
  z_min : mg "min" = none
  z_range : mg "range" = none
  z_repr : mg "repr" = none
  z_sorted : mg "sorted" = none
  z_sum : mg "sum" = none
  z_tuple : mg "tuple" = none
  z_zip : mg "zip" = none
  c_first_of : Addr
  P_first_of : Addr
  e_first_of : d_first_of.code = .ref c_first_of
  y_BadMany : PySem.W.exmOne K (.ref C_BadMany) (.ref C_TurnError) = some true
  y_BadBenches : PySem.W.exmOne K (.ref C_BadBenches) (.ref C_TurnError) = some true
  y_BadHall : PySem.W.exmOne K (.ref C_BadHall) (.ref C_TurnError) = some true
set_option genInjectivity true
set_option genSizeOf true
def Top.caught {K : Frag} {mg : MG} (T : Top K mg) : List (Str × Addr) := [("BadMany", T.C_BadMany), ("BadBenches", T.C_BadBenches), ("BadHall", T.C_BadHall)]
@[reducible] def lamM (f n k : Nat) : LamK := match f with  | _ => lamN
@[reducible] def Top.ax {K : Frag} {mg : MG} (T : Top K mg) : Ax := ⟨K, fun n => match n with | 0 => T.C_TurnError | 2 => T.C_BadBenches | 9 => T.C_BadHall | 15 => T.C_BadMany | 52 => T.C_Hall | _ => 0, T.caught, lamM⟩
def Top.tabs {K : Frag} {mg : MG} (T : Top K mg) : List (Addr × Str) := [(T.P_first_of, (envOfC "first_of" (defScope s_first_of) 0 0 .none).qual ++ "<lambda>")]
structure Tb [TabT] {K : Frag} {mg : MG} (T : Top K mg) (base : Heap) : Prop where
  eq : TabT.T = T.tabs
  tab_first_of : LamX.TabB base mg T.c_first_of T.P_first_of
section
variable [TabT] {P : Program} {w : World} {K : Frag} {mg : MG} {base : Heap}
theorem w__law_begun (T : Top K mg) : FnG P w K mg base false 1 T.f__law_begun T.d__law_begun ["_law_script"] (m__law_begun) := fng_of T.F__law_begun sc__law_begun fun cdv A outer s H E hc hr hgd => svs_cons (sv_setLc (i := 1) eOfF (fun _ _ _ _ h => data_use h) rfl sc__law_begun.nd rfl rfl (sw_true rfl rfl rfl rfl) (ei_seq (evV 0)) (own := [("_law_cell", 3)]) (blkOk_by (N := ["_law_script", "_law_cells_here", "_law_large", "_law_cell"]) (sc := defScope s__law_begun) (by decide +kernel)) (fun _ _ _ _ _ => gv_name (i := 3) sc__law_begun.nd rfl (by first | exact .inl rfl | exact .inr rfl) (by first | exact .inl rfl | exact .inr rfl)) (fun _ _ _ _ _ => ets_nil) (fun _ _ _ _ _ => b_abs rfl T.z_abs (ea_cons (evV 3) (ea_nil) rfl) rfl) (by decide) (fun _ => rfl))
    (svs_cons (sv_setLc (i := 2) eCelF (fun _ _ _ _ h => cell_use h) rfl sc__law_begun.nd rfl rfl (sw_true rfl rfl rfl rfl) (ei_seq (evV 1)) (own := [("_law_cell", 3)]) (blkOk_by (N := ["_law_script", "_law_cells_here", "_law_large", "_law_cell"]) (sc := defScope s__law_begun) (by decide +kernel)) (fun _ _ _ _ _ => gv_name (i := 3) sc__law_begun.nd rfl (by first | exact .inl rfl | exact .inr rfl) (by first | exact .inl rfl | exact .inr rfl)) (fun _ _ _ _ _ => ets_one (et_ge (evV 3) (ev_pow (ev_int) (ev_int)))) (fun _ _ _ _ _ => ev_sub (evV 3) (ev_pow (ev_int) (ev_int))) (by decide) (fun _ => rfl))
    (svs_one (sv_ret (ev_dicC (ep_str (evV 2) (ep_str (evV 1) (ep_str (ev_int) (ep_str (ev_int) (ep_nil))))) rfl rfl (List.cons_ne_nil _ _) (by decide) (of_decide_eq_true rfl) (by decide +kernel)))))
theorem w__law_draw (T : Top K mg) : FnG P w K mg base false 1 T.f__law_draw T.d__law_draw ["_law_state", "_law_size_here"] (m__law_draw) := fng_of T.F__law_draw sc__law_draw fun cdv A outer s H E hc hr hgd => svs_cons (sv_while mu__law_draw_0 owOf (et_w (ew_and (et_eqC (Room.u64 hr) (ev_ix (Room.u1 hr) (evV 0) (ev_str) (fun _ _ => rfl) (fun _ _ => rfl)) (ev_int)) (ew_and1 (et_neC (Room.u64 hr) (ev_ix (Room.u1 hr) (evV 0) (ev_str) (fun _ _ => rfl) (fun _ _ => rfl)) (ev_lst (ea_nil)))))) (svs_one (sv_put (Room.u1 hr) (evV 0) (ev_str) (ev_popAt (ev_ix (Room.u1 hr) (evV 0) (ev_str) (fun _ _ => rfl) (fun _ _ => rfl)) (ea_cons (ev_int) (ea_nil) rfl) rfl rfl rfl rfl) rfl)))
    (svs_cons (sv_if (et_gt (ev_ix (Room.u1 hr) (evV 0) (ev_str) (fun _ _ => rfl) (fun _ _ => rfl)) (ev_int)) (svs_cons (sv_set (i := 2) sc__law_draw.nd rfl (by first | exact .inl rfl | exact .inr rfl) (ev_mod (b_int rfl T.z_int (ea_cons (ev_ix (Room.u1 hr) (evV 0) (ev_str) (fun _ _ => rfl) (fun _ _ => rfl)) (ea_nil) rfl) rfl) (evV 1)) rfl (by first | exact .inl rfl | exact .inr rfl))
    (svs_cons (sv_put (Room.u1 hr) (evV 0) (ev_str) (ev_fdiv (ev_ix (Room.u1 hr) (evV 0) (ev_str) (fun _ _ => rfl) (fun _ _ => rfl)) (evV 1)) rfl)
    (svs_one (sv_ret (evV 2))))) (svs_nil))
    (svs_cons (sv_set (i := 3) sc__law_draw.nd rfl (by first | exact .inl rfl | exact .inr rfl) (ev_add (ev_ix (Room.u1 hr) (evV 0) (ev_str) (fun _ _ => rfl) (fun _ _ => rfl)) (ev_int)) rfl (by first | exact .inl rfl | exact .inr rfl))
    (svs_cons (sv_put (Room.u1 hr) (evV 0) (ev_str) (evV 3) rfl)
    (svs_cons (sv_set (i := 4) sc__law_draw.nd rfl (by first | exact .inl rfl | exact .inr rfl) (ev_if (et_neC (Room.u64 hr) (ev_ix (Room.u1 hr) (evV 0) (ev_str) (fun _ _ => rfl) (fun _ _ => rfl)) (ev_lst (ea_nil))) (ev_ix (Room.u1 hr) (ev_ix (Room.u1 hr) (evV 0) (ev_str) (fun _ _ => rfl) (fun _ _ => rfl)) (ev_mod (b_int rfl T.z_int (ea_cons (evV 3) (ea_nil) rfl) rfl) (b_len rfl T.z_len (ea_cons (ev_ix (Room.u1 hr) (evV 0) (ev_str) (fun _ _ => rfl) (fun _ _ => rfl)) (ea_nil) rfl) rfl)) (fun _ _ => rfl) (fun _ _ => rfl)) (ev_int)) rfl (by first | exact .inl rfl | exact .inr rfl))
    (svs_cons (sv_set (i := 5) sc__law_draw.nd rfl (by first | exact .inl rfl | exact .inr rfl) (ev_mod (b_int rfl T.z_int (ea_cons (ev_pow (ev_add (ev_add (ev_mod (b_int rfl T.z_int (ea_cons (evV 4) (ea_nil) rfl) rfl) (ev_int)) (ev_mul (ev_int) (evV 3))) (ev_int)) (ev_int)) (ea_nil) rfl) rfl) (ev_int)) rfl (by first | exact .inl rfl | exact .inr rfl))
    (svs_one (sv_ret (ev_mod (b_int rfl T.z_int (ea_cons (ev_fdiv (ev_mod (b_int rfl T.z_int (ea_cons (ev_pow (ev_add (evV 5) (ev_mul (ev_int) (evV 3))) (ev_int)) (ea_nil) rfl) rfl) (ev_int)) (ev_int)) (ea_nil) rfl) rfl) (evV 1)))))))))
theorem w__law_pick (T : Top K mg) : FnG P w K mg base false 2 T.f__law_pick T.d__law_pick ["_law_state", "_law_several"] (m__law_pick) := fng_of T.F__law_pick sc__law_pick fun cdv A outer s H E hc hr hgd => svs_one (sv_ret (ev_ix (Room.u1 hr) (evV 1) (ev_callF (gd := false) (k := 1) (ps := ["_law_state", "_law_size_here"]) ((w__law_draw T).mono (by decide)) hr (fun h => nomatch h) psOf rfl T.m__law_draw T.F__law_draw.kp T.b__law_draw (ea_cons (evV 0) (ea_cons (b_len rfl T.z_len (ea_cons (evV 1) (ea_nil) rfl) rfl) (ea_nil) rfl) rfl) (by decide) rfl rfl) (fun _ _ => rfl) (fun _ _ => rfl)))
theorem w__law_sign (T : Top K mg) : FnG P w K mg base false 3 T.f__law_sign T.d__law_sign ["_law_state"] (m__law_sign_v2) := fng_of T.F__law_sign sc__law_sign fun cdv A outer s H E hc hr hgd => svs_one (sv_ret (ev_callF (gd := false) (k := 2) (ps := ["_law_state", "_law_several"]) ((w__law_pick T).mono (by decide)) hr (fun h => nomatch h) psOf rfl T.m__law_pick T.F__law_pick.kp T.b__law_pick (ea_cons (evV 0) (ea_cons (ev_lst (ea_cons (ev_int) (ea_cons (ev_neg (ev_int)) (ea_nil) rfl) rfl)) (ea_nil) rfl) rfl) (by decide) rfl rfl))
theorem w__law_mixed (T : Top K mg) : FnG P w K mg base false 2 T.f__law_mixed T.d__law_mixed ["_law_state", "_law_several"] (m__law_mixed) := fng_of T.F__law_mixed sc__law_mixed fun cdv A outer s H E hc hr hgd => svs_cons (sv_par (i := 2) (j := 3) rfl sc__law_mixed.nd rfl rfl (by decide) rfl rfl (ea_cons (ev_celF (ef_list rfl T.z_list (ea_cons (evV 1) (ea_nil) rfl) rfl)) (ea_cons (ev_celF (ef_lst (ea_nil))) (ea_nil) rfl) rfl) rfl rfl)
    (svs_cons (sv_while mu__law_mixed_0 owOf (et_neC (Room.u64 hr) (evV 2) (ev_lst (ea_nil))) (svs_one (sv_expr (ev_append (evV 3) (ea_cons (ev_popAt (evV 2) (ea_cons (ev_callF (gd := false) (k := 1) (ps := ["_law_state", "_law_size_here"]) ((w__law_draw T).mono (by decide)) hr (fun h => nomatch h) psOf rfl T.m__law_draw T.F__law_draw.kp T.b__law_draw (ea_cons (evV 0) (ea_cons (b_len rfl T.z_len (ea_cons (evV 2) (ea_nil) rfl) rfl) (ea_nil) rfl) rfl) (by decide) rfl rfl) (ea_nil) rfl) rfl rfl rfl rfl) (ea_nil) rfl) rfl rfl rfl rfl) rfl)))
    (svs_one (sv_ret (ev_frz (evV 3)))))
theorem w__law_some (T : Top K mg) : FnG P w K mg base false 3 T.f__law_some T.d__law_some ["_law_state", "_law_several", "_law_least", "_law_most"] (m__law_some) := fng_of T.F__law_some sc__law_some fun cdv A outer s H E hc hr hgd => svs_cons (sv_set (i := 4) sc__law_some.nd rfl (by first | exact .inl rfl | exact .inr rfl) (b_min2 rfl rfl T.z_min (ea_cons (ev_add (evV 2) (ev_callF (gd := false) (k := 2) (ps := ["_law_state", "_law_size_here"]) ((w__law_draw T).mono (by decide)) hr (fun h => nomatch h) psOf rfl T.m__law_draw T.F__law_draw.kp T.b__law_draw (ea_cons (evV 0) (ea_cons (ev_add (ev_sub (evV 3) (evV 2)) (ev_int)) (ea_nil) rfl) rfl) (by decide) rfl rfl)) (ea_cons (b_len rfl T.z_len (ea_cons (evV 1) (ea_nil) rfl) rfl) (ea_nil) rfl) rfl) rfl rfl) rfl (by first | exact .inl rfl | exact .inr rfl))
    (svs_one (sv_ret (b_tuple rfl T.z_tuple (ea_cons (b_sorted2 rfl T.z_sorted (ea_cons (ev_sl (ev_callF (gd := false) (k := 2) (ps := ["_law_state", "_law_several"]) ((w__law_mixed T).mono (by decide)) hr (fun h => nomatch h) psOf rfl T.m__law_mixed T.F__law_mixed.kp T.b__law_mixed (ea_cons (evV 0) (ea_cons (evV 1) (ea_nil) rfl) rfl) (by decide) rfl rfl) (eo_none) (eo_some (evV 4))) (ea_nil) rfl) rfl) (ea_nil) rfl) rfl)))
theorem w__law_wide_hall (T : Top K mg) : FnG P w K mg base false 4 T.f__law_wide_hall T.d__law_wide_hall ["_law_state"] (m__law_wide_hall) := fng_of T.F__law_wide_hall sc__law_wide_hall fun cdv A outer s H E hc hr hgd => svs_cons (sv_set (i := 1) sc__law_wide_hall.nd rfl (by first | exact .inl rfl | exact .inr rfl) (ev_callF (gd := false) (k := 3) (ps := ["_law_state", "_law_several"]) ((w__law_pick T).mono (by decide)) hr (fun h => nomatch h) psOf rfl T.m__law_pick T.F__law_pick.kp T.b__law_pick (ea_cons (evV 0) (ea_cons (ev_lst (ea_cons (ev_int) (ea_cons (ev_int) (ea_cons (ev_int) (ea_cons (ev_int) (ea_cons (ev_int) (ea_cons (ev_int) (ea_cons (ev_int) (ea_cons (ev_int) (ea_nil) rfl) rfl) rfl) rfl) rfl) rfl) rfl) rfl)) (ea_nil) rfl) rfl) (by decide) rfl rfl) rfl (by first | exact .inl rfl | exact .inr rfl))
    (svs_cons (sv_set (i := 2) sc__law_wide_hall.nd rfl (by first | exact .inl rfl | exact .inr rfl) (ev_celF (ef_lst (ea_nil))) rfl (by first | exact .inl rfl | exact .inr rfl))
    (svs_cons (sv_for owOf rfl (ei_range1 rfl T.z_range (ea_cons (ev_callF (gd := false) (k := 3) (ps := ["_law_state", "_law_size_here"]) ((w__law_draw T).mono (by decide)) hr (fun h => nomatch h) psOf rfl T.m__law_draw T.F__law_draw.kp T.b__law_draw (ea_cons (evV 0) (ea_cons (ev_int) (ea_nil) rfl) rfl) (by decide) rfl rfl) (ea_nil) rfl) rfl) (gv_name (i := 3) sc__law_wide_hall.nd rfl (by first | exact .inl rfl | exact .inr rfl) (by first | exact .inl rfl | exact .inr rfl)) (svs_one (sv_expr (ev_append (evV 2) (ea_cons (ev_tup (ea_cons (ev_callF (gd := false) (k := 3) (ps := ["_law_state"]) ((w__law_sign T).mono (by decide)) hr (fun h => nomatch h) psOf rfl T.m__law_sign T.F__law_sign.kp T.b__law_sign (ea_cons (evV 0) (ea_nil) rfl) (by decide) rfl rfl) (ea_cons (ev_callF (gd := false) (k := 3) (ps := ["_law_state", "_law_several", "_law_least", "_law_most"]) ((w__law_some T).mono (by decide)) hr (fun h => nomatch h) psOf rfl T.m__law_some T.F__law_some.kp T.b__law_some (ea_cons (evV 0) (ea_cons (ev_lstRg1 rfl rfl T.z_list rfl T.z_range (evV 1) rfl rfl) (ea_cons (ev_int) (ea_cons (ev_callF (gd := false) (k := 3) (ps := ["_law_state", "_law_several"]) ((w__law_pick T).mono (by decide)) hr (fun h => nomatch h) psOf rfl T.m__law_pick T.F__law_pick.kp T.b__law_pick (ea_cons (evV 0) (ea_cons (ev_lst (ea_cons (ev_int) (ea_cons (ev_int) (ea_cons (ev_int) (ea_nil) rfl) rfl) rfl)) (ea_nil) rfl) rfl) (by decide) rfl rfl) (ea_nil) rfl) rfl) rfl) rfl) (by decide) rfl rfl) (ea_nil) rfl) rfl)) (ea_nil) rfl) rfl rfl rfl rfl) rfl)) (fun _ => rfl))
    (svs_one (sv_ret (ev_dic (ep_str (evV 1) (ep_str (b_tuple rfl T.z_tuple (ea_cons (evV 2) (ea_nil) rfl) rfl) (ep_nil))) rfl rfl (List.cons_ne_nil _ _) (by decide) (of_decide_eq_true rfl) (by decide +kernel))))))
theorem w_is_number (T : Top K mg) : FnG P w K mg base false 1 T.f_is_number T.d_is_number ["thing"] (m_is_number) := fng_of T.F_is_number sc_is_number fun cdv A outer s H E hc hr hgd => svs_one (sv_ret (ev_andB (b_isi2 rfl T.z_isinstance (ea_cons (evV 0) (ea_cons (ev_bltn (v := .ty "int") rfl T.z_int boot_int rfl (by decide) (by decide)) (ea_nil) rfl) rfl) rfl rfl) (ev_one (ev_not (b_isi2 rfl T.z_isinstance (ea_cons (evV 0) (ea_cons (ev_bltn (v := .ty "bool") rfl T.z_bool boot_bool rfl (by decide) (by decide)) (ea_nil) rfl) rfl) rfl rfl)))))
theorem w_is_between (T : Top K mg) : FnG P w K mg base false 2 T.f_is_between T.d_is_between ["thing", "least", "most"] (m_is_between) := fng_of T.F_is_between sc_is_between fun cdv A outer s H E hc hr hgd => svs_one (sv_ret (ev_andB (ev_callF (gd := false) (k := 1) (ps := ["thing"]) ((w_is_number T).mono (by decide)) hr (fun h => nomatch h) psOf rfl T.m_is_number T.F_is_number.kp T.b_is_number (ea_cons (evV 0) (ea_nil) rfl) (by decide) rfl rfl) (ev_one (ev_chain op_le bo_B0 op_le bo_B0 (evV 1) (evV 0) (evV 2) (by with_unfolding_all rfl)))))
theorem w_is_sign (T : Top K mg) : FnG P w K mg base false 2 T.f_is_sign T.d_is_sign ["thing"] (m_is_sign) := fng_of T.F_is_sign sc_is_sign fun cdv A outer s H E hc hr hgd => svs_one (sv_ret (ev_andB (ev_callF (gd := false) (k := 1) (ps := ["thing"]) ((w_is_number T).mono (by decide)) hr (fun h => nomatch h) psOf rfl T.m_is_number T.F_is_number.kp T.b_is_number (ea_cons (evV 0) (ea_nil) rfl) (by decide) rfl rfl) (ev_one (ev_in (Room.u65 hr) (evV 0) (ev_tup (ea_cons (ev_int) (ea_cons (ev_neg (ev_int)) (ea_nil) rfl) rfl)) rfl))))
theorem w_is_rising (T : Top K mg) : FnG P w K mg base false 3 T.f_is_rising T.d_is_rising ["thing", "many"] (m_is_rising) := fng_of T.F_is_rising sc_is_rising fun cdv A outer s H E hc hr hgd => svs_cons (sv_if (et_w (ew_or (et_not (et_tru (b_isi2 rfl T.z_isinstance (ea_cons (evV 0) (ea_cons (ev_bltn (v := .ty "tuple") rfl T.z_tuple boot_tuple rfl (by decide) (by decide)) (ea_nil) rfl) rfl) rfl rfl) (fun _ => rfl))) (ew_or1 (et_not (et_tru (b_all rfl rfl T.z_all (ea_cons (ev_ofF (ef_lc rfl sc_is_rising.nd (ei_seq (evV 0)) (own := [("item", 2)]) (blkOk_by (N := ["thing", "many", "item", "one", "other"]) (sc := defScope s_is_rising) (by decide +kernel)) (fun _ _ _ _ _ => gv_name (i := 2) sc_is_rising.nd rfl (by first | exact .inl rfl | exact .inr rfl) (by first | exact .inl rfl | exact .inr rfl)) (fun _ _ _ _ _ => ets_nil) (fun _ _ _ _ _ => ev_callF (gd := false) (k := 2) (ps := ["thing", "least", "most"]) ((w_is_between T).mono (by decide)) hr (fun h => nomatch h) pass_never rfl T.m_is_between T.F_is_between.kp T.b_is_between (ea_cons (evV 2) (ea_cons (ev_int) (ea_cons (ev_sub (evV 1) (ev_int)) (ea_nil) rfl) rfl) rfl) (by decide) rfl rfl) (by decide) (fun _ => rfl))) (ea_nil) rfl) rfl) (fun _ => rfl)))))) (svs_one (sv_ret (ev_bl))) (svs_nil))
    (svs_one (sv_ret (b_all rfl rfl T.z_all (ea_cons (ev_ofF (ef_lc rfl sc_is_rising.nd (ei_zip rfl T.z_zip (ea_cons (evV 0) (ea_cons (ev_sl (evV 0) (eo_some (ev_int)) (eo_none)) (ea_nil) rfl) rfl) rfl rfl) (own := [("one", 3), ("other", 4)]) (blkOk_by (N := ["thing", "many", "item", "one", "other"]) (sc := defScope s_is_rising) (by decide +kernel)) (fun _ _ _ _ _ => gv_tup rfl (gvs_cons (gv_name (i := 3) sc_is_rising.nd rfl (by first | exact .inl rfl | exact .inr rfl) (by first | exact .inl rfl | exact .inr rfl)) (gvs_cons (gv_name (i := 4) sc_is_rising.nd rfl (by first | exact .inl rfl | exact .inr rfl) (by first | exact .inl rfl | exact .inr rfl)) (gvs_nil) rfl) rfl) rfl rfl) (fun _ _ _ _ _ => ets_nil) (fun _ _ _ _ _ => ev_lt (evV 3) (evV 4)) (by decide) (fun _ => rfl))) (ea_nil) rfl) rfl)))
theorem w_is_crew (T : Top K mg) : FnG P w K mg base false 4 T.f_is_crew T.d_is_crew ["many", "thing"] (m_is_crew) := fng_of T.F_is_crew sc_is_crew fun cdv A outer s H E hc hr hgd => svs_one (sv_ret (ev_andB (ev_callF (gd := false) (k := 3) (ps := ["thing", "many"]) ((w_is_rising T).mono (by decide)) hr (fun h => nomatch h) psOf rfl T.m_is_rising T.F_is_rising.kp T.b_is_rising (ea_cons (evV 1) (ea_cons (evV 0) (ea_nil) rfl) rfl) (by decide) rfl rfl) (ev_one (ev_chain op_le bo_B0 op_le bo_B0 (ev_int) (b_len rfl T.z_len (ea_cons (evV 1) (ea_nil) rfl) rfl) (ev_glob (v := .int 8) rfl T.g_MOST_CREW.choose_spec ⟨_, rfl⟩ (fun _ _ => .int _) (by decide)) (by with_unfolding_all rfl)))))
theorem w_is_bench (T : Top K mg) : FnG P w K mg base false 5 T.f_is_bench T.d_is_bench ["many", "thing"] (m_is_bench) := fng_of T.F_is_bench sc_is_bench fun cdv A outer s H E hc hr hgd => svs_one (sv_ret (ev_andB (b_isi2 rfl T.z_isinstance (ea_cons (evV 1) (ea_cons (ev_bltn (v := .ty "tuple") rfl T.z_tuple boot_tuple rfl (by decide) (by decide)) (ea_nil) rfl) rfl) rfl rfl) (ev_andB (ev_eqC (Room.u64 hr) (b_len rfl T.z_len (ea_cons (evV 1) (ea_nil) rfl) rfl) (ev_int)) (ev_andB (ev_callF (gd := false) (k := 4) (ps := ["thing"]) ((w_is_sign T).mono (by decide)) hr (fun h => nomatch h) psOf rfl T.m_is_sign T.F_is_sign.kp T.b_is_sign (ea_cons (ev_ix (Room.u1 hr) (evV 1) (ev_int) (fun _ _ => rfl) (fun _ _ => rfl)) (ea_nil) rfl) (by decide) rfl rfl) (ev_one (ev_callF (gd := false) (k := 4) (ps := ["many", "thing"]) ((w_is_crew T).mono (by decide)) hr (fun h => nomatch h) psOf rfl T.m_is_crew T.F_is_crew.kp T.b_is_crew (ea_cons (evV 0) (ea_cons (ev_ix (Room.u1 hr) (evV 1) (ev_int) (fun _ _ => rfl) (fun _ _ => rfl)) (ea_nil) rfl) rfl) (by decide) rfl rfl))))))
theorem w_Hall_init_ (T : Top K mg) : FnG P w K mg base false 6 T.f_Hall_init_ T.d_Hall_init_ ["self", "many", "benches"] (m_Hall_init_ T.ax) := fng_of T.F_Hall_init_ sc_Hall_init_ fun cdv A outer s H E hc hr hgd => svs_cons (sv_if (et_not (et_tru (ev_callF (gd := false) (k := 5) (ps := ["thing", "least", "most"]) ((w_is_between T).mono (by decide)) hr (fun h => nomatch h) psOf rfl T.m_is_between T.F_is_between.kp T.b_is_between (ea_cons (evV 1) (ea_cons (ev_int) (ea_cons (ev_glob (v := .int 15) rfl T.g_MOST_TURNERS.choose_spec ⟨_, rfl⟩ (fun _ _ => .int _) (by decide)) (ea_nil) rfl) rfl) rfl) (by decide) rfl rfl) (fun _ => rfl))) (svs_one (sv_raise rfl tkOf T.M_BadMany (pmk_own PySem.F.excBase_ValueError T.q_BadMany T.M_BadMany T.k_BadMany (raises_own T.r_BadMany T.t_BadMany) rfl (by decide)))) (svs_nil))
    (svs_cons (sv_if (et_w (ew_or (et_not (et_tru (b_isi2 rfl T.z_isinstance (ea_cons (evV 2) (ea_cons (ev_bltn (v := .ty "tuple") rfl T.z_tuple boot_tuple rfl (by decide) (by decide)) (ea_nil) rfl) rfl) rfl rfl) (fun _ => rfl))) (ew_or1 (et_gt (b_len rfl T.z_len (ea_cons (evV 2) (ea_nil) rfl) rfl) (ev_glob (v := .int 12) rfl T.g_MOST_BENCHES.choose_spec ⟨_, rfl⟩ (fun _ _ => .int _) (by decide)))))) (svs_one (sv_raise rfl tkOf T.M_BadBenches (pmk_own PySem.F.excBase_ValueError T.q_BadBenches T.M_BadBenches T.k_BadBenches (raises_own T.r_BadBenches T.t_BadBenches) rfl (by decide)))) (svs_nil))
    (svs_cons (sv_if (et_not (et_tru (b_all rfl rfl T.z_all (ea_cons (ev_ofF (ef_lc rfl sc_Hall_init_.nd (ei_seq (evV 2)) (own := [("bench", 3)]) (blkOk_by (N := ["self", "many", "benches", "bench"]) (sc := defScope s_Hall_init_) (by decide +kernel)) (fun _ _ _ _ _ => gv_name (i := 3) sc_Hall_init_.nd rfl (by first | exact .inl rfl | exact .inr rfl) (by first | exact .inl rfl | exact .inr rfl)) (fun _ _ _ _ _ => ets_nil) (fun _ _ _ _ _ => ev_callF (gd := false) (k := 5) (ps := ["many", "thing"]) ((w_is_bench T).mono (by decide)) hr (fun h => nomatch h) pass_never rfl T.m_is_bench T.F_is_bench.kp T.b_is_bench (ea_cons (evV 1) (ea_cons (evV 3) (ea_nil) rfl) rfl) (by decide) rfl rfl) (by decide) (fun _ => rfl))) (ea_nil) rfl) rfl) (fun _ => rfl))) (svs_one (sv_raise rfl tkOf T.M_BadBenches (pmk_own PySem.F.excBase_ValueError T.q_BadBenches T.M_BadBenches T.k_BadBenches (raises_own T.r_BadBenches T.t_BadBenches) rfl (by decide)))) (svs_nil))
    (svs_cons (sv_putF (C := T.C_Hall) T.cl_Hall T.nf_Hall_many (evV 0) (evV 1) rfl)
    (svs_one (sv_putF (C := T.C_Hall) T.cl_Hall T.nf_Hall_benches (evV 0) (evV 2) rfl)))))
theorem w_need_hall (T : Top K mg) : FnG P w K mg base false 1 T.f_need_hall T.d_need_hall ["hall"] (m_need_hall T.ax) := fng_of T.F_need_hall sc_need_hall fun cdv A outer s H E hc hr hgd => svs_one (sv_if (et_not (et_tru (b_isO rfl T.z_isinstance (ea_cons (evV 0) (ea_cons (ev_glob (v := .ref T.C_Hall) rfl T.M_Hall rfl (fun _ _ => .op _) (by decide)) (ea_nil) rfl) rfl) rfl rfl) (fun _ => rfl))) (svs_one (sv_raise rfl tkOf T.M_BadHall (pmk_own PySem.F.excBase_ValueError T.q_BadHall T.M_BadHall T.k_BadHall (raises_own T.r_BadHall T.t_BadHall) rfl (by decide)))) (svs_nil))
theorem w_first_of (T : Top K mg) (hTB : Tb T base) : FnG P w K mg base false 7 T.f_first_of T.d_first_of ["lots"] (m_first_of) := fng_of T.F_first_of sc_first_of fun cdv A outer s H E hc hr hgd => svs_one (sv_ret (ev_if (et_neC (Room.u64 hr) (evV 0) (ev_lst (ea_nil))) (ev_minLen (x := "lot") hTB.tab_first_of (hc.symm.trans T.e_first_of) (by rw [hTB.eq]; exact (List.mem_cons_self)) (fun p hp hP => by rw [hTB.eq] at hp; exact (List.mem_singleton.mp hp) ▸ rfl) rfl ⟨rfl, rfl, rfl, by decide +kernel, rfl, by decide +kernel, by decide +kernel⟩ (fun _ _ _ _ _ => rfl) rfl rfl T.z_len (hr.mono (by decide)) rfl T.z_min (evV 0)) (ev_non)))
theorem w_items_of (T : Top K mg) : FnG P w K mg base false 1 T.f_items_of T.d_items_of ["mask"] (m_items_of) := fng_of T.F_items_of sc_items_of fun cdv A outer s H E hc hr hgd => svs_one (sv_ret (b_tuple rfl T.z_tuple (ea_cons (ev_ofF (ef_lc rfl sc_items_of.nd (ei_range1 rfl T.z_range (ea_cons (ev_bits (evV 0) rfl rfl) (ea_nil) rfl) rfl) (own := [("at", 1)]) (blkOk_by (N := ["mask", "at"]) (sc := defScope s_items_of) (by decide +kernel)) (fun _ _ _ _ _ => gv_name (i := 1) sc_items_of.nd rfl (by first | exact .inl rfl | exact .inr rfl) (by first | exact .inl rfl | exact .inr rfl)) (fun _ _ _ _ _ => ets_one (et_eqC (Room.u64 hr) (ev_and (ev_shr (evV 0) (evV 1)) (ev_int)) (ev_int))) (fun _ _ _ _ _ => evV 1) (by decide) (fun _ => rfl))) (ea_nil) rfl) rfl))
theorem w_sums_of (T : Top K mg) : FnG P w K mg base false 1 T.f_sums_of T.d_sums_of ["masks"] (m_sums_of) := fng_of T.F_sums_of sc_sums_of fun cdv A outer s H E hc hr hgd => svs_cons (sv_set (i := 1) sc_sums_of.nd rfl (by first | exact .inl rfl | exact .inr rfl) (ev_lst (ea_cons (ev_int) (ea_nil) rfl)) rfl (by first | exact .inl rfl | exact .inr rfl))
    (svs_cons (sv_for owOf rfl (ei_seq (evV 0)) (gv_name (i := 2) sc_sums_of.nd rfl (by first | exact .inl rfl | exact .inr rfl) (by first | exact .inl rfl | exact .inr rfl)) (svs_one (sv_set (i := 1) sc_sums_of.nd rfl (by first | exact .inl rfl | exact .inr rfl) (ev_add (evV 1) (ev_ofF (ef_lc rfl sc_sums_of.nd (ei_seq (evV 1)) (own := [("other", 3)]) (blkOk_by (N := ["masks", "found", "mask", "other"]) (sc := defScope s_sums_of) (by decide +kernel)) (fun _ _ _ _ _ => gv_name (i := 3) sc_sums_of.nd rfl (by first | exact .inl rfl | exact .inr rfl) (by first | exact .inl rfl | exact .inr rfl)) (fun _ _ _ _ _ => ets_nil) (fun _ _ _ _ _ => ev_xor (evV 2) (evV 3)) (by decide) (fun _ => rfl)))) rfl (by first | exact .inl rfl | exact .inr rfl))) (fun _ => rfl))
    (svs_one (sv_ret (evV 1))))
theorem w_mask_of (T : Top K mg) : FnG P w K mg base false 1 T.f_mask_of T.d_mask_of ["items"] (m_mask_of) := fng_of T.F_mask_of sc_mask_of fun cdv A outer s H E hc hr hgd => svs_one (sv_ret (b_sum rfl rfl T.z_sum (ea_cons (ev_ofF (ef_lc rfl sc_mask_of.nd (ei_seq (evV 0)) (own := [("item", 1)]) (blkOk_by (N := ["items", "item"]) (sc := defScope s_mask_of) (by decide +kernel)) (fun _ _ _ _ _ => gv_name (i := 1) sc_mask_of.nd rfl (by first | exact .inl rfl | exact .inr rfl) (by first | exact .inl rfl | exact .inr rfl)) (fun _ _ _ _ _ => ets_nil) (fun _ _ _ _ _ => ev_shl (ev_int) (evV 1)) (by decide) (fun _ => rfl))) (ea_nil) rfl) rfl))
theorem w_reduced (T : Top K mg) : FnG P w K mg base false 1 T.f_reduced T.d_reduced ["pairs"] (m_reduced) := fng_of T.F_reduced sc_reduced fun cdv A outer s H E hc hr hgd => svs_cons (sv_parC (i := 1) (j := 2) rfl sc_reduced.nd rfl rfl (by first | exact .inl rfl | exact .inr rfl) (by first | exact .inl rfl | exact .inr rfl) (ea_cons (ev_dic0C) (ea_cons (ev_celF (ef_lst (ea_nil))) (ea_nil) rfl) rfl) rfl)
    (svs_cons (sv_for owOf rfl (ei_seq (evV 0)) (gv_tup rfl (gvs_cons (gv_name (i := 3) sc_reduced.nd rfl (by first | exact .inl rfl | exact .inr rfl) (by first | exact .inl rfl | exact .inr rfl)) (gvs_cons (gv_name (i := 4) sc_reduced.nd rfl (by first | exact .inl rfl | exact .inr rfl) (by first | exact .inl rfl | exact .inr rfl)) (gvs_nil) rfl) rfl) rfl rfl) (svs_cons (sv_lock (i := 1) (sv_for owOf rfl (ei_keys (evV 1)) (gv_name (i := 5) sc_reduced.nd rfl (by first | exact .inl rfl | exact .inr rfl) (by first | exact .inl rfl | exact .inr rfl)) (svs_one (sv_if (et_eqC (Room.u64 hr) (ev_and (ev_shr (evV 3) (evV 5)) (ev_int)) (ev_int)) (svs_one (sv_par (i := 3) (j := 4) rfl sc_reduced.nd rfl rfl (by decide) rfl rfl (ea_cons (ev_xor (evV 3) (ev_ix (Room.u1 hr) (ev_ix (Room.u1 hr) (evV 1) (evV 5) (fun _ _ => rfl) (fun _ _ => rfl)) (ev_int) (fun _ _ => rfl) (fun _ _ => rfl))) (ea_cons (ev_xor (evV 4) (ev_ix (Room.u1 hr) (ev_ix (Room.u1 hr) (evV 1) (evV 5) (fun _ _ => rfl) (fun _ _ => rfl)) (ev_int) (fun _ _ => rfl) (fun _ _ => rfl))) (ea_nil) rfl) rfl) rfl rfl)) (svs_nil))) (fun _ => rfl)))
    (svs_one (sv_if (et_eqC (Room.u64 hr) (evV 3) (ev_int)) (svs_one (sv_expr (ev_append (evV 2) (ea_cons (evV 4) (ea_nil) rfl) rfl rfl rfl rfl) rfl)) (svs_cons (sv_set (i := 6) sc_reduced.nd rfl (by first | exact .inl rfl | exact .inr rfl) (ev_sub (ev_bits (evV 3) rfl rfl) (ev_int)) rfl (by first | exact .inl rfl | exact .inr rfl))
    (svs_cons (sv_for owOf rfl (ei_seq (b_listK rfl rfl T.z_list (ea_cons (evV 1) (ea_nil) rfl) rfl)) (gv_name (i := 5) sc_reduced.nd rfl (by first | exact .inl rfl | exact .inr rfl) (by first | exact .inl rfl | exact .inr rfl)) (svs_one (sv_if (et_eqC (Room.u64 hr) (ev_and (ev_shr (ev_ix (Room.u1 hr) (ev_ix (Room.u1 hr) (evV 1) (evV 5) (fun _ _ => rfl) (fun _ _ => rfl)) (ev_int) (fun _ _ => rfl) (fun _ _ => rfl)) (evV 6)) (ev_int)) (ev_int)) (svs_one (sv_put (Room.u1 hr) (evV 1) (evV 5) (ev_tup (ea_cons (ev_xor (ev_ix (Room.u1 hr) (ev_ix (Room.u1 hr) (evV 1) (evV 5) (fun _ _ => rfl) (fun _ _ => rfl)) (ev_int) (fun _ _ => rfl) (fun _ _ => rfl)) (evV 3)) (ea_cons (ev_xor (ev_ix (Room.u1 hr) (ev_ix (Room.u1 hr) (evV 1) (evV 5) (fun _ _ => rfl) (fun _ _ => rfl)) (ev_int) (fun _ _ => rfl) (fun _ _ => rfl)) (evV 4)) (ea_nil) rfl) rfl)) rfl)) (svs_nil))) (fun _ => rfl))
    (svs_one (sv_put (Room.u1 hr) (evV 1) (evV 6) (ev_tup (ea_cons (evV 3) (ea_cons (evV 4) (ea_nil) rfl) rfl)) rfl))))))) (fun _ => rfl))
    (svs_one (sv_ret (ev_tup (ea_cons (ev_ofF (ef_lc rfl sc_reduced.nd (ei_seq (b_sortK rfl rfl T.z_sorted (ea_cons (evV 1) (ea_nil) rfl) rfl)) (own := [("last", 5)]) (blkOk_by (N := ["pairs", "kept", "idle", "row", "tag", "last", "at"]) (sc := defScope s_reduced) (by decide +kernel)) (fun _ _ _ _ _ => gv_name (i := 5) sc_reduced.nd rfl (by first | exact .inl rfl | exact .inr rfl) (by first | exact .inl rfl | exact .inr rfl)) (fun _ _ _ _ _ => ets_nil) (fun _ _ _ _ _ => ev_ix (Room.u1 hr) (evV 1) (evV 5) (fun _ _ => rfl) (fun _ _ => rfl)) (by decide) (fun _ => rfl))) (ea_cons (ev_frz (evV 2)) (ea_nil) rfl) rfl)))))
theorem w_idle_lots (T : Top K mg) : FnG P w K mg base false 2 T.f_idle_lots T.d_idle_lots ["rows"] (m_idle_lots) := fng_of T.F_idle_lots sc_idle_lots fun cdv A outer s H E hc hr hgd => svs_cons (sv_asg (ev_callF (gd := false) (k := 1) (ps := ["pairs"]) ((w_reduced T).mono (by decide)) hr (fun h => nomatch h) psOf rfl T.m_reduced T.F_reduced.kp T.b_reduced (ea_cons (ev_ofF (ef_lc rfl sc_idle_lots.nd (ei_enumT rfl T.z_enumerate (ea_cons (evV 0) (ea_nil) rfl) rfl) (own := [("at", 4), ("row", 5)]) (blkOk_by (N := ["rows", "_", "idle", "kept", "at", "row", "mask"]) (sc := defScope s_idle_lots) (by decide +kernel)) (fun _ _ _ _ _ => gv_tup rfl (gvs_cons (gv_name (i := 4) sc_idle_lots.nd rfl (by first | exact .inl rfl | exact .inr rfl) (by first | exact .inl rfl | exact .inr rfl)) (gvs_cons (gv_name (i := 5) sc_idle_lots.nd rfl (by first | exact .inl rfl | exact .inr rfl) (by first | exact .inl rfl | exact .inr rfl)) (gvs_nil) rfl) rfl) rfl rfl) (fun _ _ _ _ _ => ets_nil) (fun _ _ _ _ _ => ev_tup (ea_cons (evV 5) (ea_cons (ev_shl (ev_int) (evV 4)) (ea_nil) rfl) rfl)) (by decide) (fun _ => rfl))) (ea_nil) rfl) (by decide) rfl rfl) (gv_tup rfl (gvs_cons (gv_name (i := 1) sc_idle_lots.nd rfl (by first | exact .inl rfl | exact .inr rfl) (by first | exact .inl rfl | exact .inr rfl)) (gvs_cons (gv_name (i := 2) sc_idle_lots.nd rfl (by first | exact .inl rfl | exact .inr rfl) (by first | exact .inl rfl | exact .inr rfl)) (gvs_nil) rfl) rfl) rfl rfl) rfl rfl rfl)
    (svs_cons (sv_asg (ev_callF (gd := false) (k := 1) (ps := ["pairs"]) ((w_reduced T).mono (by decide)) hr (fun h => nomatch h) psOf rfl T.m_reduced T.F_reduced.kp T.b_reduced (ea_cons (ev_ofF (ef_lc rfl sc_idle_lots.nd (ei_seq (evV 2)) (own := [("mask", 6)]) (blkOk_by (N := ["rows", "_", "idle", "kept", "at", "row", "mask"]) (sc := defScope s_idle_lots) (by decide +kernel)) (fun _ _ _ _ _ => gv_name (i := 6) sc_idle_lots.nd rfl (by first | exact .inl rfl | exact .inr rfl) (by first | exact .inl rfl | exact .inr rfl)) (fun _ _ _ _ _ => ets_nil) (fun _ _ _ _ _ => ev_tup (ea_cons (evV 6) (ea_cons (ev_int) (ea_nil) rfl) rfl)) (by decide) (fun _ => rfl))) (ea_nil) rfl) (by decide) rfl rfl) (gv_tup rfl (gvs_cons (gv_name (i := 3) sc_idle_lots.nd rfl (by first | exact .inl rfl | exact .inr rfl) (by first | exact .inl rfl | exact .inr rfl)) (gvs_cons (gv_name (i := 1) sc_idle_lots.nd rfl (by first | exact .inl rfl | exact .inr rfl) (by first | exact .inl rfl | exact .inr rfl)) (gvs_nil) rfl) rfl) rfl rfl) rfl rfl rfl)
    (svs_one (sv_ret (b_sorted2 rfl T.z_sorted (ea_cons (ev_ofF (ef_lc rfl sc_idle_lots.nd (ei_seq (evV 3)) (own := [("mask", 6), ("_", 1)]) (blkOk_by (N := ["rows", "_", "idle", "kept", "at", "row", "mask"]) (sc := defScope s_idle_lots) (by decide +kernel)) (fun _ _ _ _ _ => gv_tup rfl (gvs_cons (gv_name (i := 6) sc_idle_lots.nd rfl (by first | exact .inl rfl | exact .inr rfl) (by first | exact .inl rfl | exact .inr rfl)) (gvs_cons (gv_name (i := 1) sc_idle_lots.nd rfl (by first | exact .inl rfl | exact .inr rfl) (by first | exact .inl rfl | exact .inr rfl)) (gvs_nil) rfl) rfl) rfl rfl) (fun _ _ _ _ _ => ets_nil) (fun _ _ _ _ _ => ev_callF (gd := false) (k := 1) (ps := ["mask"]) ((w_items_of T).mono (by decide)) hr (fun h => nomatch h) pass_never rfl T.m_items_of T.F_items_of.kp T.b_items_of (ea_cons (evV 6) (ea_nil) rfl) (by decide) rfl rfl) (by decide) (fun _ => rfl))) (ea_nil) rfl) rfl))))
theorem w_crews_of (T : Top K mg) : FnG P w K mg base false 1 T.f_crews_of T.d_crews_of ["hall"] (m_crews_of T.ax) := fng_of T.F_crews_of sc_crews_of fun cdv A outer s H E hc hr hgd => svs_one (sv_ret (ev_ofF (ef_lc rfl sc_crews_of.nd (ei_seq (ev_fld (C := T.C_Hall) T.cl_Hall T.nf_Hall_benches (evV 0) rfl)) (own := [("_", 1), ("crew", 2)]) (blkOk_by (N := ["hall", "_", "crew"]) (sc := defScope s_crews_of) (by decide +kernel)) (fun _ _ _ _ _ => gv_tup rfl (gvs_cons (gv_name (i := 1) sc_crews_of.nd rfl (by first | exact .inl rfl | exact .inr rfl) (by first | exact .inl rfl | exact .inr rfl)) (gvs_cons (gv_name (i := 2) sc_crews_of.nd rfl (by first | exact .inl rfl | exact .inr rfl) (by first | exact .inl rfl | exact .inr rfl)) (gvs_nil) rfl) rfl) rfl rfl) (fun _ _ _ _ _ => ets_nil) (fun _ _ _ _ _ => evV 2) (by decide) (fun _ => rfl))))
theorem w_evens_of (T : Top K mg) : FnG P w K mg base false 3 T.f_evens_of T.d_evens_of ["hall"] (m_evens_of T.ax) := fng_of T.F_evens_of sc_evens_of fun cdv A outer s H E hc hr hgd => svs_one (sv_ret (ev_callF (gd := false) (k := 2) (ps := ["rows"]) ((w_idle_lots T).mono (by decide)) hr (fun h => nomatch h) psOf rfl T.m_idle_lots T.F_idle_lots.kp T.b_idle_lots (ea_cons (ev_ofF (ef_lc rfl sc_evens_of.nd (ei_seq (ev_callF (gd := false) (k := 2) (ps := ["hall"]) ((w_crews_of T).mono (by decide)) hr (fun h => nomatch h) psOf rfl T.m_crews_of T.F_crews_of.kp T.b_crews_of (ea_cons (evV 0) (ea_nil) rfl) (by decide) rfl rfl)) (own := [("crew", 1)]) (blkOk_by (N := ["hall", "crew"]) (sc := defScope s_evens_of) (by decide +kernel)) (fun _ _ _ _ _ => gv_name (i := 1) sc_evens_of.nd rfl (by first | exact .inl rfl | exact .inr rfl) (by first | exact .inl rfl | exact .inr rfl)) (fun _ _ _ _ _ => ets_nil) (fun _ _ _ _ _ => ev_callF (gd := false) (k := 2) (ps := ["items"]) ((w_mask_of T).mono (by decide)) hr (fun h => nomatch h) pass_never rfl T.m_mask_of T.F_mask_of.kp T.b_mask_of (ea_cons (evV 1) (ea_nil) rfl) (by decide) rfl rfl) (by decide) (fun _ => rfl))) (ea_nil) rfl) (by decide) rfl rfl))
theorem w_evens_all (T : Top K mg) : FnG P w K mg base false 4 T.f_evens_all T.d_evens_all ["hall"] (m_evens_all T.ax) := fng_of T.F_evens_all sc_evens_all fun cdv A outer s H E hc hr hgd => svs_one (sv_ret (ev_ofF (ef_lc rfl sc_evens_all.nd (ei_seq (ev_callF (gd := false) (k := 3) (ps := ["masks"]) ((w_sums_of T).mono (by decide)) hr (fun h => nomatch h) psOf rfl T.m_sums_of T.F_sums_of.kp T.b_sums_of (ea_cons (ev_ofF (ef_lc rfl sc_evens_all.nd (ei_seq (ev_callF (gd := false) (k := 3) (ps := ["hall"]) ((w_evens_of T).mono (by decide)) hr (fun h => nomatch h) psOf rfl T.m_evens_of T.F_evens_of.kp T.b_evens_of (ea_cons (evV 0) (ea_nil) rfl) (by decide) rfl rfl)) (own := [("lot", 2)]) (blkOk_by (N := ["hall", "mask", "lot"]) (sc := defScope s_evens_all) (by decide +kernel)) (fun _ _ _ _ _ => gv_name (i := 2) sc_evens_all.nd rfl (by first | exact .inl rfl | exact .inr rfl) (by first | exact .inl rfl | exact .inr rfl)) (fun _ _ _ _ _ => ets_nil) (fun _ _ _ _ _ => ev_callF (gd := false) (k := 3) (ps := ["items"]) ((w_mask_of T).mono (by decide)) hr (fun h => nomatch h) pass_never rfl T.m_mask_of T.F_mask_of.kp T.b_mask_of (ea_cons (evV 2) (ea_nil) rfl) (by decide) rfl rfl) (by decide) (fun _ => rfl))) (ea_nil) rfl) (by decide) rfl rfl)) (own := [("mask", 1)]) (blkOk_by (N := ["hall", "mask", "lot"]) (sc := defScope s_evens_all) (by decide +kernel)) (fun _ _ _ _ _ => gv_name (i := 1) sc_evens_all.nd rfl (by first | exact .inl rfl | exact .inr rfl) (by first | exact .inl rfl | exact .inr rfl)) (fun _ _ _ _ _ => ets_nil) (fun _ _ _ _ _ => ev_callF (gd := false) (k := 3) (ps := ["mask"]) ((w_items_of T).mono (by decide)) hr (fun h => nomatch h) pass_never rfl T.m_items_of T.F_items_of.kp T.b_items_of (ea_cons (evV 1) (ea_nil) rfl) (by decide) rfl rfl) (by decide) (fun _ => rfl))))
theorem w_signs_of (T : Top K mg) : FnG P w K mg base false 1 T.f_signs_of T.d_signs_of ["hall"] (m_signs_of T.ax) := fng_of T.F_signs_of sc_signs_of fun cdv A outer s H E hc hr hgd => svs_one (sv_ret (ev_ofF (ef_lc rfl sc_signs_of.nd (ei_seq (ev_fld (C := T.C_Hall) T.cl_Hall T.nf_Hall_benches (evV 0) rfl)) (own := [("sign", 1), ("_", 2)]) (blkOk_by (N := ["hall", "sign", "_"]) (sc := defScope s_signs_of) (by decide +kernel)) (fun _ _ _ _ _ => gv_tup rfl (gvs_cons (gv_name (i := 1) sc_signs_of.nd rfl (by first | exact .inl rfl | exact .inr rfl) (by first | exact .inl rfl | exact .inr rfl)) (gvs_cons (gv_name (i := 2) sc_signs_of.nd rfl (by first | exact .inl rfl | exact .inr rfl) (by first | exact .inl rfl | exact .inr rfl)) (gvs_nil) rfl) rfl) rfl rfl) (fun _ _ _ _ _ => ets_nil) (fun _ _ _ _ _ => evV 1) (by decide) (fun _ => rfl))))
theorem w_is_minus (T : Top K mg) : FnG P w K mg base false 2 T.f_is_minus T.d_is_minus ["hall", "lot"] (m_is_minus T.ax) := fng_of T.F_is_minus sc_is_minus fun cdv A outer s H E hc hr hgd => svs_cons (sv_set (i := 2) sc_is_minus.nd rfl (by first | exact .inl rfl | exact .inr rfl) (ev_callF (gd := false) (k := 1) (ps := ["hall"]) ((w_signs_of T).mono (by decide)) hr (fun h => nomatch h) psOf rfl T.m_signs_of T.F_signs_of.kp T.b_signs_of (ea_cons (evV 0) (ea_nil) rfl) (by decide) rfl rfl) rfl (by first | exact .inl rfl | exact .inr rfl))
    (svs_one (sv_ret (ev_eqC (Room.u64 hr) (ev_mod (b_len rfl T.z_len (ea_cons (ev_ofF (ef_lc rfl sc_is_minus.nd (ei_seq (evV 1)) (own := [("bench", 3)]) (blkOk_by (N := ["hall", "lot", "signs", "bench"]) (sc := defScope s_is_minus) (by decide +kernel)) (fun _ _ _ _ _ => gv_name (i := 3) sc_is_minus.nd rfl (by first | exact .inl rfl | exact .inr rfl) (by first | exact .inl rfl | exact .inr rfl)) (fun _ _ _ _ _ => ets_one (et_eqC (Room.u64 hr) (ev_ix (Room.u1 hr) (evV 2) (evV 3) (fun _ _ => rfl) (fun _ _ => rfl)) (ev_neg (ev_int)))) (fun _ _ _ _ _ => ev_int) (by decide) (fun _ => rfl))) (ea_nil) rfl) rfl) (ev_int)) (ev_int))))
theorem w_odd_lot_for (T : Top K mg) (hTB : Tb T base) : FnG P w K mg base false 8 T.f_odd_lot_for T.d_odd_lot_for ["hall"] (m_odd_lot_for T.ax) := fng_of T.F_odd_lot_for sc_odd_lot_for fun cdv A outer s H E hc hr hgd => svs_one (sv_ret (ev_callF (gd := false) (k := 7) (ps := ["lots"]) ((w_first_of T hTB).mono (by decide)) hr (fun h => nomatch h) psOf rfl T.m_first_of T.F_first_of.kp T.b_first_of (ea_cons (ev_ofF (ef_lc rfl sc_odd_lot_for.nd (ei_seq (ev_callF (gd := false) (k := 7) (ps := ["hall"]) ((w_evens_all T).mono (by decide)) hr (fun h => nomatch h) psOf rfl T.m_evens_all T.F_evens_all.kp T.b_evens_all (ea_cons (evV 0) (ea_nil) rfl) (by decide) rfl rfl)) (own := [("lot", 1)]) (blkOk_by (N := ["hall", "lot"]) (sc := defScope s_odd_lot_for) (by decide +kernel)) (fun _ _ _ _ _ => gv_name (i := 1) sc_odd_lot_for.nd rfl (by first | exact .inl rfl | exact .inr rfl) (by first | exact .inl rfl | exact .inr rfl)) (fun _ _ _ _ _ => ets_one (et_tru (ev_callF (gd := false) (k := 7) (ps := ["hall", "lot"]) ((w_is_minus T).mono (by decide)) hr (fun h => nomatch h) pass_never rfl T.m_is_minus T.F_is_minus.kp T.b_is_minus (ea_cons (evV 0) (ea_cons (evV 1) (ea_nil) rfl) rfl) (by decide) rfl rfl) (fun _ => rfl))) (fun _ _ _ _ _ => evV 1) (by decide) (fun _ => rfl))) (ea_nil) rfl) (by decide) rfl rfl))
theorem w_odd_lot_of (T : Top K mg) (hTB : Tb T base) : FnG P w K mg base false 9 T.f_odd_lot_of T.d_odd_lot_of ["hall"] (m_odd_lot_of T.ax) := fng_of T.F_odd_lot_of sc_odd_lot_of fun cdv A outer s H E hc hr hgd => svs_cons (sv_expr (ev_callF (gd := false) (k := 8) (ps := ["hall"]) ((w_need_hall T).mono (by decide)) hr (fun h => nomatch h) psOf rfl T.m_need_hall T.F_need_hall.kp T.b_need_hall (ea_cons (evV 0) (ea_nil) rfl) (by decide) rfl rfl) rfl)
    (svs_one (sv_ret (ev_callF (gd := false) (k := 8) (ps := ["hall"]) ((w_odd_lot_for T hTB).mono (by decide)) hr (fun h => nomatch h) psOf rfl T.m_odd_lot_for T.F_odd_lot_for.kp T.b_odd_lot_for (ea_cons (evV 0) (ea_nil) rfl) (by decide) rfl rfl)))
theorem w__law_made (T : Top K mg) : FnG P w K mg base false 8 T.f__law_made T.d__law_made ["_law_scope"] (m__law_made T.ax) := fng_of T.F__law_made sc__law_made fun cdv A outer s H E hc hr hgd => svs_one (sv_ret (ev_new true (k := 6) (ps := ["self", "many", "benches"]) T.ic_Hall T.mk_Hall ((w_Hall_init_ T).mono (by decide)) hr psOf rfl T.M_Hall T.b_Hall_init_ (ea_cons (ev_ix (Room.u1 hr) (evV 0) (ev_str) (fun _ _ => rfl) (fun _ _ => rfl)) (ea_cons (ev_ix (Room.u1 hr) (evV 0) (ev_str) (fun _ _ => rfl) (fun _ _ => rfl)) (ea_nil) rfl) rfl) (by decide) rfl rfl))
theorem w_solved (T : Top K mg) : FnG P w K mg base false 2 T.f_solved T.d_solved ["pairs"] (m_solved) := fng_of T.F_solved sc_solved fun cdv A outer s H E hc hr hgd => svs_cons (sv_asg (ev_callF (gd := false) (k := 1) (ps := ["pairs"]) ((w_reduced T).mono (by decide)) hr (fun h => nomatch h) psOf rfl T.m_reduced T.F_reduced.kp T.b_reduced (ea_cons (evV 0) (ea_nil) rfl) (by decide) rfl rfl) (gv_tup rfl (gvs_cons (gv_name (i := 1) sc_solved.nd rfl (by first | exact .inl rfl | exact .inr rfl) (by first | exact .inl rfl | exact .inr rfl)) (gvs_cons (gv_name (i := 2) sc_solved.nd rfl (by first | exact .inl rfl | exact .inr rfl) (by first | exact .inl rfl | exact .inr rfl)) (gvs_nil) rfl) rfl) rfl rfl) rfl rfl rfl)
    (svs_cons (sv_if (et_in (Room.u65 hr) (ev_int) (evV 2) rfl) (svs_one (sv_ret (ev_non))) (svs_nil))
    (svs_one (sv_ret (b_sum rfl rfl T.z_sum (ea_cons (ev_ofF (ef_lc rfl sc_solved.nd (ei_seq (evV 1)) (own := [("row", 3), ("goal", 4)]) (blkOk_by (N := ["pairs", "kept", "idle", "row", "goal"]) (sc := defScope s_solved) (by decide +kernel)) (fun _ _ _ _ _ => gv_tup rfl (gvs_cons (gv_name (i := 3) sc_solved.nd rfl (by first | exact .inl rfl | exact .inr rfl) (by first | exact .inl rfl | exact .inr rfl)) (gvs_cons (gv_name (i := 4) sc_solved.nd rfl (by first | exact .inl rfl | exact .inr rfl) (by first | exact .inl rfl | exact .inr rfl)) (gvs_nil) rfl) rfl) rfl rfl) (fun _ _ _ _ _ => ets_one (et_eqC (Room.u64 hr) (evV 4) (ev_int))) (fun _ _ _ _ _ => ev_shl (ev_int) (ev_sub (ev_bits (evV 3) rfl rfl) (ev_int))) (by decide) (fun _ => rfl))) (ea_nil) rfl) rfl))))
theorem w_breaking_of (T : Top K mg) : FnG P w K mg base false 3 T.f_breaking_of T.d_breaking_of ["hall", "lot"] (m_breaking_of T.ax) := fng_of T.F_breaking_of sc_breaking_of fun cdv A outer s H E hc hr hgd => svs_cons (sv_set (i := 2) sc_breaking_of.nd rfl (by first | exact .inl rfl | exact .inr rfl) (ev_celF (ef_lst (ea_nil))) rfl (by first | exact .inl rfl | exact .inr rfl))
    (svs_cons (sv_for owOf rfl (ei_enumT rfl T.z_enumerate (ea_cons (ev_callF (gd := false) (k := 2) (ps := ["hall"]) ((w_crews_of T).mono (by decide)) hr (fun h => nomatch h) psOf rfl T.m_crews_of T.F_crews_of.kp T.b_crews_of (ea_cons (evV 0) (ea_nil) rfl) (by decide) rfl rfl) (ea_nil) rfl) rfl) (gv_tup rfl (gvs_cons (gv_name (i := 3) sc_breaking_of.nd rfl (by first | exact .inl rfl | exact .inr rfl) (by first | exact .inl rfl | exact .inr rfl)) (gvs_cons (gv_name (i := 4) sc_breaking_of.nd rfl (by first | exact .inl rfl | exact .inr rfl) (by first | exact .inl rfl | exact .inr rfl)) (gvs_nil) rfl) rfl) rfl rfl) (svs_cons (sv_set (i := 5) sc_breaking_of.nd rfl (by first | exact .inl rfl | exact .inr rfl) (ev_add (b_int rfl T.z_int (ea_cons (ev_eqC (Room.u64 hr) (ev_ix (Room.u1 hr) (ev_callF (gd := false) (k := 2) (ps := ["hall"]) ((w_signs_of T).mono (by decide)) hr (fun h => nomatch h) psOf rfl T.m_signs_of T.F_signs_of.kp T.b_signs_of (ea_cons (evV 0) (ea_nil) rfl) (by decide) rfl rfl) (evV 3) (fun _ _ => rfl) (fun _ _ => rfl)) (ev_neg (ev_int))) (ea_nil) rfl) rfl) (b_int rfl T.z_int (ea_cons (ev_in (Room.u65 hr) (evV 3) (evV 1) rfl) (ea_nil) rfl) rfl)) rfl (by first | exact .inl rfl | exact .inr rfl))
    (svs_one (sv_expr (ev_append (evV 2) (ea_cons (ev_tup (ea_cons (ev_callF (gd := false) (k := 2) (ps := ["items"]) ((w_mask_of T).mono (by decide)) hr (fun h => nomatch h) psOf rfl T.m_mask_of T.F_mask_of.kp T.b_mask_of (ea_cons (evV 4) (ea_nil) rfl) (by decide) rfl rfl) (ea_cons (ev_mod (ev_add (b_len rfl T.z_len (ea_cons (evV 4) (ea_nil) rfl) rfl) (evV 5)) (ev_int)) (ea_nil) rfl) rfl)) (ea_nil) rfl) rfl rfl rfl rfl) rfl))) (fun _ => rfl))
    (svs_cons (sv_set (i := 6) sc_breaking_of.nd rfl (by first | exact .inl rfl | exact .inr rfl) (ev_callF (gd := false) (k := 2) (ps := ["pairs"]) ((w_solved T).mono (by decide)) hr (fun h => nomatch h) psOf rfl T.m_solved T.F_solved.kp T.b_solved (ea_cons (ev_frz (evV 2)) (ea_nil) rfl) (by decide) rfl rfl) rfl (by first | exact .inl rfl | exact .inr rfl))
    (svs_cons (sv_if (et_is (evV 6) (ev_non)) (svs_one (sv_ret (ev_non))) (svs_nil))
    (svs_one (sv_ret (b_tuple rfl T.z_tuple (ea_cons (ev_ofF (ef_lc rfl sc_breaking_of.nd (ei_range1 rfl T.z_range (ea_cons (ev_fld (C := T.C_Hall) T.cl_Hall T.nf_Hall_many (evV 0) rfl) (ea_nil) rfl) rfl) (own := [("turner", 7)]) (blkOk_by (N := ["hall", "lot", "pairs", "at", "crew", "less", "found", "turner"]) (sc := defScope s_breaking_of) (by decide +kernel)) (fun _ _ _ _ _ => gv_name (i := 7) sc_breaking_of.nd rfl (by first | exact .inl rfl | exact .inr rfl) (by first | exact .inl rfl | exact .inr rfl)) (fun _ _ _ _ _ => ets_nil) (fun _ _ _ _ _ => ev_if (et_eqC (Room.u64 hr) (ev_and (ev_shr (evV 6) (evV 7)) (ev_int)) (ev_int)) (ev_int) (ev_neg (ev_int))) (by decide) (fun _ => rfl))) (ea_nil) rfl) rfl))))))
theorem w_signing_for (T : Top K mg) : FnG P w K mg base false 4 T.f_signing_for T.d_signing_for ["hall"] (m_signing_for T.ax) := fng_of T.F_signing_for sc_signing_for fun cdv A outer s H E hc hr hgd => svs_one (sv_ret (ev_callF (gd := false) (k := 3) (ps := ["hall", "lot"]) ((w_breaking_of T).mono (by decide)) hr (fun h => nomatch h) psOf rfl T.m_breaking_of T.F_breaking_of.kp T.b_breaking_of (ea_cons (evV 0) (ea_cons (ev_tup (ea_nil)) (ea_nil) rfl) rfl) (by decide) rfl rfl))
theorem w_signing_of (T : Top K mg) : FnG P w K mg base false 5 T.f_signing_of T.d_signing_of ["hall"] (m_signing_of T.ax) := fng_of T.F_signing_of sc_signing_of fun cdv A outer s H E hc hr hgd => svs_cons (sv_expr (ev_callF (gd := false) (k := 4) (ps := ["hall"]) ((w_need_hall T).mono (by decide)) hr (fun h => nomatch h) psOf rfl T.m_need_hall T.F_need_hall.kp T.b_need_hall (ea_cons (evV 0) (ea_nil) rfl) (by decide) rfl rfl) rfl)
    (svs_one (sv_ret (ev_callF (gd := false) (k := 4) (ps := ["hall"]) ((w_signing_for T).mono (by decide)) hr (fun h => nomatch h) psOf rfl T.m_signing_for T.F_signing_for.kp T.b_signing_for (ea_cons (evV 0) (ea_nil) rfl) (by decide) rfl rfl)))
theorem w__law_is_whole (T : Top K mg) : FnG P w K mg base false 1 T.f__law_is_whole T.d__law_is_whole ["_law_item"] (m__law_is_whole) := fng_of T.F__law_is_whole sc__law_is_whole fun cdv A outer s H E hc hr hgd => svs_one (sv_ret (ev_andB (b_isi2 rfl T.z_isinstance (ea_cons (evV 0) (ea_cons (ev_bltn (v := .ty "int") rfl T.z_int boot_int rfl (by decide) (by decide)) (ea_nil) rfl) rfl) rfl rfl) (ev_one (ev_not (b_isi2 rfl T.z_isinstance (ea_cons (evV 0) (ea_cons (ev_bltn (v := .ty "bool") rfl T.z_bool boot_bool rfl (by decide) (by decide)) (ea_nil) rfl) rfl) rfl rfl)))))
theorem w__law_is_below (T : Top K mg) : FnG P w K mg base false 2 T.f__law_is_below T.d__law_is_below ["_law_item", "_law_size_here"] (m__law_is_below) := fng_of T.F__law_is_below sc__law_is_below fun cdv A outer s H E hc hr hgd => svs_one (sv_ret (ev_andB (ev_callF (gd := false) (k := 1) (ps := ["_law_item"]) ((w__law_is_whole T).mono (by decide)) hr (fun h => nomatch h) psOf rfl T.m__law_is_whole T.F__law_is_whole.kp T.b__law_is_whole (ea_cons (evV 0) (ea_nil) rfl) (by decide) rfl rfl) (ev_one (ev_chain op_le bo_B0 op_lt bo_B0 (ev_int) (evV 0) (evV 1) (by with_unfolding_all rfl)))))
theorem w__law_is_rising (T : Top K mg) : FnG P w K mg base false 3 T.f__law_is_rising T.d__law_is_rising ["_law_item", "_law_many"] (m__law_is_rising) := fng_of T.F__law_is_rising sc__law_is_rising fun cdv A outer s H E hc hr hgd => svs_cons (sv_if (et_w (ew_or (et_not (et_tru (b_isi2 rfl T.z_isinstance (ea_cons (evV 0) (ea_cons (ev_bltn (v := .ty "tuple") rfl T.z_tuple boot_tuple rfl (by decide) (by decide)) (ea_nil) rfl) rfl) rfl rfl) (fun _ => rfl))) (ew_or1 (et_neC (Room.u64 hr) (ev_ofF (ef_lc rfl sc__law_is_rising.nd (ei_seq (evV 0)) (own := [("_law_each", 2)]) (blkOk_by (N := ["_law_item", "_law_many", "_law_each", "_law_spot"]) (sc := defScope s__law_is_rising) (by decide +kernel)) (fun _ _ _ _ _ => gv_name (i := 2) sc__law_is_rising.nd rfl (by first | exact .inl rfl | exact .inr rfl) (by first | exact .inl rfl | exact .inr rfl)) (fun _ _ _ _ _ => ets_one (et_not (et_tru (ev_callF (gd := false) (k := 2) (ps := ["_law_item", "_law_size_here"]) ((w__law_is_below T).mono (by decide)) hr (fun h => nomatch h) pass_never rfl T.m__law_is_below T.F__law_is_below.kp T.b__law_is_below (ea_cons (evV 2) (ea_cons (evV 1) (ea_nil) rfl) rfl) (by decide) rfl rfl) (fun _ => rfl)))) (fun _ _ _ _ _ => ev_int) (by decide) (fun _ => rfl))) (ev_lst (ea_nil)))))) (svs_one (sv_ret (ev_bl))) (svs_nil))
    (svs_one (sv_ret (ev_eqC (Room.u64 hr) (ev_ofF (ef_lc rfl sc__law_is_rising.nd (ei_range1 rfl T.z_range (ea_cons (ev_sub (b_len rfl T.z_len (ea_cons (evV 0) (ea_nil) rfl) rfl) (ev_int)) (ea_nil) rfl) rfl) (own := [("_law_spot", 3)]) (blkOk_by (N := ["_law_item", "_law_many", "_law_each", "_law_spot"]) (sc := defScope s__law_is_rising) (by decide +kernel)) (fun _ _ _ _ _ => gv_name (i := 3) sc__law_is_rising.nd rfl (by first | exact .inl rfl | exact .inr rfl) (by first | exact .inl rfl | exact .inr rfl)) (fun _ _ _ _ _ => ets_one (et_ge (ev_ix (Room.u1 hr) (evV 0) (evV 3) (fun _ _ => rfl) (fun _ _ => rfl)) (ev_ix (Room.u1 hr) (evV 0) (ev_add (evV 3) (ev_int)) (fun _ _ => rfl) (fun _ _ => rfl)))) (fun _ _ _ _ _ => ev_int) (by decide) (fun _ => rfl))) (ev_lst (ea_nil)))))
theorem w__law_is_minus (T : Top K mg) : FnG P w K mg base false 1 T.f__law_is_minus T.d__law_is_minus ["_law_scope", "_law_lot"] (m__law_is_minus) := fng_of T.F__law_is_minus sc__law_is_minus fun cdv A outer s H E hc hr hgd => svs_one (sv_ret (ev_eqC (Room.u64 hr) (ev_mod (b_int rfl T.z_int (ea_cons (b_len rfl T.z_len (ea_cons (ev_ofF (ef_lc rfl sc__law_is_minus.nd (ei_seq (evV 1)) (own := [("_law_spot", 2)]) (blkOk_by (N := ["_law_scope", "_law_lot", "_law_spot"]) (sc := defScope s__law_is_minus) (by decide +kernel)) (fun _ _ _ _ _ => gv_name (i := 2) sc__law_is_minus.nd rfl (by first | exact .inl rfl | exact .inr rfl) (by first | exact .inl rfl | exact .inr rfl)) (fun _ _ _ _ _ => ets_one (et_eqC (Room.u64 hr) (ev_ix (Room.u1 hr) (ev_ix (Room.u1 hr) (ev_ix (Room.u1 hr) (evV 0) (ev_str) (fun _ _ => rfl) (fun _ _ => rfl)) (evV 2) (fun _ _ => rfl) (fun _ _ => rfl)) (ev_int) (fun _ _ => rfl) (fun _ _ => rfl)) (ev_neg (ev_int)))) (fun _ _ _ _ _ => ev_int) (by decide) (fun _ => rfl))) (ea_nil) rfl) rfl) (ea_nil) rfl) rfl) (ev_int)) (ev_int)))
theorem w__law_is_odd_lot (T : Top K mg) : FnG P w K mg base false 4 T.f__law_is_odd_lot T.d__law_is_odd_lot ["_law_scope", "_law_item"] (m__law_is_odd_lot) := fng_of T.F__law_is_odd_lot sc__law_is_odd_lot fun cdv A outer s H E hc hr hgd => svs_cons (sv_if (et_w (ew_or (et_not (et_tru (ev_callF (gd := false) (k := 3) (ps := ["_law_item", "_law_many"]) ((w__law_is_rising T).mono (by decide)) hr (fun h => nomatch h) psOf rfl T.m__law_is_rising T.F__law_is_rising.kp T.b__law_is_rising (ea_cons (evV 1) (ea_cons (b_len rfl T.z_len (ea_cons (ev_ix (Room.u1 hr) (evV 0) (ev_str) (fun _ _ => rfl) (fun _ _ => rfl)) (ea_nil) rfl) rfl) (ea_nil) rfl) rfl) (by decide) rfl rfl) (fun _ => rfl))) (ew_or1 (et_not (et_tru (ev_callF (gd := false) (k := 3) (ps := ["_law_scope", "_law_lot"]) ((w__law_is_minus T).mono (by decide)) hr (fun h => nomatch h) psOf rfl T.m__law_is_minus T.F__law_is_minus.kp T.b__law_is_minus (ea_cons (evV 0) (ea_cons (evV 1) (ea_nil) rfl) rfl) (by decide) rfl rfl) (fun _ => rfl)))))) (svs_one (sv_ret (ev_bl))) (svs_nil))
    (svs_cons (sv_for owOf rfl (ei_range1 rfl T.z_range (ea_cons (ev_ix (Room.u1 hr) (evV 0) (ev_str) (fun _ _ => rfl) (fun _ _ => rfl)) (ea_nil) rfl) rfl) (gv_name (i := 2) sc__law_is_odd_lot.nd rfl (by first | exact .inl rfl | exact .inr rfl) (by first | exact .inl rfl | exact .inr rfl)) (svs_cons (sv_set (i := 3) sc__law_is_odd_lot.nd rfl (by first | exact .inl rfl | exact .inr rfl) (b_len rfl T.z_len (ea_cons (ev_ofF (ef_lc rfl sc__law_is_odd_lot.nd (ei_seq (evV 1)) (own := [("_law_spot", 4)]) (blkOk_by (N := ["_law_scope", "_law_item", "_law_turner_here", "_law_many", "_law_spot"]) (sc := defScope s__law_is_odd_lot) (by decide +kernel)) (fun _ _ _ _ _ => gv_name (i := 4) sc__law_is_odd_lot.nd rfl (by first | exact .inl rfl | exact .inr rfl) (by first | exact .inl rfl | exact .inr rfl)) (fun _ _ _ _ _ => ets_one (et_in (Room.u65 hr) (evV 2) (ev_ix (Room.u1 hr) (ev_ix (Room.u1 hr) (ev_ix (Room.u1 hr) (evV 0) (ev_str) (fun _ _ => rfl) (fun _ _ => rfl)) (evV 4) (fun _ _ => rfl) (fun _ _ => rfl)) (ev_int) (fun _ _ => rfl) (fun _ _ => rfl)) rfl)) (fun _ _ _ _ _ => ev_int) (by decide) (fun _ => rfl))) (ea_nil) rfl) rfl) rfl (by first | exact .inl rfl | exact .inr rfl))
    (svs_one (sv_if (et_eqC (Room.u64 hr) (ev_mod (b_int rfl T.z_int (ea_cons (evV 3) (ea_nil) rfl) rfl) (ev_int)) (ev_int)) (svs_one (sv_ret (ev_bl))) (svs_nil)))) (fun _ => rfl))
    (svs_one (sv_ret (ev_bl))))
theorem w__law_are_signs (T : Top K mg) : FnG P w K mg base false 2 T.f__law_are_signs T.d__law_are_signs ["_law_item", "_law_many"] (m__law_are_signs) := fng_of T.F__law_are_signs sc__law_are_signs fun cdv A outer s H E hc hr hgd => svs_cons (sv_if (et_w (ew_or (et_not (et_tru (b_isi2 rfl T.z_isinstance (ea_cons (evV 0) (ea_cons (ev_bltn (v := .ty "tuple") rfl T.z_tuple boot_tuple rfl (by decide) (by decide)) (ea_nil) rfl) rfl) rfl rfl) (fun _ => rfl))) (ew_or1 (et_neC (Room.u64 hr) (b_len rfl T.z_len (ea_cons (evV 0) (ea_nil) rfl) rfl) (evV 1))))) (svs_one (sv_ret (ev_bl))) (svs_nil))
    (svs_one (sv_ret (ev_eqC (Room.u64 hr) (ev_ofF (ef_lc rfl sc__law_are_signs.nd (ei_seq (evV 0)) (own := [("_law_each", 2)]) (blkOk_by (N := ["_law_item", "_law_many", "_law_each"]) (sc := defScope s__law_are_signs) (by decide +kernel)) (fun _ _ _ _ _ => gv_name (i := 2) sc__law_are_signs.nd rfl (by first | exact .inl rfl | exact .inr rfl) (by first | exact .inl rfl | exact .inr rfl)) (fun _ _ _ _ _ => ets_one (et_w (ew_or (et_not (et_tru (ev_callF (gd := false) (k := 1) (ps := ["_law_item"]) ((w__law_is_whole T).mono (by decide)) hr (fun h => nomatch h) pass_never rfl T.m__law_is_whole T.F__law_is_whole.kp T.b__law_is_whole (ea_cons (evV 2) (ea_nil) rfl) (by decide) rfl rfl) (fun _ => rfl))) (ew_or1 (et_notIn (Room.u65 hr) (evV 2) (ev_lst (ea_cons (ev_int) (ea_cons (ev_neg (ev_int)) (ea_nil) rfl) rfl)) rfl))))) (fun _ _ _ _ _ => ev_int) (by decide) (fun _ => rfl))) (ev_lst (ea_nil)))))
theorem w__law_signs_of (T : Top K mg) : FnG P w K mg base false 1 T.f__law_signs_of T.d__law_signs_of ["_law_scope", "_law_several"] (m__law_signs_of) := fng_of T.F__law_signs_of sc__law_signs_of fun cdv A outer s H E hc hr hgd => svs_cons (sv_set (i := 2) sc__law_signs_of.nd rfl (by first | exact .inl rfl | exact .inr rfl) (ev_celF (ef_lst (ea_nil))) rfl (by first | exact .inl rfl | exact .inr rfl))
    (svs_cons (sv_for owOf rfl (ei_seq (ev_ix (Room.u1 hr) (evV 0) (ev_str) (fun _ _ => rfl) (fun _ _ => rfl))) (gv_tup rfl (gvs_cons (gv_name (i := 3) sc__law_signs_of.nd rfl (by first | exact .inl rfl | exact .inr rfl) (by first | exact .inl rfl | exact .inr rfl)) (gvs_cons (gv_name (i := 4) sc__law_signs_of.nd rfl (by first | exact .inl rfl | exact .inr rfl) (by first | exact .inl rfl | exact .inr rfl)) (gvs_nil) rfl) rfl) rfl rfl) (svs_cons (sv_setLc (i := 5) eOfF (fun _ _ _ _ h => data_use h) rfl sc__law_signs_of.nd rfl rfl (sw_true rfl rfl rfl rfl) (ei_seq (evV 4)) (own := [("_law_item", 6)]) (blkOk_by (N := ["_law_scope", "_law_several", "_law_found", "_law_sign_here", "_law_crew", "_law_less", "_law_item"]) (sc := defScope s__law_signs_of) (by decide +kernel)) (fun _ _ _ _ _ => gv_name (i := 6) sc__law_signs_of.nd rfl (by first | exact .inl rfl | exact .inr rfl) (by first | exact .inl rfl | exact .inr rfl)) (fun _ _ _ _ _ => ets_one (et_eqC (Room.u64 hr) (ev_ix (Room.u1 hr) (evV 1) (evV 6) (fun _ _ => rfl) (fun _ _ => rfl)) (ev_neg (ev_int)))) (fun _ _ _ _ _ => ev_int) (by decide) (fun _ => rfl))
    (svs_one (sv_expr (ev_append (evV 2) (ea_cons (ev_eqC (Room.u64 hr) (ev_eqC (Room.u64 hr) (ev_mod (b_int rfl T.z_int (ea_cons (b_len rfl T.z_len (ea_cons (evV 5) (ea_nil) rfl) rfl) (ea_nil) rfl) rfl) (ev_int)) (ev_int)) (ev_eqC (Room.u64 hr) (evV 3) (ev_neg (ev_int)))) (ea_nil) rfl) rfl rfl rfl rfl) rfl))) (fun _ => rfl))
    (svs_one (sv_ret (ev_frz (evV 2)))))
theorem w__law_broken (T : Top K mg) : FnG P w K mg base false 2 T.f__law_broken T.d__law_broken ["_law_scope", "_law_several"] (m__law_broken) := fng_of T.F__law_broken sc__law_broken fun cdv A outer s H E hc hr hgd => svs_cons (sv_set (i := 2) sc__law_broken.nd rfl (by first | exact .inl rfl | exact .inr rfl) (ev_callF (gd := false) (k := 1) (ps := ["_law_scope", "_law_several"]) ((w__law_signs_of T).mono (by decide)) hr (fun h => nomatch h) psOf rfl T.m__law_signs_of T.F__law_signs_of.kp T.b__law_signs_of (ea_cons (evV 0) (ea_cons (evV 1) (ea_nil) rfl) rfl) (by decide) rfl rfl) rfl (by first | exact .inl rfl | exact .inr rfl))
    (svs_one (sv_ret (b_tuple rfl T.z_tuple (ea_cons (ev_ofF (ef_lc rfl sc__law_broken.nd (ei_range1 rfl T.z_range (ea_cons (b_len rfl T.z_len (ea_cons (evV 2) (ea_nil) rfl) rfl) (ea_nil) rfl) rfl) (own := [("_law_spot", 3)]) (blkOk_by (N := ["_law_scope", "_law_several", "_law_told", "_law_spot"]) (sc := defScope s__law_broken) (by decide +kernel)) (fun _ _ _ _ _ => gv_name (i := 3) sc__law_broken.nd rfl (by first | exact .inl rfl | exact .inr rfl) (by first | exact .inl rfl | exact .inr rfl)) (fun _ _ _ _ _ => ets_one (et_not (et_tru (ev_ix (Room.u1 hr) (evV 2) (evV 3) (fun _ _ => rfl) (fun _ _ => rfl)) (fun _ => rfl)))) (fun _ _ _ _ _ => evV 3) (by decide) (fun _ => rfl))) (ea_nil) rfl) rfl)))
theorem w_signings_many (T : Top K mg) : FnG P w K mg base false 5 T.f_signings_many T.d_signings_many ["hall"] (m_signings_many T.ax) := fng_of T.F_signings_many sc_signings_many fun cdv A outer s H E hc hr hgd => svs_cons (sv_expr (ev_callF (gd := false) (k := 4) (ps := ["hall"]) ((w_need_hall T).mono (by decide)) hr (fun h => nomatch h) psOf rfl T.m_need_hall T.F_need_hall.kp T.b_need_hall (ea_cons (evV 0) (ea_nil) rfl) (by decide) rfl rfl) rfl)
    (svs_cons (sv_if (et_is (ev_callF (gd := false) (k := 4) (ps := ["hall"]) ((w_signing_for T).mono (by decide)) hr (fun h => nomatch h) psOf rfl T.m_signing_for T.F_signing_for.kp T.b_signing_for (ea_cons (evV 0) (ea_nil) rfl) (by decide) rfl rfl) (ev_non)) (svs_one (sv_ret (ev_int))) (svs_nil))
    (svs_cons (sv_asg (ev_callF (gd := false) (k := 4) (ps := ["pairs"]) ((w_reduced T).mono (by decide)) hr (fun h => nomatch h) psOf rfl T.m_reduced T.F_reduced.kp T.b_reduced (ea_cons (ev_ofF (ef_lc rfl sc_signings_many.nd (ei_seq (ev_callF (gd := false) (k := 4) (ps := ["hall"]) ((w_crews_of T).mono (by decide)) hr (fun h => nomatch h) psOf rfl T.m_crews_of T.F_crews_of.kp T.b_crews_of (ea_cons (evV 0) (ea_nil) rfl) (by decide) rfl rfl)) (own := [("crew", 3)]) (blkOk_by (N := ["hall", "kept", "_", "crew"]) (sc := defScope s_signings_many) (by decide +kernel)) (fun _ _ _ _ _ => gv_name (i := 3) sc_signings_many.nd rfl (by first | exact .inl rfl | exact .inr rfl) (by first | exact .inl rfl | exact .inr rfl)) (fun _ _ _ _ _ => ets_nil) (fun _ _ _ _ _ => ev_tup (ea_cons (ev_callF (gd := false) (k := 4) (ps := ["items"]) ((w_mask_of T).mono (by decide)) hr (fun h => nomatch h) pass_never rfl T.m_mask_of T.F_mask_of.kp T.b_mask_of (ea_cons (evV 3) (ea_nil) rfl) (by decide) rfl rfl) (ea_cons (ev_int) (ea_nil) rfl) rfl)) (by decide) (fun _ => rfl))) (ea_nil) rfl) (by decide) rfl rfl) (gv_tup rfl (gvs_cons (gv_name (i := 1) sc_signings_many.nd rfl (by first | exact .inl rfl | exact .inr rfl) (by first | exact .inl rfl | exact .inr rfl)) (gvs_cons (gv_name (i := 2) sc_signings_many.nd rfl (by first | exact .inl rfl | exact .inr rfl) (by first | exact .inl rfl | exact .inr rfl)) (gvs_nil) rfl) rfl) rfl rfl) rfl rfl rfl)
    (svs_one (sv_ret (ev_shl (ev_int) (ev_sub (ev_fld (C := T.C_Hall) T.cl_Hall T.nf_Hall_many (evV 0) rfl) (b_len rfl T.z_len (ea_cons (evV 1) (ea_nil) rfl) rfl)))))))
theorem w__law_power (T : Top K mg) : FnG P w K mg base false 1 T.f__law_power T.d__law_power ["_law_times_here"] (m__law_power) := fng_of T.F__law_power sc__law_power fun cdv A outer s H E hc hr hgd => svs_cons (sv_set (i := 1) sc__law_power.nd rfl (by first | exact .inl rfl | exact .inr rfl) (ev_int) rfl (by first | exact .inl rfl | exact .inr rfl))
    (svs_cons (sv_for owOf rfl (ei_range1 rfl T.z_range (ea_cons (evV 0) (ea_nil) rfl) rfl) (gv_name (i := 2) sc__law_power.nd rfl (by first | exact .inl rfl | exact .inr rfl) (by first | exact .inl rfl | exact .inr rfl)) (svs_one (sv_set (i := 1) sc__law_power.nd rfl (by first | exact .inl rfl | exact .inr rfl) (ev_mul (ev_int) (evV 1)) rfl (by first | exact .inl rfl | exact .inr rfl))) (fun _ => rfl))
    (svs_one (sv_ret (evV 1))))
theorem w__law_crews (T : Top K mg) : FnG P w K mg base false 1 T.f__law_crews T.d__law_crews ["_law_scope"] (m__law_crews) := fng_of T.F__law_crews sc__law_crews fun cdv A outer s H E hc hr hgd => svs_one (sv_ret (ev_ofF (ef_lc rfl sc__law_crews.nd (ei_seq (ev_ix (Room.u1 hr) (evV 0) (ev_str) (fun _ _ => rfl) (fun _ _ => rfl))) (own := [("_law_sign_here", 1), ("_law_crew", 2)]) (blkOk_by (N := ["_law_scope", "_law_sign_here", "_law_crew"]) (sc := defScope s__law_crews) (by decide +kernel)) (fun _ _ _ _ _ => gv_tup rfl (gvs_cons (gv_name (i := 1) sc__law_crews.nd rfl (by first | exact .inl rfl | exact .inr rfl) (by first | exact .inl rfl | exact .inr rfl)) (gvs_cons (gv_name (i := 2) sc__law_crews.nd rfl (by first | exact .inl rfl | exact .inr rfl) (by first | exact .inl rfl | exact .inr rfl)) (gvs_nil) rfl) rfl) rfl rfl) (fun _ _ _ _ _ => ets_nil) (fun _ _ _ _ _ => evV 2) (by decide) (fun _ => rfl))))
theorem w__law_unlike (T : Top K mg) : FnG P w K mg base false 1 T.f__law_unlike T.d__law_unlike ["_law_one", "_law_other"] (m__law_unlike) := fng_of T.F__law_unlike sc__law_unlike fun cdv A outer s H E hc hr hgd => svs_one (sv_ret (b_sorted2 rfl T.z_sorted (ea_cons (ev_add (ev_ofF (ef_lc rfl sc__law_unlike.nd (ei_seq (evV 0)) (own := [("_law_item", 2)]) (blkOk_by (N := ["_law_one", "_law_other", "_law_item"]) (sc := defScope s__law_unlike) (by decide +kernel)) (fun _ _ _ _ _ => gv_name (i := 2) sc__law_unlike.nd rfl (by first | exact .inl rfl | exact .inr rfl) (by first | exact .inl rfl | exact .inr rfl)) (fun _ _ _ _ _ => ets_one (et_notIn (Room.u65 hr) (evV 2) (evV 1) rfl)) (fun _ _ _ _ _ => evV 2) (by decide) (fun _ => rfl))) (ev_ofF (ef_lc rfl sc__law_unlike.nd (ei_seq (evV 1)) (own := [("_law_item", 2)]) (blkOk_by (N := ["_law_one", "_law_other", "_law_item"]) (sc := defScope s__law_unlike) (by decide +kernel)) (fun _ _ _ _ _ => gv_name (i := 2) sc__law_unlike.nd rfl (by first | exact .inl rfl | exact .inr rfl) (by first | exact .inl rfl | exact .inr rfl)) (fun _ _ _ _ _ => ets_one (et_notIn (Room.u65 hr) (evV 2) (evV 0) rfl)) (fun _ _ _ _ _ => evV 2) (by decide) (fun _ => rfl)))) (ea_nil) rfl) rfl))
theorem w__law_freedom (T : Top K mg) : FnG P w K mg base false 2 T.f__law_freedom T.d__law_freedom ["_law_scope"] (m__law_freedom) := fng_of T.F__law_freedom sc__law_freedom fun cdv A outer s H E hc hr hgd => svs_cons (sv_par (i := 1) (j := 2) rfl sc__law_freedom.nd rfl rfl (by decide) rfl rfl (ea_cons (ev_ofF (ef_lc rfl sc__law_freedom.nd (ei_seq (ev_callF (gd := false) (k := 1) (ps := ["_law_scope"]) ((w__law_crews T).mono (by decide)) hr (fun h => nomatch h) psOf rfl T.m__law_crews T.F__law_crews.kp T.b__law_crews (ea_cons (evV 0) (ea_nil) rfl) (by decide) rfl rfl)) (own := [("_law_crew", 5)]) (blkOk_by (N := ["_law_scope", "_law_crews_here", "_law_many", "_law_item", "_law_near", "_law_crew"]) (sc := defScope s__law_freedom) (by decide +kernel)) (fun _ _ _ _ _ => gv_name (i := 5) sc__law_freedom.nd rfl (by first | exact .inl rfl | exact .inr rfl) (by first | exact .inl rfl | exact .inr rfl)) (fun _ _ _ _ _ => ets_nil) (fun _ _ _ _ _ => b_list2 rfl rfl T.z_list (ea_cons (evV 5) (ea_nil) rfl) rfl) (by decide) (fun _ => rfl))) (ea_cons (ev_ix (Room.u1 hr) (evV 0) (ev_str) (fun _ _ => rfl) (fun _ _ => rfl)) (ea_nil) rfl) rfl) rfl rfl)
    (svs_cons (sv_for owOf rfl (ei_range1 rfl T.z_range (ea_cons (ev_ix (Room.u1 hr) (evV 0) (ev_str) (fun _ _ => rfl) (fun _ _ => rfl)) (ea_nil) rfl) rfl) (gv_name (i := 3) sc__law_freedom.nd rfl (by first | exact .inl rfl | exact .inr rfl) (by first | exact .inl rfl | exact .inr rfl)) (svs_cons (sv_set (i := 4) sc__law_freedom.nd rfl (by first | exact .inl rfl | exact .inr rfl) (ev_ofF (ef_lc rfl sc__law_freedom.nd (ei_seq (evV 1)) (own := [("_law_crew", 5)]) (blkOk_by (N := ["_law_scope", "_law_crews_here", "_law_many", "_law_item", "_law_near", "_law_crew"]) (sc := defScope s__law_freedom) (by decide +kernel)) (fun _ _ _ _ _ => gv_name (i := 5) sc__law_freedom.nd rfl (by first | exact .inl rfl | exact .inr rfl) (by first | exact .inl rfl | exact .inr rfl)) (fun _ _ _ _ _ => ets_one (et_in (Room.u65 hr) (evV 3) (evV 5) rfl)) (fun _ _ _ _ _ => evV 5) (by decide) (fun _ => rfl))) rfl (by first | exact .inl rfl | exact .inr rfl))
    (svs_one (sv_if (et_neC (Room.u64 hr) (evV 4) (ev_lst (ea_nil))) (svs_cons (sv_set (i := 2) sc__law_freedom.nd rfl (by first | exact .inl rfl | exact .inr rfl) (ev_sub (evV 2) (ev_int)) rfl (by first | exact .inl rfl | exact .inr rfl))
    (svs_one (sv_setLc (i := 1) eOfF (fun _ _ _ _ h => data_use h) rfl sc__law_freedom.nd rfl rfl (sw_true rfl rfl rfl rfl) (ei_seq (evV 1)) (own := [("_law_crew", 5)]) (blkOk_by (N := ["_law_scope", "_law_crews_here", "_law_many", "_law_item", "_law_near", "_law_crew"]) (sc := defScope s__law_freedom) (by decide +kernel)) (fun _ _ _ _ _ => gv_name (i := 5) sc__law_freedom.nd rfl (by first | exact .inl rfl | exact .inr rfl) (by first | exact .inl rfl | exact .inr rfl)) (fun _ _ _ _ _ => ets_nil) (fun _ _ _ _ _ => ev_if (et_in (Room.u65 hr) (evV 3) (evV 5) rfl) (ev_callF (gd := false) (k := 1) (ps := ["_law_one", "_law_other"]) ((w__law_unlike T).mono (by decide)) hr (fun h => nomatch h) pass_never rfl T.m__law_unlike T.F__law_unlike.kp T.b__law_unlike (ea_cons (evV 5) (ea_cons (ev_ix (Room.u1 hr) (evV 4) (ev_int) (fun _ _ => rfl) (fun _ _ => rfl)) (ea_nil) rfl) rfl) (by decide) rfl rfl) (evV 5)) (by decide) (fun _ => rfl)))) (svs_nil)))) (fun _ => rfl))
    (svs_one (sv_ret (evV 2))))
theorem w__law_one_or_other (T : Top K mg) (hTB : Tb T base) : FnG P w K mg base true 10 T.f__law_one_or_other T.d__law_one_or_other ["_law_scope"] (m__law_one_or_other T.ax) := fng_of T.F__law_one_or_other sc__law_one_or_other fun cdv A outer s H E hc hr hgd => svs_cons (sv_set (i := 1) sc__law_one_or_other.nd rfl (by first | exact .inl rfl | exact .inr rfl) (ev_callF (gd := false) (k := 9) (ps := ["_law_scope"]) ((w__law_made T).mono (by decide)) hr (fun h => nomatch h) psOf rfl T.m__law_made T.F__law_made.kp T.b__law_made (ea_cons (evV 0) (ea_nil) rfl) (by decide) rfl rfl) rfl (by first | exact .inl rfl | exact .inr rfl))
    (svs_cons (sv_par (i := 2) (j := 3) rfl sc__law_one_or_other.nd rfl rfl (by decide) rfl rfl (ea_cons (ev_callF (gd := false) (k := 9) (ps := ["hall"]) ((w_signing_of T).mono (by decide)) hr (fun h => nomatch h) psOf rfl T.m_signing_of T.F_signing_of.kp T.b_signing_of (ea_cons (evV 1) (ea_nil) rfl) (by decide) rfl rfl) (ea_cons (ev_callF (gd := false) (k := 9) (ps := ["hall"]) ((w_odd_lot_of T hTB).mono (by decide)) hr (fun h => nomatch h) psOf rfl T.m_odd_lot_of T.F_odd_lot_of.kp T.b_odd_lot_of (ea_cons (evV 1) (ea_nil) rfl) (by decide) rfl rfl) (ea_nil) rfl) rfl) rfl rfl)
    (svs_cons (sv_if (et_eqC (Room.u64 hr) (ev_is (evV 2) (ev_non)) (ev_is (evV 3) (ev_non))) (svs_one (sv_ret (ev_bl))) (svs_nil))
    (svs_cons (sv_if (et_isNot (evV 3) (ev_non)) (svs_one (sv_ret (ev_andB (ev_callF (gd := false) (k := 9) (ps := ["_law_scope", "_law_item"]) ((w__law_is_odd_lot T).mono (by decide)) hr (fun h => nomatch h) psOf rfl T.m__law_is_odd_lot T.F__law_is_odd_lot.kp T.b__law_is_odd_lot (ea_cons (evV 0) (ea_cons (evV 3) (ea_nil) rfl) rfl) (by decide) rfl rfl) (ev_one (ev_eqC (Room.u64 hr) (b_reprA (hgd rfl) (Room.u66 hr) rfl T.z_repr (ea_cons (ev_callF (gd := false) (k := 9) (ps := ["hall"]) ((w_signings_many T).mono (by decide)) hr (fun h => nomatch h) psOf rfl T.m_signings_many T.F_signings_many.kp T.b_signings_many (ea_cons (evV 1) (ea_nil) rfl) (by decide) rfl rfl) (ea_nil) rfl) rfl) (ev_str)))))) (svs_nil))
    (svs_cons (sv_if (et_w (ew_or (et_not (et_tru (ev_callF (gd := false) (k := 9) (ps := ["_law_item", "_law_many"]) ((w__law_are_signs T).mono (by decide)) hr (fun h => nomatch h) psOf rfl T.m__law_are_signs T.F__law_are_signs.kp T.b__law_are_signs (ea_cons (evV 2) (ea_cons (ev_ix (Room.u1 hr) (evV 0) (ev_str) (fun _ _ => rfl) (fun _ _ => rfl)) (ea_nil) rfl) rfl) (by decide) rfl rfl) (fun _ => rfl))) (ew_or1 (et_neC (Room.u64 hr) (ev_callF (gd := false) (k := 9) (ps := ["_law_scope", "_law_several"]) ((w__law_broken T).mono (by decide)) hr (fun h => nomatch h) psOf rfl T.m__law_broken T.F__law_broken.kp T.b__law_broken (ea_cons (evV 0) (ea_cons (evV 2) (ea_nil) rfl) rfl) (by decide) rfl rfl) (ev_tup (ea_nil)))))) (svs_one (sv_ret (ev_bl))) (svs_nil))
    (svs_one (sv_ret (ev_eqC (Room.u64 hr) (b_reprA (hgd rfl) (Room.u66 hr) rfl T.z_repr (ea_cons (ev_callF (gd := false) (k := 9) (ps := ["hall"]) ((w_signings_many T).mono (by decide)) hr (fun h => nomatch h) psOf rfl T.m_signings_many T.F_signings_many.kp T.b_signings_many (ea_cons (evV 1) (ea_nil) rfl) (by decide) rfl rfl) (ea_nil) rfl) rfl) (b_reprA (hgd rfl) (Room.u66 hr) rfl T.z_repr (ea_cons (ev_callF (gd := false) (k := 9) (ps := ["_law_times_here"]) ((w__law_power T).mono (by decide)) hr (fun h => nomatch h) psOf rfl T.m__law_power T.F__law_power.kp T.b__law_power (ea_cons (ev_callF (gd := false) (k := 9) (ps := ["_law_scope"]) ((w__law_freedom T).mono (by decide)) hr (fun h => nomatch h) psOf rfl T.m__law_freedom T.F__law_freedom.kp T.b__law_freedom (ea_cons (evV 0) (ea_nil) rfl) (by decide) rfl rfl) (ea_nil) rfl) (by decide) rfl rfl) (ea_nil) rfl) rfl))))))))
theorem w__law_drawn_signs (T : Top K mg) : FnG P w K mg base false 3 T.f__law_drawn_signs T.d__law_drawn_signs ["_law_state", "_law_many"] (m__law_drawn_signs) := fng_of T.F__law_drawn_signs sc__law_drawn_signs fun cdv A outer s H E hc hr hgd => svs_one (sv_ret (b_tuple rfl T.z_tuple (ea_cons (ev_ofF (ef_lc rfl sc__law_drawn_signs.nd (ei_range1 rfl T.z_range (ea_cons (evV 1) (ea_nil) rfl) rfl) (own := [("_law_lap", 2)]) (blkOk_by (N := ["_law_state", "_law_many", "_law_lap"]) (sc := defScope s__law_drawn_signs) (by decide +kernel)) (fun _ _ _ _ _ => gv_name (i := 2) sc__law_drawn_signs.nd rfl (by first | exact .inl rfl | exact .inr rfl) (by first | exact .inl rfl | exact .inr rfl)) (fun _ _ _ _ _ => ets_nil) (fun _ _ _ _ _ => ev_callF (gd := false) (k := 2) (ps := ["_law_state", "_law_several"]) ((w__law_pick T).mono (by decide)) hr (fun h => nomatch h) pass_never rfl T.m__law_pick T.F__law_pick.kp T.b__law_pick (ea_cons (evV 0) (ea_cons (ev_lst (ea_cons (ev_int) (ea_cons (ev_neg (ev_int)) (ea_nil) rfl) rfl)) (ea_nil) rfl) rfl) (by decide) rfl rfl) (by decide) (fun _ => rfl))) (ea_nil) rfl) rfl))
theorem w__law_meant (T : Top K mg) : FnG P w K mg base false 4 T.f__law_meant T.d__law_meant ["_law_state", "_law_scope"] (m__law_meant) := fng_of T.F__law_meant sc__law_meant fun cdv A outer s H E hc hr hgd => svs_cons (sv_parC (i := 2) (j := 3) rfl sc__law_meant.nd rfl rfl (by first | exact .inl rfl | exact .inr rfl) (by first | exact .inl rfl | exact .inr rfl) (ea_cons (ev_callF (gd := false) (k := 3) (ps := ["_law_state", "_law_many"]) ((w__law_drawn_signs T).mono (by decide)) hr (fun h => nomatch h) psOf rfl T.m__law_drawn_signs T.F__law_drawn_signs.kp T.b__law_drawn_signs (ea_cons (evV 0) (ea_cons (ev_ix (Room.u1 hr) (evV 1) (ev_str) (fun _ _ => rfl) (fun _ _ => rfl)) (ea_nil) rfl) rfl) (by decide) rfl rfl) (ea_cons (ev_celF (ef_lst (ea_nil))) (ea_nil) rfl) rfl) rfl)
    (svs_cons (sv_for owOf rfl (ei_seq (ev_ix (Room.u1 hr) (evV 1) (ev_str) (fun _ _ => rfl) (fun _ _ => rfl))) (gv_tup rfl (gvs_cons (gv_name (i := 4) sc__law_meant.nd rfl (by first | exact .inl rfl | exact .inr rfl) (by first | exact .inl rfl | exact .inr rfl)) (gvs_cons (gv_name (i := 5) sc__law_meant.nd rfl (by first | exact .inl rfl | exact .inr rfl) (by first | exact .inl rfl | exact .inr rfl)) (gvs_nil) rfl) rfl) rfl rfl) (svs_cons (sv_setLc (i := 6) eOfF (fun _ _ _ _ h => data_use h) rfl sc__law_meant.nd rfl rfl (sw_true rfl rfl rfl rfl) (ei_seq (evV 5)) (own := [("_law_item", 7)]) (blkOk_by (N := ["_law_state", "_law_scope", "_law_several", "_law_found", "_law_sign_here", "_law_crew", "_law_less", "_law_item"]) (sc := defScope s__law_meant) (by decide +kernel)) (fun _ _ _ _ _ => gv_name (i := 7) sc__law_meant.nd rfl (by first | exact .inl rfl | exact .inr rfl) (by first | exact .inl rfl | exact .inr rfl)) (fun _ _ _ _ _ => ets_one (et_eqC (Room.u64 hr) (ev_ix (Room.u1 hr) (evV 2) (evV 7) (fun _ _ => rfl) (fun _ _ => rfl)) (ev_neg (ev_int)))) (fun _ _ _ _ _ => ev_int) (by decide) (fun _ => rfl))
    (svs_one (sv_expr (ev_append (evV 3) (ea_cons (ev_tup (ea_cons (ev_if (et_eqC (Room.u64 hr) (ev_mod (b_int rfl T.z_int (ea_cons (b_len rfl T.z_len (ea_cons (evV 6) (ea_nil) rfl) rfl) (ea_nil) rfl) rfl) (ev_int)) (ev_int)) (ev_neg (ev_int)) (ev_int)) (ea_cons (evV 5) (ea_nil) rfl) rfl)) (ea_nil) rfl) rfl rfl rfl rfl) rfl))) (fun _ => rfl))
    (svs_one (sv_ret (ev_dic (ep_str (ev_ix (Room.u1 hr) (evV 1) (ev_str) (fun _ _ => rfl) (fun _ _ => rfl)) (ep_str (b_tuple rfl T.z_tuple (ea_cons (evV 3) (ea_nil) rfl) rfl) (ep_nil))) rfl rfl (List.cons_ne_nil _ _) (by decide) (of_decide_eq_true rfl) (by decide +kernel)))))
theorem w__law_put (T : Top K mg) : FnG P w K mg base false 1 T.f__law_put T.d__law_put ["_law_row", "_law_spot", "_law_item"] (m__law_put) := fng_of T.F__law_put sc__law_put fun cdv A outer s H E hc hr hgd => svs_one (sv_ret (ev_add (ev_add (ev_sl (evV 0) (eo_none) (eo_some (evV 1))) (ev_tup (ea_cons (evV 2) (ea_nil) rfl))) (ev_sl (evV 0) (eo_some (ev_add (evV 1) (ev_int))) (eo_none))))
theorem w__law_one_turned (T : Top K mg) : FnG P w K mg base false 2 T.f__law_one_turned T.d__law_one_turned ["_law_state", "_law_scope"] (m__law_one_turned) := fng_of T.F__law_one_turned sc__law_one_turned fun cdv A outer s H E hc hr hgd => svs_cons (sv_set (i := 2) sc__law_one_turned.nd rfl (by first | exact .inl rfl | exact .inr rfl) (ev_callF (gd := false) (k := 1) (ps := ["_law_state", "_law_size_here"]) ((w__law_draw T).mono (by decide)) hr (fun h => nomatch h) psOf rfl T.m__law_draw T.F__law_draw.kp T.b__law_draw (ea_cons (evV 0) (ea_cons (b_len rfl T.z_len (ea_cons (ev_ix (Room.u1 hr) (evV 1) (ev_str) (fun _ _ => rfl) (fun _ _ => rfl)) (ea_nil) rfl) rfl) (ea_nil) rfl) rfl) (by decide) rfl rfl) rfl (by first | exact .inl rfl | exact .inr rfl))
    (svs_cons (sv_asg (ev_ix (Room.u1 hr) (ev_ix (Room.u1 hr) (evV 1) (ev_str) (fun _ _ => rfl) (fun _ _ => rfl)) (evV 2) (fun _ _ => rfl) (fun _ _ => rfl)) (gv_tup rfl (gvs_cons (gv_name (i := 3) sc__law_one_turned.nd rfl (by first | exact .inl rfl | exact .inr rfl) (by first | exact .inl rfl | exact .inr rfl)) (gvs_cons (gv_name (i := 4) sc__law_one_turned.nd rfl (by first | exact .inl rfl | exact .inr rfl) (by first | exact .inl rfl | exact .inr rfl)) (gvs_nil) rfl) rfl) rfl rfl) rfl rfl rfl)
    (svs_one (sv_ret (ev_dic (ep_str (ev_ix (Room.u1 hr) (evV 1) (ev_str) (fun _ _ => rfl) (fun _ _ => rfl)) (ep_str (ev_callF (gd := false) (k := 1) (ps := ["_law_row", "_law_spot", "_law_item"]) ((w__law_put T).mono (by decide)) hr (fun h => nomatch h) psOf rfl T.m__law_put T.F__law_put.kp T.b__law_put (ea_cons (ev_ix (Room.u1 hr) (evV 1) (ev_str) (fun _ _ => rfl) (fun _ _ => rfl)) (ea_cons (evV 2) (ea_cons (ev_tup (ea_cons (ev_neg (evV 3)) (ea_cons (evV 4) (ea_nil) rfl) rfl)) (ea_nil) rfl) rfl) rfl) (by decide) rfl rfl) (ep_nil))) rfl rfl (List.cons_ne_nil _ _) (by decide) (of_decide_eq_true rfl) (by decide +kernel)))))
theorem w_law (T : Top K mg) (hTB : Tb T base) : FnG P w K mg base true 11 T.f_law T.d_law ["_law_script"] (m_law_v43 T.ax) := fng_of T.F_law sc_law fun cdv A outer s H E hc hr hgd => svs_cons (sv_set (i := 1) sc_law.nd rfl (by first | exact .inl rfl | exact .inr rfl) (ev_callF (gd := false) (k := 10) (ps := ["_law_script"]) ((w__law_begun T).mono (by decide)) hr (fun h => nomatch h) psOf rfl T.m__law_begun T.F__law_begun.kp T.b__law_begun (ea_cons (evV 0) (ea_nil) rfl) (by decide) rfl rfl) rfl (by first | exact .inl rfl | exact .inr rfl))
    (svs_cons (sv_set (i := 2) sc_law.nd rfl (by first | exact .inl rfl | exact .inr rfl) (ev_callF (gd := false) (k := 10) (ps := ["_law_state"]) ((w__law_wide_hall T).mono (by decide)) hr (fun h => nomatch h) psOf rfl T.m__law_wide_hall T.F__law_wide_hall.kp T.b__law_wide_hall (ea_cons (evV 1) (ea_nil) rfl) (by decide) rfl rfl) rfl (by first | exact .inl rfl | exact .inr rfl))
    (svs_cons (sv_if (et_gt (ev_callF (gd := false) (k := 10) (ps := ["_law_state", "_law_size_here"]) ((w__law_draw T).mono (by decide)) hr (fun h => nomatch h) psOf rfl T.m__law_draw T.F__law_draw.kp T.b__law_draw (ea_cons (evV 1) (ea_cons (ev_int) (ea_nil) rfl) rfl) (by decide) rfl rfl) (ev_int)) (svs_one (sv_set (i := 2) sc_law.nd rfl (by first | exact .inl rfl | exact .inr rfl) (ev_callF (gd := false) (k := 10) (ps := ["_law_state", "_law_scope"]) ((w__law_meant T).mono (by decide)) hr (fun h => nomatch h) psOf rfl T.m__law_meant T.F__law_meant.kp T.b__law_meant (ea_cons (evV 1) (ea_cons (evV 2) (ea_nil) rfl) rfl) (by decide) rfl rfl) rfl (by first | exact .inl rfl | exact .inr rfl))) (svs_nil))
    (svs_cons (sv_if (et_not (et_tru (ev_callF (gd := true) (k := 10) (ps := ["_law_scope"]) ((w__law_one_or_other T hTB).mono (by decide)) hr (fun _ => hgd rfl) psOf rfl T.m__law_one_or_other T.F__law_one_or_other.kp T.b__law_one_or_other (ea_cons (evV 2) (ea_nil) rfl) (by decide) rfl rfl) (fun _ => rfl))) (svs_one (sv_ret (ev_bl))) (svs_nil))
    (svs_cons (sv_for owOf rfl (ei_range1 rfl T.z_range (ea_cons (ev_int) (ea_nil) rfl) rfl) (gv_name (i := 3) sc_law.nd rfl (by first | exact .inl rfl | exact .inr rfl) (by first | exact .inl rfl | exact .inr rfl)) (svs_cons (sv_if (et_neC (Room.u64 hr) (ev_ix (Room.u1 hr) (evV 2) (ev_str) (fun _ _ => rfl) (fun _ _ => rfl)) (ev_tup (ea_nil))) (svs_one (sv_set (i := 2) sc_law.nd rfl (by first | exact .inl rfl | exact .inr rfl) (ev_callF (gd := false) (k := 10) (ps := ["_law_state", "_law_scope"]) ((w__law_one_turned T).mono (by decide)) hr (fun h => nomatch h) psOf rfl T.m__law_one_turned T.F__law_one_turned.kp T.b__law_one_turned (ea_cons (evV 1) (ea_cons (evV 2) (ea_nil) rfl) rfl) (by decide) rfl rfl) rfl (by first | exact .inl rfl | exact .inr rfl))) (svs_nil))
    (svs_one (sv_if (et_not (et_tru (ev_callF (gd := true) (k := 10) (ps := ["_law_scope"]) ((w__law_one_or_other T hTB).mono (by decide)) hr (fun _ => hgd rfl) psOf rfl T.m__law_one_or_other T.F__law_one_or_other.kp T.b__law_one_or_other (ea_cons (evV 2) (ea_nil) rfl) (by decide) rfl rfl) (fun _ => rfl))) (svs_one (sv_ret (ev_bl))) (svs_nil)))) (fun _ => rfl))
    (svs_cons (sv_set (i := 4) sc_law.nd rfl (by first | exact .inl rfl | exact .inr rfl) (ev_dic (ep_str (ev_ix (Room.u1 hr) (evV 2) (ev_str) (fun _ _ => rfl) (fun _ _ => rfl)) (ep_str (ev_sl (ev_ix (Room.u1 hr) (evV 2) (ev_str) (fun _ _ => rfl) (fun _ _ => rfl)) (eo_some (ev_int)) (eo_none)) (ep_nil))) rfl rfl (List.cons_ne_nil _ _) (by decide) (of_decide_eq_true rfl) (by decide +kernel)) rfl (by first | exact .inl rfl | exact .inr rfl))
    (svs_cons (sv_set (i := 5) sc_law.nd rfl (by first | exact .inl rfl | exact .inr rfl) (ev_callF (gd := false) (k := 10) (ps := ["hall"]) ((w_odd_lot_of T hTB).mono (by decide)) hr (fun h => nomatch h) psOf rfl T.m_odd_lot_of T.F_odd_lot_of.kp T.b_odd_lot_of (ea_cons (ev_callF (gd := false) (k := 10) (ps := ["_law_scope"]) ((w__law_made T).mono (by decide)) hr (fun h => nomatch h) psOf rfl T.m__law_made T.F__law_made.kp T.b__law_made (ea_cons (evV 2) (ea_nil) rfl) (by decide) rfl rfl) (ea_nil) rfl) (by decide) rfl rfl) rfl (by first | exact .inl rfl | exact .inr rfl))
    (svs_cons (sv_if (et_w (ew_and (et_isNot (evV 5) (ev_non)) (ew_and (et_neC (Room.u64 hr) (ev_sl (evV 5) (eo_none) (eo_some (ev_int))) (ev_tup (ea_cons (ev_int) (ea_nil) rfl))) (ew_and1 (et_is (ev_callF (gd := false) (k := 10) (ps := ["hall"]) ((w_odd_lot_of T hTB).mono (by decide)) hr (fun h => nomatch h) psOf rfl T.m_odd_lot_of T.F_odd_lot_of.kp T.b_odd_lot_of (ea_cons (ev_callF (gd := false) (k := 10) (ps := ["_law_scope"]) ((w__law_made T).mono (by decide)) hr (fun h => nomatch h) psOf rfl T.m__law_made T.F__law_made.kp T.b__law_made (ea_cons (evV 4) (ea_nil) rfl) (by decide) rfl rfl) (ea_nil) rfl) (by decide) rfl rfl) (ev_non)))))) (svs_one (sv_ret (ev_bl))) (svs_nil))
    (svs_one (sv_ret (ev_callF (gd := true) (k := 10) (ps := ["_law_scope"]) ((w__law_one_or_other T hTB).mono (by decide)) hr (fun _ => hgd rfl) psOf rfl T.m__law_one_or_other T.F__law_one_or_other.kp T.b__law_one_or_other (ea_cons (evV 4) (ea_nil) rfl) (by decide) rfl rfl))))))))))
end
end DX
namespace DX
open PySem PySem.Spec PyProof.Rows L2 GF
section
variable {V : Ax} {s : Sc} {cs xt : List Cell} {t : Nat}
/-- 1 doubled so many times -/
theorem pow_loop (a0 : Option Wv) : ∀ (ws : List Wv) (k : Nat) (a2 : Option Wv), ∃ b2, loopS (tName 2) lb__law_power_0 ws [a0, some (.dat (.int ((2 ^ k : Nat) : Int))), a2] cs = .ok (.nx [a0, some (.dat (.int ((2 ^ (k + ws.length) : Nat) : Int))), b2]) cs
  | [], k, a2 => ⟨a2, rfl⟩
  | w :: ws, k, a2 => by
    obtain ⟨b2, q⟩ := pow_loop a0 ws (k + 1) (some w)
    have e : (2 : Int) * ((2 ^ k : Nat) : Int) = ((2 ^ (k + 1) : Nat) : Int) := by rw [Nat.pow_succ]; omega
    have b1 : lb__law_power_0 [a0, some (.dat (.int ((2 ^ k : Nat) : Int))), some w] cs = .ok (.nx [a0, some (.dat (.int ((2 ^ (k + 1) : Nat) : Int))), some w]) cs := by
      k_state0 [lb__law_power_0, e]
    refine ⟨b2, ?_⟩
    rw [loopS, mb]
    k_state0 [mb, b1]
    rw [show k + (ws.length + 1) = k + 1 + ws.length by omega]
    exact q
theorem l_power {n : Nat} (hn : n ≤ 1000) : m__law_power [.dat (.int (n : Nat))] cs = .ok (.dat (.int ((2 ^ n : Nat) : Int))) cs := by
  obtain ⟨b2, q⟩ := pow_loop (cs := cs) (some (.dat (.int (n : Nat)))) (rangeW 0 n) 0 none
  have lr : (rangeW 0 n).length = n := by rw [rangeW_is, List.length_map, List.length_range]
  rw [lr, Nat.zero_add] at q
  have q : loopS (tName 2) lb__law_power_0 (rangeW 0 n) [some (.dat (.int (n : Nat))), some (.dat (.int 1)), none] cs = .ok (.nx [some (.dat (.int (n : Nat))), some (.dat (.int ((2 ^ n : Nat) : Int))), b2]) cs := q
  refine fn_ev ?_
  k_state0 [b__law_power, start_cons, start_nil, repl_S, repl_0, q]
def outR (i : Nat) (R : List (List Nat)) : List (List Nat) := match R.filter fun p => decide (i ∈ p) with
  | [] => R
  | q :: _ => R.map fun p => if i ∈ p then srtN (unl0 p q) else p
def FrR (N k : Nat) (R : List (List Nat)) : Prop := ∀ p ∈ R, p.Nodup ∧ ∀ i ∈ p, i < N ∧ k ≤ i
theorem mk_in {p : List Nat} (h : p.Nodup) (i : Nat) : (mk p).testBit i = decide (i ∈ p) := mk_bit h i
theorem unl_in {p q : List Nat} {i : Nat} : i ∈ srtN (unl0 p q) ↔ (i ∈ p ∧ i ∉ q) ∨ (i ∈ q ∧ i ∉ p) := by
  rw [(srtN_perm _).mem_iff]
  unfold unl0
  simp
theorem outR_ok {N k : Nat} {R : List (List Nat)} (h : FrR N k R) : FrR N (k + 1) (outR k R) := by
  unfold outR
  cases e : R.filter fun p => decide (k ∈ p) with
  | nil =>
    dsimp only
    intro p hp
    refine ⟨(h p hp).1, fun i hi => ⟨((h p hp).2 i hi).1, ?_⟩⟩
    have := ((h p hp).2 i hi).2
    have ne : i ≠ k := fun z => by
      subst z
      have m : p ∈ R.filter fun p => decide (i ∈ p) := List.mem_filter.mpr ⟨hp, decide_eq_true hi⟩
      rw [e] at m
      cases m
    omega
  | cons q r =>
    dsimp only
    have hq : q ∈ R ∧ k ∈ q := by
      have m : q ∈ R.filter fun p => decide (k ∈ p) := by rw [e]; exact List.mem_cons_self
      rw [List.mem_filter, decide_eq_true_eq] at m
      exact m
    intro p' hp'
    obtain ⟨p, hp, rfl⟩ := List.mem_map.mp hp'
    by_cases z : k ∈ p
    · rw [if_pos z]
      refine ⟨(srtN_perm _).nodup_iff.mpr (unl_nd (h p hp).1 (h q hq.1).1), fun i hi => ?_⟩
      rw [unl_in] at hi
      have ne : i ≠ k := fun w => by
        subst w
        rcases hi with h1 | h1
        · exact h1.2 hq.2
        · exact h1.2 z
      rcases hi with h1 | h1
      · have := (h p hp).2 i h1.1
        omega
      · have := (h q hq.1).2 i h1.1
        omega
    · rw [if_neg z]
      refine ⟨(h p hp).1, fun i hi => ?_⟩
      have ne : i ≠ k := fun w => z (w ▸ hi)
      have := (h p hp).2 i hi
      omega
def gotR (i : Nat) (R : List (List Nat)) : Nat := if (R.filter fun p => decide (i ∈ p)) = [] then 0 else 1
theorem outR_rk {N k : Nat} {R : List (List Nat)} (h : FrR N k R) : rk (R.map mk) = rk ((outR k R).map mk) + gotR k R := by
  unfold outR gotR
  cases e : R.filter fun p => decide (k ∈ p) with
  | nil => rw [if_pos rfl]; rfl
  | cons q r =>
    rw [if_neg (by simp)]
    dsimp only
    have hq : q ∈ R ∧ k ∈ q := by
      have m : q ∈ R.filter fun p => decide (k ∈ p) := by rw [e]; exact List.mem_cons_self
      rw [List.mem_filter, decide_eq_true_eq] at m
      exact m
    have e1 := rk_elim (R := R.map mk) (r0 := mk q) (i := k) (List.mem_map.mpr ⟨q, hq.1, rfl⟩) (by rw [mk_in (h q hq.1).1, decide_eq_true hq.2])
    rw [e1]
    congr 2
    rw [List.map_map, List.map_map]
    refine List.map_congr_left fun p hp => ?_
    show (if (mk p).testBit k = true then mk p ^^^ mk q else mk p) = mk (if k ∈ p then srtN (unl0 p q) else p)
    rw [mk_in (h p hp).1]
    by_cases z : k ∈ p
    · rw [if_pos (decide_eq_true z), if_pos z, mk_unl (h p hp).1 (h q hq.1).1]
    · rw [if_neg (by rw [decide_eq_false z]; exact Bool.false_ne_true), if_neg z]
def lD' (p : List Nat) : Dt := .lst (p.map nD)
theorem in_lst (i : Nat) (p : List Nat) : dIn (nD i) (lD' p) = some (.bl (decide (i ∈ p))) := in_dat EqD.nat (by decide) i p
theorem ne_rows (L : List (List Nat)) (cs : List Cell) : eqC true (.dat (.lst (L.map lD'))) (.dat (.lst [])) cs = some (.bl (!decide (L = []))) := eq_dat (EqD.lst (EqD.lst EqD.nat)) (by decide) true L [] cs
abbrev FE (s : Sc) (R : List (List Nat)) (m : Nat) (a3 a4 : Option Wv) : En := [some (.dat (scD s)), some (.dat (.lst (R.map lD'))), some (.dat (nD m)), a3, a4, none]
theorem free_step {N k m : Nat} {R : List (List Nat)} (h : FrR N k R) (hN : N ≤ 15) (lR : R.length ≤ 12) (hm : gotR k R ≤ m) {a4 : Option Wv} :
    ∃ b4, lb__law_freedom_0 (FE s R m (some (.dat (nD k))) a4) cs = .ok (.nx (FE s (outR k R) (m - gotR k R) (some (.dat (nD k))) b4)) cs := by
  have lf := lc_filterD (t := tName 5) (p := ci__law_freedom_0) (f := ce__law_freedom_1) (env := [some (.dat (scD s)), some (.dat (.lst (R.map lD'))), some (.dat (nD m)), some (.dat (nD k)), a4, none]) (cs := cs) lD' lD' (fun p => decide (k ∈ p)) R (fun p hp => by
    have x := in_lst k p
    refine ⟨_, rfl, ?_, fun _ => ?_⟩
    · k_state0 [ci__law_freedom_0, x]
    · k_state0 [ce__law_freedom_1])
  have asR : ∀ c, asSeq (.dat (.lst (R.map lD'))) c = .ok ((R.map lD').map Wv.dat) c := fun _ => rfl
  have lz : ((R.map lD').map Wv.dat).length ≤ 16777216 := by rw [List.length_map, List.length_map]; omega
  have ne := ne_rows (R.filter fun p => decide (k ∈ p)) cs
  unfold gotR outR at *
  cases e : R.filter fun p => decide (k ∈ p) with
  | nil =>
    rw [e] at lf ne hm
    rw [if_pos rfl] at hm ⊢
    rw [decide_eq_true rfl] at ne
    refine ⟨some (.dat (.lst [])), ?_⟩
    dsimp only
    rw [Nat.sub_zero]
    have ne : eqC true (.dat (.lst [])) (.dat (.lst [])) cs = some (.bl false) := ne
    have lf : loopC (tName 5) ci__law_freedom_0 ce__law_freedom_1 [some (.dat (scD s)), some (.dat (.lst (R.map lD'))), some (.dat (nD m)), some (.dat (nD k)), a4, none] ((R.map lD').map Wv.dat) cs = .ok [] cs := lf
    unfold FE
    k_state0 [lb__law_freedom_0, asR, wipe_nil, wipe_cons, k_lc lz, lf, ne, -k_lc]
    try rfl
  | cons q r =>
    rw [e] at lf ne hm
    rw [if_neg (by simp)] at hm ⊢
    rw [decide_eq_false (by simp)] at ne
    have hq : q ∈ R ∧ k ∈ q := by
      have m : q ∈ R.filter fun p => decide (k ∈ p) := by rw [e]; exact List.mem_cons_self
      rw [List.mem_filter, decide_eq_true_eq] at m
      exact m
    have i0 : dIx (.lst ((q :: r).map lD')) (.int 0) = some (lD' q) := at_0
    have lm := lc_mapD (t := tName 5) (f := ce__law_freedom_2) (env := [some (.dat (scD s)), some (.dat (.lst (R.map lD'))), some (.dat (nD (m - 1))), some (.dat (nD k)), some (.dat (.lst ((q :: r).map lD'))), none]) (cs := cs) lD' (fun p => lD' (if k ∈ p then srtN (unl0 p q) else p)) R (fun p hp => by
      have x := in_lst k p
      have l1 := nat_many (h p hp).1 (N := N) fun i hi => ((h p hp).2 i hi).1
      have l2 := nat_many (h q hq.1).1 (N := N) fun i hi => ((h q hq.1).2 i hi).1
      have q1 := r_unlikeG (w1 := lD' p) (w2 := lD' q) (p := p) (q := q) (.inl rfl) (.inl rfl) (by omega) (by omega) cs
      refine ⟨_, rfl, ?_⟩
      by_cases z : k ∈ p
      · rw [decide_eq_true z] at x
        rw [if_pos z]
        k_state0 [ce__law_freedom_2, x, i0, q1]
        rfl
      · rw [decide_eq_false z] at x
        rw [if_neg z]
        k_state0 [ce__law_freedom_2, x])
    have e1 : (R.map fun p => lD' (if k ∈ p then srtN (unl0 p q) else p)) = (R.map fun p => if k ∈ p then srtN (unl0 p q) else p).map lD' := by rw [List.map_map]; rfl
    rw [e1] at lm
    have sb : ((m : Nat) : Int) - 1 = ((m - 1 : Nat) : Int) := by omega
    refine ⟨some (.dat (.lst ((q :: r).map lD'))), ?_⟩
    dsimp only
    unfold FE nD at *
    k_state0 [lb__law_freedom_0, asR, wipe_nil, wipe_cons, k_lc lz, lf, dats_mapd, ne, sb, lm, -List.map_cons, -k_lc]
theorem free_loop {N : Nat} (hN : N ≤ 15) : ∀ (n k m : Nat) (R : List (List Nat)) (a3 a4 : Option Wv), FrR N k R → R.length ≤ 12 → rk (R.map mk) ≤ m → k + n = N →
    ∃ b3 b4 R', loopS (tName 3) lb__law_freedom_0 ((List.range' k n).map fun i => Wv.dat (nD i)) (FE s R m a3 a4) cs = .ok (.nx (FE s R' (m - rk (R.map mk)) b3 b4)) cs
  | 0, k, m, R, a3, a4, h, lR, hm, e => by
    have z : rk (R.map mk) = 0 := rk_zero fun r hr => by
      obtain ⟨p, hp, rfl⟩ := List.mem_map.mp hr
      have : p = [] := by
        cases p with
        | nil => rfl
        | cons i p =>
          have := (h _ hp).2 i List.mem_cons_self
          omega
      rw [this]
      rfl
    refine ⟨a3, a4, R, ?_⟩
    rw [z, Nat.sub_zero]
    rfl
  | n + 1, k, m, R, a3, a4, h, lR, hm, e => by
    have er := outR_rk h
    obtain ⟨b4, q1⟩ := free_step (s := s) (cs := cs) h hN lR (m := m) (by omega) (a4 := a4)
    obtain ⟨c3, c4, R', q2⟩ := free_loop hN n (k + 1) (m - gotR k R) (outR k R) (some (.dat (nD k))) b4 (outR_ok h) (by
      unfold outR
      split
      · exact lR
      · rw [List.length_map]; exact lR) (by omega) (by omega)
    refine ⟨c3, c4, R', ?_⟩
    rw [List.range'_succ, List.map_cons, loopS, mb]
    have q1' : lb__law_freedom_0 [some (.dat (scD s)), some (.dat (.lst (R.map lD'))), some (.dat (nD m)), some (.dat (nD k)), a4, none] cs = _ := q1
    k_state0 [mb, q1']
    rw [show m - rk (R.map mk) = m - gotR k R - rk ((outR k R).map mk) by omega]
    exact q2
theorem l_freedom (h : ScOk s 15) : m__law_freedom [.dat (scD s)] cs = .ok (.dat (nD (s.many - rk (crM s)))) cs := by
  have few := h.few
  have top := h.top
  have q1 := r_law_crews (s := s) (cs := cs) few
  have dM : dIx (scD s) (.str "many") = some (.int (s.many : Nat)) := rfl
  have lm := lc_mapD (t := tName 5) (f := ce__law_freedom_0) (env := [some (.dat (scD s)), none, none, none, none, none]) (cs := cs) crD (fun b => lD' b.2) s.ben (fun b hb => by
    refine ⟨_, rfl, ?_⟩
    unfold crD iD
    k_state0 [ce__law_freedom_0]
    rfl)
  have asC : ∀ c, asSeq (.dat (.lst (s.ben.map crD))) c = .ok ((s.ben.map crD).map Wv.dat) c := fun _ => rfl
  have lz : ((s.ben.map crD).map Wv.dat).length ≤ 16777216 := by rw [List.length_map, List.length_map]; omega
  obtain ⟨R, hR⟩ : ∃ R, R = s.ben.map (·.2) := ⟨_, rfl⟩
  have e1 : (s.ben.map fun b => lD' b.2) = R.map lD' := by rw [hR, List.map_map]; rfl
  rw [e1] at lm
  have eM : R.map mk = crM s := by rw [hR, List.map_map]; rfl
  have rm := rk_many h
  obtain ⟨b3, b4, R', q2⟩ := free_loop (s := s) (cs := cs) top s.many 0 s.many R none none (fun p hp => by
    rw [hR] at hp
    obtain ⟨b, hb, rfl⟩ := List.mem_map.mp hp
    obtain ⟨_, g2, _, _, g5⟩ := h.ben b hb
    exact ⟨asc_nodup g2, fun i hi => ⟨g5 i hi, Nat.zero_le _⟩⟩) (by rw [hR, List.length_map]; exact few) (by rw [eM]; exact rm) (by omega)
  rw [eM] at q2
  have rg : rangeW 0 s.many = (List.range' 0 s.many).map fun t : Nat => Wv.dat (nD t) := by
    rw [rangeW_is, ← List.range_eq_range']
    refine List.map_congr_left fun i _ => ?_
    unfold nD
    rw [Int.zero_add]
  rw [← rg] at q2
  unfold FE at q2
  have q2 : loopS (tName 3) lb__law_freedom_0 (rangeW 0 s.many) [some (.dat (scD s)), some (.dat (.lst (R.map lD'))), some (.dat (.int (s.many : Nat))), none, none, none] cs = _ := q2
  refine fn_ev ?_
  k_state0 [b__law_freedom, start_cons, start_nil, repl_S, repl_0, q1, asC, wipe_nil, wipe_cons, k_lc lz, lm, dats_mapd, dM, q2, -k_lc]
end
end DX
namespace DX
open PySem PySem.Spec PyProof.Rows L2 GF
theorem AxF_k22.hall {V : Ax} (F : AxF_k22 V) : HallK V := ⟨F.kt_Hall_NoneType, F.kt_Hall_bool, F.kt_Hall_int, F.kt_Hall_str, F.kt_Hall_tuple, F.kt_Hall_list, F.kt_Hall_dict, F.kt_Hall⟩
section
variable {V : Ax} {s : Sc} {cs xt : List Cell} {t : Nat}
theorem wvs_app2 {α : Type} (f : α → Dt) (a b : List α) : wvs f (a ++ b) = wvs f a ++ wvs f b := List.map_append
theorem r_wide (hs : St cs xt t) (ht : t + 2000 < 1000000) : ∃ s' cs' xt', m__law_wide_hall [.cel 1] cs = .ok (.dat (scD s')) cs' ∧ ScOk s' 15 ∧ St cs' xt' (t + 1000) := by
  obtain ⟨x, cs1, q1, hx, s1⟩ := r_pick (l := [.int 1, .int 2, .int 3, .int 5, .int 8, .int 10, .int 11, .int 15]) hs (by omega) (by decide) (by decide)
  obtain ⟨m, rfl, m1, m2⟩ : ∃ m : Nat, x = .int (m : Int) ∧ 1 ≤ m ∧ m ≤ 15 := by
    simp only [List.mem_cons, List.not_mem_nil, or_false] at hx
    rcases hx with h | h | h | h | h | h | h | h
    · exact ⟨1, h, by decide, by decide⟩
    · exact ⟨2, h, by decide, by decide⟩
    · exact ⟨3, h, by decide, by decide⟩
    · exact ⟨5, h, by decide, by decide⟩
    · exact ⟨8, h, by decide, by decide⟩
    · exact ⟨10, h, by decide, by decide⟩
    · exact ⟨11, h, by decide, by decide⟩
    · exact ⟨15, h, by decide, by decide⟩
  have s1' := s1.app [Cell.lst []]
  obtain ⟨d2, cs2, q2, d20, d21, s2⟩ := r_draw (n := 13) s1' (by omega) (by omega) (by omega)
  obtain ⟨k, rfl⟩ : ∃ n : Nat, d2 = (n : Int) := ⟨d2.toNat, by omega⟩
  have c1 := s1.len
  obtain ⟨K, hK⟩ : ∃ K, K = xt.length := ⟨_, rfl⟩
  rw [← hK] at c1
  have rgD := rangeD_is m
  obtain ⟨env4, cs4, e4, e4', B, xr, rfl, s4, lB, okB⟩ := ls_all (t := tName 3) (b := lb__law_wide_hall_0) (fun i : Nat => .dat (.int (0 + (i : Int))))
    (fun pr env c => ∃ (e4 : Option Wv) (B : List (Int × List Nat)) (xr : List Cell), env = [some (.cel 1), some (.dat (.int (m : Nat))), some (.cel (K + 2)), e4] ∧ St c (xt ++ [.lst (wvs bD B)] ++ xr) (t + 2 + 40 * pr.length) ∧ B.length = pr.length ∧ ∀ b ∈ B, Sg b.1 ∧ b.2.Pairwise (· < ·) ∧ b.2 ≠ [] ∧ b.2.length ≤ 8 ∧ ∀ i ∈ b.2, i < m) (List.range k)
    (env := [some (.cel 1), some (.dat (.int (m : Nat))), some (.cel (K + 2)), none]) (cs := cs2)
    (fun pr x post env c he ⟨e4, B, xr, h1, hS, hB, ok⟩ => by
      subst h1
      have prl : pr.length < 13 := by
        have := congrArg List.length he
        simp at this
        omega
      obtain ⟨g, c3, qs, sg, s3⟩ := r_sign2 hS (by omega)
      obtain ⟨w, c4, q4, hw, s4⟩ := r_pick (l := [.int 1, .int 3, .int 8]) s3 (by omega) (by decide) (by decide)
      obtain ⟨w, rfl, w1, w2⟩ : ∃ v : Nat, w = .int (v : Int) ∧ 1 ≤ v ∧ v ≤ 8 := by
        simp only [List.mem_cons, List.not_mem_nil, or_false] at hw
        rcases hw with h | h | h
        · exact ⟨1, h, by decide, by decide⟩
        · exact ⟨3, h, by decide, by decide⟩
        · exact ⟨8, h, by decide, by decide⟩
      obtain ⟨p, c5, q5, p1, p4, p3, p2, s5⟩ := r_some (n := m) (least := 1) (most := w) s4 (by omega) (by omega) (by omega) (by omega)
      have p2 := p2 m1
      have pne : p ≠ [] := fun z => by rw [z] at p2; exact absurd p2 (by decide)
      have q5 : m__law_some [.cel 1, .dat (.lst ((List.range m).map nD)), .dat (.int 1), .dat (.int (w : Nat))] c4 = .ok (.dat (iD p)) c5 := q5
      have gA : (xt ++ [Cell.lst (wvs bD B)] ++ xr)[K]? = some (.lst (wvs bD B)) := by rw [hK, List.append_assoc, List.getElem?_append_right (Nat.le_refl _), Nat.sub_self]; rfl
      have gB : (xt ++ [Cell.lst (wvs bD B)] ++ xr ++ [Cell.lst [], Cell.dead])[K]? = some (.lst (wvs bD B)) := by rw [List.getElem?_append_left (by rw [List.length_append, List.length_append]; simp; omega)]; exact gA
      have k7 : c[K + 2]? = some (.lst (wvs bD B)) := by rw [hS.get]; exact gA
      have k8 : c5[K + 2]? = some (.lst (wvs bD B)) := by rw [s5.get]; exact gB
      have m1' := fun (env : En) (ga : EvA) => methl_of (o := oAppend) (ga := ga) (env := env) k7
      have ap := append_of (u := .dat (bD (g, p))) k8 (by rw [List.length_map]; omega)
      have s7 := s5.set K (.lst (wvs bD (B ++ [(g, p)])))
      have st : wvs bD (B ++ [(g, p)]) = wvs bD B ++ [.dat (bD (g, p))] := wvs_app2 _ _ _
      rw [st] at s7
      have es : (xt ++ [Cell.lst (wvs bD B)] ++ xr ++ [Cell.lst [], Cell.dead]).set K (Cell.lst (wvs bD B ++ [Wv.dat (bD (g, p))])) = xt ++ [Cell.lst (wvs bD B ++ [Wv.dat (bD (g, p))])] ++ (xr ++ [Cell.lst [], Cell.dead]) := by
        rw [hK, List.append_assoc, List.append_assoc, List.set_append_right _ _ (Nat.le_refl _), Nat.sub_self, List.append_assoc]
        rfl
      rw [es] at s7
      refine ⟨[some (.cel 1), some (.dat (.int (m : Nat))), some (.cel (K + 2)), some (.dat (.int (0 + (x : Int))))], [some (.cel 1), some (.dat (.int (m : Nat))), some (.cel (K + 2)), some (.dat (.int (0 + (x : Int))))], c5.set (K + 2) (Cell.lst (wvs bD B ++ [Wv.dat (bD (g, p))])), rfl, .inl ?_, some (.dat (.int (0 + (x : Int)))), B ++ [(g, p)], xr ++ [.lst [], .dead], rfl, by rw [st]; exact s7.mono (by simp only [List.length_append, List.length_cons, List.length_nil]; omega), by simp only [List.length_append, List.length_cons, List.length_nil]; omega, fun b hb => ?_⟩
      · have b0 : bD (g, p) = .tup [.int g, iD p] := rfl
        rw [b0] at ap
        k_state0 [lb__law_wide_hall_0, m1', qs, rgD, q4, q5, ap, b0, -dk_app, -dk_methc]
      · rcases List.mem_append.mp hb with hb | hb
        · exact ok b hb
        · rw [List.mem_singleton.mp hb]
          exact ⟨sg, p1, pne, by show p.length ≤ 8; omega, p4⟩)
    ⟨none, [], [], rfl, by rw [List.append_nil]; exact s2.mono (by simp), rfl, fun b hb => absurd hb (by simp)⟩
  rw [← rangeW_is] at e4
  rw [List.length_range] at s4 lB
  have gA : (xt ++ [Cell.lst (wvs bD B)] ++ xr)[K]? = some (.lst (wvs bD B)) := by rw [hK, List.append_assoc, List.getElem?_append_right (Nat.le_refl _), Nat.sub_self]; rfl
  have k7 : cs4[K + 2]? = some (.lst (wvs bD B)) := by rw [s4.get]; exact gA
  have cS : cSeq .tup (some (.lst (wvs bD B))) = some (.tup (B.map bD)) := by
    show (dats (wvs bD B)).map Dt.tup = _
    rw [dats_wvs]
    rfl
  refine ⟨⟨m, B⟩, cs4, _, fn_ev ?_, ⟨m1, m2, by show B.length ≤ 12; omega, okB⟩, s4.mono (by omega)⟩
  unfold scD
  k_state0 [b__law_wide_hall, start_cons, start_nil, repl_S, repl_0, q1, c1, q2, e4, k7, cS]
theorem sgT_at {n m i : Nat} (hi : i < n) : (sgT n m).getD i 1 = if m.testBit i = true then 1 else -1 := by
  unfold sgT
  rw [List.getD_eq_getElem?_getD, List.getElem?_map, List.getElem?_range hi]
  rfl
theorem sgT_sg (n m : Nat) : SgL (sgT n m) := fun i hi => by
  unfold sgT at hi
  obtain ⟨k, _, rfl⟩ := List.mem_map.mp hi
  split
  · exact .inl rfl
  · exact .inr rfl
theorem sgT_len (n m : Nat) : (sgT n m).length = n := by unfold sgT; rw [List.length_map, List.length_range]
theorem brk_none (h : ScOk s 15) (h1 : ¬ 1 ∈ (red (sgP s)).2) : brk s (sgT s.many (svM (sgP s))) = [] := by
  unfold brk
  rw [List.filter_eq_nil_iff]
  intro b hb
  have hb := List.mem_range.mp hb
  have ok := crw_ok h hb
  have k := sg_keeps h h1 hb
  have e : okB (sgT s.many (svM (sgP s))) (s.ben.getD b b00) = true := by
    unfold okB prB
    rw [← atS_flt]
    have e2 : ((crw s b).filter fun i => decide ((sgT s.many (svM (sgP s))).getD i 1 = -1)) = (crw s b).filter fun t => !(svM (sgP s)).testBit t := by
      refine List.filter_congr fun i hi => ?_
      rw [sgT_at (ok.2.2.2 i hi)]
      cases (svM (sgP s)).testBit i <;> rfl
    show (decide (((crw s b).filter fun i => decide ((sgT s.many (svM (sgP s))).getD i 1 = -1)).length % 2 = 1) == neg1 s b) = true
    rw [e2, k, beq_self_eq_true]
  rw [e]
  exact Bool.false_ne_true
theorem rp_int {k : Nat} (h : k < 1000000) (c : List Cell) : oReprA [.dat (.int (k : Nat))] c = some (.str (toString ((k : Nat) : Int))) := reprA_of (repr_int (i := ((k : Nat) : Int)) (by omega))
theorem eqS_eq (z : Str) (cs : List Cell) : eqC false (.dat (.str z)) (.dat (.str z)) cs = some (.bl true) := by
  have e : eqS (.dat (.str z)) (.dat (.str z)) = some (decide (z = z)) := rfl
  unfold eqC eqB
  rw [e, decide_eq_true rfl]
  rfl
theorem one_other (H : HallK V) (h : ScOk s 15) : ∃ ys, m__law_one_or_other V [.dat (scD s)] cs = .ok (.dat (.bl true)) (cs ++ ys) := by
  have few := h.few
  have top := h.top
  have one := h.one
  have q1 := r_made_hall (V := V) (s := s) (cs := cs) h
  obtain ⟨y1, q2⟩ := r_signing_of (V := V) (cs := cs ++ [.dead]) H h
  obtain ⟨y2, q3⟩ := r_odd_lot_of (V := V) (cs := cs ++ [.dead] ++ y1) H h
  obtain ⟨c3, hc3⟩ : ∃ c3, c3 = cs ++ [.dead] ++ y1 ++ y2 := ⟨_, rfl⟩
  rw [← hc3] at q3
  have fb1 : ∀ c, eqC false (.dat (.bl true)) (.dat (.bl false)) c = some (.bl false) := fun _ => rfl
  have fb2 : ∀ c, eqC false (.dat (.bl false)) (.dat (.bl true)) c = some (.bl false) := fun _ => rfl
  have dM : dIx (scD s) (.str "many") = some (.int (s.many : Nat)) := rfl
  by_cases h1 : 1 ∈ (red (sgP s)).2
  · have ne : odA s ≠ [] := fun e => (odA_iff h).mp e h1
    have mem := (odA_mem h).mp (fsL_mem ne)
    obtain ⟨p, hp⟩ : ∃ p, p = fsL (odA s) := ⟨_, rfl⟩
    have e3 : fsD (odA s) = iD p := by unfold fsD; rw [if_neg ne, hp]
    have e2 : siD s = .non := by unfold siD; rw [if_pos h1]
    rw [← hp] at mem
    rw [e3] at q3
    rw [e2] at q2
    have q4 := l_is_odd_lot (s := s) (cs := c3) h mem.1.1.1 mem.1.1.2
    have ev : evnB s p = true := (evnB_iff h mem.1.1.2).mpr mem.1.2
    rw [mem.2, ev, Bool.and_true] at q4
    obtain ⟨y4, q5⟩ := r_signings_many (V := V) (cs := c3) H h
    have em : manyS s = 0 := by unfold manyS; rw [if_pos h1]
    rw [em] at q5
    have rp : ∀ c, oReprA [.dat (nD 0)] c = some (.str "0") := fun c => by first | rfl | decide +kernel
    have es := eqS_eq "0" (c3 ++ y4)
    refine ⟨[.dead] ++ y1 ++ y2 ++ y4, fn_ev ?_⟩
    rw [← List.append_assoc, ← List.append_assoc, ← List.append_assoc, ← hc3]
    k_state0 [b__law_one_or_other, start_cons, start_nil, repl_S, repl_0, q1, q2, q3, (show dIs .non .non = some (.bl true) from rfl), (show dIs (iD p) .non = some (.bl false) from rfl), fb1, (show dNotN (iD p) .non = some (.bl true) from rfl), q4, q5, rp, es]
  · have en : odA s = [] := (odA_iff h).mpr h1
    have e3 : fsD (odA s) = .non := by unfold fsD; rw [if_pos en]
    obtain ⟨σ, hσ⟩ : ∃ σ, σ = sgT s.many (svM (sgP s)) := ⟨_, rfl⟩
    have e2 : siD s = iT σ := by unfold siD; rw [if_neg h1, hσ]
    rw [e3] at q3
    rw [e2] at q2
    have lσ : σ.length = s.many := by rw [hσ]; exact sgT_len _ _
    have gσ : SgL σ := by rw [hσ]; exact sgT_sg _ _
    have plt := PlT.ints (l := σ) (by omega)
    have q4 := l_are_signs (cs := c3) (m := s.many) plt.1 plt.2
    rw [sgsB_iT gσ lσ] at q4
    have q5 := l_broken (cs := c3) h lσ
    have bn : brk s σ = [] := by rw [hσ]; exact brk_none h h1
    rw [bn] at q5
    have e0 : ∀ c, eqC true (.dat (iD [])) (.dat (.tup [])) c = some (.bl false) := fun _ => rfl
    obtain ⟨y4, q6⟩ := r_signings_many (V := V) (cs := c3 ++ [.dead]) H h
    have em : manyS s = 2 ^ (s.many - rk (crM s)) := by unfold manyS; rw [if_neg h1]
    rw [em] at q6
    have q7 := l_freedom (s := s) (cs := c3 ++ [.dead] ++ y4) h
    have q8 := l_power (cs := c3 ++ [.dead] ++ y4) (n := s.many - rk (crM s)) (by omega)
    have sm : 2 ^ (s.many - rk (crM s)) ≤ 2 ^ 15 := Nat.pow_le_pow_right (by decide) (by omega)
    have rp := fun c => rp_int (k := 2 ^ (s.many - rk (crM s))) (by omega) c
    have es := eqS_eq (toString ((2 ^ (s.many - rk (crM s)) : Nat) : Int)) (c3 ++ [.dead] ++ y4)
    refine ⟨[.dead] ++ y1 ++ y2 ++ [.dead] ++ y4, fn_ev ?_⟩
    rw [← List.append_assoc, ← List.append_assoc, ← List.append_assoc, ← List.append_assoc, ← hc3]
    unfold nD at *
    k_state0 [b__law_one_or_other, start_cons, start_nil, repl_S, repl_0, q1, q2, q3, (show dIs .non .non = some (.bl true) from rfl), (show dIs (iT σ) .non = some (.bl false) from rfl), fb2, (show dNotN .non .non = some (.bl false) from rfl), dM, q4, q5, e0, q6, rp, q7, q8, es]
def scB (s : Sc) : Sc := ⟨s.many, s.ben.drop 1⟩
theorem scB_ok {N : Nat} (h : ScOk s N) : ScOk (scB s) N := ⟨h.one, h.top, by show (s.ben.drop 1).length ≤ 12; rw [List.length_drop]; have := h.few; omega, fun b hb => h.ben b (List.mem_of_mem_drop hb)⟩
theorem scB_at (b : Nat) : (scB s).ben.getD b b00 = s.ben.getD (b + 1) b00 := by
  show (s.ben.drop 1).getD b b00 = _
  rw [List.getD_eq_getElem?_getD, List.getD_eq_getElem?_getD, List.getElem?_drop, Nat.add_comm]
theorem down_odd (h : ScOk s 15) {p : List Nat} (hp : p ∈ odA s) (h0 : p.take 1 ≠ [0]) : odA (scB s) ≠ [] := by
  have m := (odA_mem h).mp hp
  obtain ⟨⟨⟨ha, hl⟩, he⟩, hm⟩ := m
  have pos : ∀ b ∈ p, 1 ≤ b := by
    cases p with
    | nil => exact fun b hb => nomatch hb
    | cons a r =>
      have a1 : 1 ≤ a := by
        rcases Nat.eq_zero_or_pos a with z | z
        · subst z; exact absurd rfl h0
        · exact z
      intro b hb
      rcases List.mem_cons.mp hb with e | hb
      · rw [e]; exact a1
      · have := List.rel_of_pairwise_cons ha hb
        omega
  obtain ⟨q, hq⟩ : ∃ q, q = p.map (· - 1) := ⟨_, rfl⟩
  have ep : p = q.map (· + 1) := by
    rw [hq, List.map_map]
    conv => lhs; rw [← List.map_id p]
    exact List.map_congr_left fun b hb => by have := pos b hb; show b = b - 1 + 1; omega
  have eline : lineOf (scB s) q = lineOf s p := by
    unfold lineOf
    rw [ep, List.flatMap_map]
    have : (fun b => ((scB s).ben.getD b b00).2) = fun b => (s.ben.getD (b + 1) b00).2 := funext fun b => by rw [scB_at]
    rw [this]
  have emi : miB (scB s) q = miB s p := by
    unfold miB
    rw [ep, List.map_map]
    refine congrArg xb (List.map_congr_left fun b _ => ?_)
    show decide (((scB s).ben.getD b b00).1 = -1) = decide ((s.ben.getD (b + 1) b00).1 = -1)
    rw [scB_at]
  have mem : q ∈ odA (scB s) := by
    refine (odA_mem (scB_ok h)).mpr ⟨⟨⟨?_, fun b hb => ?_⟩, fun x => ?_⟩, by rw [emi]; exact hm⟩
    · rw [ep, List.pairwise_map] at ha
      exact ha.imp fun z => by omega
    · have := hl (b + 1) (by rw [ep]; exact List.mem_map.mpr ⟨b, hb, rfl⟩)
      show b < (s.ben.drop 1).length
      rw [List.length_drop]
      omega
    · rw [eline]; exact he x
  intro e
  rw [e] at mem
  cases mem
theorem lap22 (H : HallK V) (h : ScOk s 15) (hs : St cs xt t) (ht : t + 100 < 1000000) {a0 a3 a4 a5 : Option Wv} :
    ∃ s' cs' xt', lb_law_v43_0 V [a0, some (.cel 1), some (.dat (scD s)), a3, a4, a5] cs = .ok (.nx [a0, some (.cel 1), some (.dat (scD s')), a3, a4, a5]) cs' ∧ ScOk s' 15 ∧ St cs' xt' (t + 1) := by
  have dB : dIx (scD s) (.str "benches") = some (.tup (s.ben.map bD)) := rfl
  have ne := fun c => ne_ben s.ben c
  cases e : s.ben.isEmpty with
  | true =>
    rw [e] at ne
    obtain ⟨ys, q⟩ := one_other (V := V) (cs := cs) H h
    refine ⟨s, cs ++ ys, xt ++ ys, ?_, h, (hs.app ys).mono (by omega)⟩
    k_state0 [lb_law_v43_0, dB, ne, q]
  | false =>
    rw [e] at ne
    have l1 : 1 ≤ s.ben.length := by
      cases z : s.ben with
      | nil => rw [z] at e; cases e
      | cons _ _ => simp
    obtain ⟨d, c1, q1, hd, s1⟩ := r_one_turned hs (by omega) h.few l1
    have h' := scT_ok h hd
    obtain ⟨ys, q⟩ := one_other (V := V) (s := scT s d) (cs := c1) H h'
    refine ⟨scT s d, c1 ++ ys, xt ++ ys, ?_, h', s1.app ys⟩
    k_state0 [lb_law_v43_0, dB, ne, q1, q]
theorem laps22 (H : HallK V) {a0 a4 a5 : Option Wv} : ∀ (ws : List Wv) (s : Sc) (cs xt : List Cell) (t : Nat) (a3 : Option Wv), ScOk s 15 → St cs xt t → t + ws.length + 200 < 1000000 →
    ∃ (s' : Sc) (b3 : Option Wv) (cs' xt' : List Cell), loopS (tName 3) (lb_law_v43_0 V) ws [a0, some (.cel 1), some (.dat (scD s)), a3, a4, a5] cs = .ok (.nx [a0, some (.cel 1), some (.dat (scD s')), b3, a4, a5]) cs' ∧ ScOk s' 15 ∧ St cs' xt' (t + ws.length)
  | [], s, cs, xt, t, a3, h, hs, _ => ⟨s, a3, cs, xt, rfl, h, hs⟩
  | w :: ws, s, cs, xt, t, a3, h, hs, ht => by
    rw [List.length_cons] at ht
    obtain ⟨s1, c1, x1, q1, h1, t1⟩ := lap22 H h hs (by omega) (a0 := a0) (a3 := some w) (a4 := a4) (a5 := a5)
    obtain ⟨s2, b3, c2, x2, q2, h2, t2⟩ := laps22 H (a0 := a0) (a4 := a4) (a5 := a5) ws s1 c1 x1 (t + 1) (some w) h1 t1 (by omega)
    refine ⟨s2, b3, c2, x2, ?_, h2, t2.mono (by rw [List.length_cons]; omega)⟩
    unfold loopS
    rw [show tName 3 w [a0, some (.cel 1), some (.dat (scD s)), a3, a4, a5] = some [a0, some (.cel 1), some (.dat (scD s)), some w, a4, a5] from rfl, mb, m_opt, rb_ok, mb, q1, rb_ok]
    exact q2
end
theorem law_true (V : Ax) (F : AxF_k22 V) (ns : List Int) (hl : ns.length ≤ 63) (hb : ∀ z ∈ ns, Builtin.Int.intBits z ≤ 1048576) : ∃ cs', m_law_v43 V [.dat (.scr ns)] [] = .ok (.dat (.bl true)) cs' := by
  have H := F.hall
  obtain ⟨c1, q1, s1⟩ := r_begun hl
  obtain ⟨sA, c2, x2, q2, hA, s2⟩ := r_wide s1 (by decide)
  obtain ⟨d, c3, q3, d0, d1, s3⟩ := r_draw (n := 4) s2 (by omega) (by omega) (by omega)
  obtain ⟨sB, c4, x4, q4, hB, s4⟩ : ∃ sB c4 x4, (if 0 < d then m__law_meant [.cel 1, .dat (scD sA)] c3 = .ok (.dat (scD sB)) c4 else sB = sA ∧ c4 = c3) ∧ ScOk sB 15 ∧ St c4 x4 2000 := by
    by_cases z : 0 < d
    · obtain ⟨s', c', x', q, o, st⟩ := r_meant s3 hA (by omega)
      exact ⟨s', c', x', by rw [if_pos z]; exact q, o 15 hA, st.mono (by omega)⟩
    · exact ⟨sA, c3, _, by rw [if_neg z]; exact ⟨rfl, rfl⟩, hA, s3.mono (by omega)⟩
  obtain ⟨y5, q5⟩ := one_other (V := V) (s := sB) (cs := c4) H hB
  obtain ⟨c5, hc5⟩ : ∃ c5, c5 = c4 ++ y5 := ⟨_, rfl⟩
  have s5 := s4.app y5
  rw [← hc5] at q5 s5
  obtain ⟨sC, b3, c6, x6, q6, hC, s6⟩ := laps22 (V := V) H (a0 := some (.dat (.scr ns))) (a4 := none) (a5 := none) (rangeW 0 3) sB c5 _ _ none hB s5 (by simp [rangeW])
  have dM : dIx (scD sC) (.str "many") = some (.int (sC.many : Nat)) := rfl
  have dB : dIx (scD sC) (.str "benches") = some (.tup (sC.ben.map bD)) := rfl
  have sl : ∀ c, wSl (.dat (.tup (sC.ben.map bD))) (some 1) none c = some (.tup ((scB sC).ben.map bD)) := fun c => by
    show some (Dt.tup (cutL (sC.ben.map bD) (some 1) none)) = some (Dt.tup ((sC.ben.drop 1).map bD))
    by_cases z : 1 ≤ sC.ben.length
    · rw [cutL_from (by decide) (by rw [List.length_map]; omega), List.map_drop]
      rfl
    · have : sC.ben = [] := List.length_eq_zero_iff.mp (by omega)
      rw [this]
      rfl
  have sc : Dt.dic [(.inr "many", .int (sC.many : Nat)), (.inr "benches", .tup ((scB sC).ben.map bD))] = scD (scB sC) := rfl
  have q7 := r_made_hall (V := V) (s := sC) (cs := c6) hC
  obtain ⟨y8, q8⟩ := r_odd_lot_of (V := V) (cs := c6 ++ [.dead]) H hC
  obtain ⟨c8, hc8⟩ : ∃ c8, c8 = c6 ++ [.dead] ++ y8 := ⟨_, rfl⟩
  rw [← hc8] at q8
  have hB' := scB_ok hC
  have q9 := r_made_hall (V := V) (s := scB sC) (cs := c8) hB'
  obtain ⟨y9, q10⟩ := r_odd_lot_of (V := V) (cs := c8 ++ [.dead]) H hB'
  obtain ⟨c10, hc10⟩ : ∃ c10, c10 = c8 ++ [.dead] ++ y9 := ⟨_, rfl⟩
  rw [← hc10] at q10
  obtain ⟨y11, q11⟩ := one_other (V := V) (s := scB sC) (cs := c8) H hB'
  obtain ⟨y12, q12⟩ := one_other (V := V) (s := scB sC) (cs := c10) H hB'
  by_cases en : odA sC = []
  · have e3 : fsD (odA sC) = .non := by unfold fsD; rw [if_pos en]
    rw [e3] at q8
    refine ⟨c8 ++ y11, fn_ev ?_⟩
    by_cases z : 0 < d
    · rw [if_pos z] at q4
      k_state0 [b_law_v43, start_cons, start_nil, repl_S, repl_0, q1, q2, q3, z, q4, q5, q6, dM, dB, sl, sc, q7, q8, (show dNotN .non .non = some (.bl false) from rfl), q11]
    · rw [if_neg z] at q4
      obtain ⟨rfl, rfl⟩ := q4
      k_state0 [b_law_v43, start_cons, start_nil, repl_S, repl_0, q1, q2, q3, z, q5, q6, dM, dB, sl, sc, q7, q8, (show dNotN .non .non = some (.bl false) from rfl), q11]
  · have mem := fsL_mem en
    obtain ⟨p, hp⟩ : ∃ p, p = fsL (odA sC) := ⟨_, rfl⟩
    have e3 : fsD (odA sC) = iD p := by unfold fsD; rw [if_neg en, hp]
    rw [e3] at q8
    rw [← hp] at mem
    have pne : p ≠ [] := fun e => by
      have := ((odA_mem hC).mp mem).2
      rw [e] at this
      cases this
    have p1 : 1 ≤ p.length := List.length_pos_iff.mpr pne
    have s0 : ∀ c, wSl (.dat (iD p)) none (some 1) c = some (iD (p.take 1)) := fun c => by
      show some (Dt.tup (cutL (p.map nD) none (some 1))) = some (Dt.tup ((p.take 1).map nD))
      rw [cutL_to (by decide) (by rw [List.length_map]; omega), List.map_take]
      rfl
    have e1 : ∀ c, eqC true (.dat (iD (p.take 1))) (.dat (.tup [.int 0])) c = some (.bl (!decide (p.take 1 = [0]))) := fun c => eq_dat (EqD.tup EqD.nat) (by decide) true (p.take 1) [0] c
    by_cases z0 : p.take 1 = [0]
    · rw [z0] at s0
      have e1 : ∀ c, eqC true (.dat (iD [0])) (.dat (.tup [.int 0])) c = some (.bl false) := fun c => by
        have := e1 c
        rw [z0, decide_eq_true rfl] at this
        exact this
      refine ⟨c8 ++ y11, fn_ev ?_⟩
      by_cases z : 0 < d
      · rw [if_pos z] at q4
        k_state0 [b_law_v43, start_cons, start_nil, repl_S, repl_0, q1, q2, q3, z, q4, q5, q6, dM, dB, sl, sc, q7, q8, (show dNotN (iD p) .non = some (.bl true) from rfl), s0, e1, q11]
      · rw [if_neg z] at q4
        obtain ⟨rfl, rfl⟩ := q4
        k_state0 [b_law_v43, start_cons, start_nil, repl_S, repl_0, q1, q2, q3, z, q5, q6, dM, dB, sl, sc, q7, q8, (show dNotN (iD p) .non = some (.bl true) from rfl), s0, e1, q11]
    · have en2 := down_odd hC mem z0
      obtain ⟨p', hp'⟩ : ∃ p', p' = fsL (odA (scB sC)) := ⟨_, rfl⟩
      have e4 : fsD (odA (scB sC)) = iD p' := by unfold fsD; rw [if_neg en2, hp']
      rw [e4] at q10
      have e1 : ∀ c, eqC true (.dat (iD (p.take 1))) (.dat (.tup [.int 0])) c = some (.bl true) := fun c => by
        have := e1 c
        rw [decide_eq_false z0] at this
        exact this
      refine ⟨c10 ++ y12, fn_ev ?_⟩
      by_cases z : 0 < d
      · rw [if_pos z] at q4
        k_state0 [b_law_v43, start_cons, start_nil, repl_S, repl_0, q1, q2, q3, z, q4, q5, q6, dM, dB, sl, sc, q7, q8, (show dNotN (iD p) .non = some (.bl true) from rfl), s0, e1, q9, q10, (show dIs (iD p') .non = some (.bl false) from rfl), q12]
      · rw [if_neg z] at q4
        obtain ⟨rfl, rfl⟩ := q4
        k_state0 [b_law_v43, start_cons, start_nil, repl_S, repl_0, q1, q2, q3, z, q5, q6, dM, dB, sl, sc, q7, q8, (show dNotN (iD p) .non = some (.bl true) from rfl), s0, e1, q9, q10, (show dIs (iD p') .non = some (.bl false) from rfl), q12]
end DX
namespace DX
open PySem PySem.Spec PyProof.Rows L2
theorem all_mk {q : Program} {l : PySem.W.OpenLaw} {w : World} {K : Frag} {h : Heap} {mg : MG} {fa : Addr} (X : K.In h) (G : h.Ns mainGlobals mg) (hfa : mg "law" = some (.ref fa))
    (hts : ∀ x c P d, (recsOf q).find? (fun e => e.name == x) = some d → PySem.W.tabIn K x = some (c, P) → PySem.W.CodeHd h c P ∧ h.get? P = some { cls := .none, data := .fields #[] })
    {CHall : Addr}
    {f0 : Addr} {od0 an0 : Option Addr} {sl0 : Array (Option Value)} {oc0 kV0 dc0 pm0 cd0 ct0 : Value}
    {f1 : Addr} {od1 an1 : Option Addr} {sl1 : Array (Option Value)} {oc1 kV1 dc1 pm1 cd1 ct1 : Value}
    {f2 : Addr} {od2 an2 : Option Addr} {sl2 : Array (Option Value)} {oc2 kV2 dc2 pm2 cd2 ct2 : Value}
    {f3 : Addr} {od3 an3 : Option Addr} {sl3 : Array (Option Value)} {oc3 kV3 dc3 pm3 cd3 ct3 : Value}
    {f4 : Addr} {od4 an4 : Option Addr} {sl4 : Array (Option Value)} {oc4 kV4 dc4 pm4 cd4 ct4 : Value}
    {f5 : Addr} {od5 an5 : Option Addr} {sl5 : Array (Option Value)} {oc5 kV5 dc5 pm5 cd5 ct5 : Value}
    {f6 : Addr} {od6 an6 : Option Addr} {sl6 : Array (Option Value)} {oc6 kV6 dc6 pm6 cd6 ct6 : Value}
    {f7 : Addr} {od7 an7 : Option Addr} {sl7 : Array (Option Value)} {oc7 kV7 dc7 pm7 cd7 ct7 : Value}
    {f8 : Addr} {od8 an8 : Option Addr} {sl8 : Array (Option Value)} {oc8 kV8 dc8 pm8 cd8 ct8 : Value}
    {f9 : Addr} {od9 an9 : Option Addr} {sl9 : Array (Option Value)} {oc9 kV9 dc9 pm9 cd9 ct9 : Value}
    {f10 : Addr} {od10 an10 : Option Addr} {sl10 : Array (Option Value)} {oc10 kV10 dc10 pm10 cd10 ct10 : Value}
    {f11 : Addr} {od11 an11 : Option Addr} {sl11 : Array (Option Value)} {oc11 kV11 dc11 pm11 cd11 ct11 : Value}
    {f12 : Addr} {od12 an12 : Option Addr} {sl12 : Array (Option Value)} {oc12 kV12 dc12 pm12 cd12 ct12 : Value}
    {f13 : Addr} {od13 an13 : Option Addr} {sl13 : Array (Option Value)} {oc13 kV13 dc13 pm13 cd13 ct13 : Value}
    {f14 : Addr} {od14 an14 : Option Addr} {sl14 : Array (Option Value)} {oc14 kV14 dc14 pm14 cd14 ct14 : Value}
    {f15 : Addr} {od15 an15 : Option Addr} {sl15 : Array (Option Value)} {oc15 kV15 dc15 pm15 cd15 ct15 : Value}
    {f16 : Addr} {od16 an16 : Option Addr} {sl16 : Array (Option Value)} {oc16 kV16 dc16 pm16 cd16 ct16 : Value}
    {f17 : Addr} {od17 an17 : Option Addr} {sl17 : Array (Option Value)} {oc17 kV17 dc17 pm17 cd17 ct17 : Value}
    {f18 : Addr} {od18 an18 : Option Addr} {sl18 : Array (Option Value)} {oc18 kV18 dc18 pm18 cd18 ct18 : Value}
    {f19 : Addr} {od19 an19 : Option Addr} {sl19 : Array (Option Value)} {oc19 kV19 dc19 pm19 cd19 ct19 : Value}
    {f20 : Addr} {od20 an20 : Option Addr} {sl20 : Array (Option Value)} {oc20 kV20 dc20 pm20 cd20 ct20 : Value}
    {f21 : Addr} {od21 an21 : Option Addr} {sl21 : Array (Option Value)} {oc21 kV21 dc21 pm21 cd21 ct21 : Value}
    {f22 : Addr} {od22 an22 : Option Addr} {sl22 : Array (Option Value)} {oc22 kV22 dc22 pm22 cd22 ct22 : Value}
    {f23 : Addr} {od23 an23 : Option Addr} {sl23 : Array (Option Value)} {oc23 kV23 dc23 pm23 cd23 ct23 : Value}
    {f24 : Addr} {od24 an24 : Option Addr} {sl24 : Array (Option Value)} {oc24 kV24 dc24 pm24 cd24 ct24 : Value}
    {f25 : Addr} {od25 an25 : Option Addr} {sl25 : Array (Option Value)} {oc25 kV25 dc25 pm25 cd25 ct25 : Value}
    {f26 : Addr} {od26 an26 : Option Addr} {sl26 : Array (Option Value)} {oc26 kV26 dc26 pm26 cd26 ct26 : Value}
    {f27 : Addr} {od27 an27 : Option Addr} {sl27 : Array (Option Value)} {oc27 kV27 dc27 pm27 cd27 ct27 : Value}
    {f28 : Addr} {od28 an28 : Option Addr} {sl28 : Array (Option Value)} {oc28 kV28 dc28 pm28 cd28 ct28 : Value}
    {f29 : Addr} {od29 an29 : Option Addr} {sl29 : Array (Option Value)} {oc29 kV29 dc29 pm29 cd29 ct29 : Value}
    {f30 : Addr} {od30 an30 : Option Addr} {sl30 : Array (Option Value)} {oc30 kV30 dc30 pm30 cd30 ct30 : Value}
    {f31 : Addr} {od31 an31 : Option Addr} {sl31 : Array (Option Value)} {oc31 kV31 dc31 pm31 cd31 ct31 : Value}
    {f32 : Addr} {od32 an32 : Option Addr} {sl32 : Array (Option Value)} {oc32 kV32 dc32 pm32 cd32 ct32 : Value}
    {f33 : Addr} {od33 an33 : Option Addr} {sl33 : Array (Option Value)} {oc33 kV33 dc33 pm33 cd33 ct33 : Value}
    {f34 : Addr} {od34 an34 : Option Addr} {sl34 : Array (Option Value)} {oc34 kV34 dc34 pm34 cd34 ct34 : Value}
    {f35 : Addr} {od35 an35 : Option Addr} {sl35 : Array (Option Value)} {oc35 kV35 dc35 pm35 cd35 ct35 : Value}
    {f36 : Addr} {od36 an36 : Option Addr} {sl36 : Array (Option Value)} {oc36 kV36 dc36 pm36 cd36 ct36 : Value}
    {f37 : Addr} {od37 an37 : Option Addr} {sl37 : Array (Option Value)} {oc37 kV37 dc37 pm37 cd37 ct37 : Value}
    {f38 : Addr} {od38 an38 : Option Addr} {sl38 : Array (Option Value)} {oc38 kV38 dc38 pm38 cd38 ct38 : Value}
    {f39 : Addr} {od39 an39 : Option Addr} {sl39 : Array (Option Value)} {oc39 kV39 dc39 pm39 cd39 ct39 : Value}
    {f40 : Addr} {od40 an40 : Option Addr} {sl40 : Array (Option Value)} {oc40 kV40 dc40 pm40 cd40 ct40 : Value}
    {f41 : Addr} {od41 an41 : Option Addr} {sl41 : Array (Option Value)} {oc41 kV41 dc41 pm41 cd41 ct41 : Value}
    {f42 : Addr} {od42 an42 : Option Addr} {sl42 : Array (Option Value)} {oc42 kV42 dc42 pm42 cd42 ct42 : Value}
    {f43 : Addr} {od43 an43 : Option Addr} {sl43 : Array (Option Value)} {oc43 kV43 dc43 pm43 cd43 ct43 : Value}
    {f44 : Addr} {od44 an44 : Option Addr} {sl44 : Array (Option Value)} {oc44 kV44 dc44 pm44 cd44 ct44 : Value}
    {f45 : Addr} {od45 an45 : Option Addr} {sl45 : Array (Option Value)} {oc45 kV45 dc45 pm45 cd45 ct45 : Value}
    {f46 : Addr} {od46 an46 : Option Addr} {sl46 : Array (Option Value)} {oc46 kV46 dc46 pm46 cd46 ct46 : Value}
    {f47 : Addr} {od47 an47 : Option Addr} {sl47 : Array (Option Value)} {oc47 kV47 dc47 pm47 cd47 ct47 : Value}
    {f48 : Addr} {od48 an48 : Option Addr} {sl48 : Array (Option Value)} {oc48 kV48 dc48 pm48 cd48 ct48 : Value}
    {f49 : Addr} {od49 an49 : Option Addr} {sl49 : Array (Option Value)} {oc49 kV49 dc49 pm49 cd49 ct49 : Value}
    {f50 : Addr} {od50 an50 : Option Addr} {sl50 : Array (Option Value)} {oc50 kV50 dc50 pm50 cd50 ct50 : Value}
    {f51 : Addr} {od51 an51 : Option Addr} {sl51 : Array (Option Value)} {oc51 kV51 dc51 pm51 cd51 ct51 : Value}
    {CTurnError : Addr}
    {CBadMany : Addr}
    {CBadBenches : Addr}
    {CBadHall : Addr}
    {tMOST_TURNERS : Tok}
    {tMOST_BENCHES : Tok}
    {tMOST_CREW : Tok}
    {tc15 tP15 : Addr} {td15 : DefRec}
    (u1Hall : PySem.W.nsIn K mainGlobals "Hall" = some (some (.ref CHall)))
    (a0 : PySem.W.nsIn K mainGlobals "_law_begun" = some (some (.ref f0)))
    (l0 : K.lookup f0 = some ⟨oc0, od0, .func (PySem.W.fnOf "_law_begun" "_law_begun" (defArgs s__law_begun) (defBody s__law_begun) (defScope s__law_begun) .none kV0 dc0 pm0 an0 cd0 ct0), sl0⟩)
    (c0 : PySem.W.codeIn K cd0 "_law_begun" = true)
    (k0 : PySem.W.keepIn K (.ref f0) = true)
    (a1 : PySem.W.nsIn K mainGlobals "_law_draw" = some (some (.ref f1)))
    (l1 : K.lookup f1 = some ⟨oc1, od1, .func (PySem.W.fnOf "_law_draw" "_law_draw" (defArgs s__law_draw) (defBody s__law_draw) (defScope s__law_draw) .none kV1 dc1 pm1 an1 cd1 ct1), sl1⟩)
    (c1 : PySem.W.codeIn K cd1 "_law_draw" = true)
    (k1 : PySem.W.keepIn K (.ref f1) = true)
    (a2 : PySem.W.nsIn K mainGlobals "_law_pick" = some (some (.ref f2)))
    (l2 : K.lookup f2 = some ⟨oc2, od2, .func (PySem.W.fnOf "_law_pick" "_law_pick" (defArgs s__law_pick) (defBody s__law_pick) (defScope s__law_pick) .none kV2 dc2 pm2 an2 cd2 ct2), sl2⟩)
    (c2 : PySem.W.codeIn K cd2 "_law_pick" = true)
    (k2 : PySem.W.keepIn K (.ref f2) = true)
    (a3 : PySem.W.nsIn K mainGlobals "_law_sign" = some (some (.ref f3)))
    (l3 : K.lookup f3 = some ⟨oc3, od3, .func (PySem.W.fnOf "_law_sign" "_law_sign" (defArgs s__law_sign) (defBody s__law_sign) (defScope s__law_sign) .none kV3 dc3 pm3 an3 cd3 ct3), sl3⟩)
    (c3 : PySem.W.codeIn K cd3 "_law_sign" = true)
    (k3 : PySem.W.keepIn K (.ref f3) = true)
    (a4 : PySem.W.nsIn K mainGlobals "_law_mixed" = some (some (.ref f4)))
    (l4 : K.lookup f4 = some ⟨oc4, od4, .func (PySem.W.fnOf "_law_mixed" "_law_mixed" (defArgs s__law_mixed) (defBody s__law_mixed) (defScope s__law_mixed) .none kV4 dc4 pm4 an4 cd4 ct4), sl4⟩)
    (c4 : PySem.W.codeIn K cd4 "_law_mixed" = true)
    (k4 : PySem.W.keepIn K (.ref f4) = true)
    (a5 : PySem.W.nsIn K mainGlobals "_law_some" = some (some (.ref f5)))
    (l5 : K.lookup f5 = some ⟨oc5, od5, .func (PySem.W.fnOf "_law_some" "_law_some" (defArgs s__law_some) (defBody s__law_some) (defScope s__law_some) .none kV5 dc5 pm5 an5 cd5 ct5), sl5⟩)
    (c5 : PySem.W.codeIn K cd5 "_law_some" = true)
    (k5 : PySem.W.keepIn K (.ref f5) = true)
    (a6 : PySem.W.nsIn K mainGlobals "_law_wide_hall" = some (some (.ref f6)))
    (l6 : K.lookup f6 = some ⟨oc6, od6, .func (PySem.W.fnOf "_law_wide_hall" "_law_wide_hall" (defArgs s__law_wide_hall) (defBody s__law_wide_hall) (defScope s__law_wide_hall) .none kV6 dc6 pm6 an6 cd6 ct6), sl6⟩)
    (c6 : PySem.W.codeIn K cd6 "_law_wide_hall" = true)
    (k6 : PySem.W.keepIn K (.ref f6) = true)
    (a7 : PySem.W.nsIn K mainGlobals "is_number" = some (some (.ref f7)))
    (l7 : K.lookup f7 = some ⟨oc7, od7, .func (PySem.W.fnOf "is_number" "is_number" (defArgs s_is_number) (defBody s_is_number) (defScope s_is_number) .none kV7 dc7 pm7 an7 cd7 ct7), sl7⟩)
    (c7 : PySem.W.codeIn K cd7 "is_number" = true)
    (k7 : PySem.W.keepIn K (.ref f7) = true)
    (a8 : PySem.W.nsIn K mainGlobals "is_between" = some (some (.ref f8)))
    (l8 : K.lookup f8 = some ⟨oc8, od8, .func (PySem.W.fnOf "is_between" "is_between" (defArgs s_is_between) (defBody s_is_between) (defScope s_is_between) .none kV8 dc8 pm8 an8 cd8 ct8), sl8⟩)
    (c8 : PySem.W.codeIn K cd8 "is_between" = true)
    (k8 : PySem.W.keepIn K (.ref f8) = true)
    (a9 : PySem.W.nsIn K mainGlobals "is_sign" = some (some (.ref f9)))
    (l9 : K.lookup f9 = some ⟨oc9, od9, .func (PySem.W.fnOf "is_sign" "is_sign" (defArgs s_is_sign) (defBody s_is_sign) (defScope s_is_sign) .none kV9 dc9 pm9 an9 cd9 ct9), sl9⟩)
    (c9 : PySem.W.codeIn K cd9 "is_sign" = true)
    (k9 : PySem.W.keepIn K (.ref f9) = true)
    (a10 : PySem.W.nsIn K mainGlobals "is_rising" = some (some (.ref f10)))
    (l10 : K.lookup f10 = some ⟨oc10, od10, .func (PySem.W.fnOf "is_rising" "is_rising" (defArgs s_is_rising) (defBody s_is_rising) (defScope s_is_rising) .none kV10 dc10 pm10 an10 cd10 ct10), sl10⟩)
    (c10 : PySem.W.codeIn K cd10 "is_rising" = true)
    (k10 : PySem.W.keepIn K (.ref f10) = true)
    (a11 : PySem.W.nsIn K mainGlobals "is_crew" = some (some (.ref f11)))
    (l11 : K.lookup f11 = some ⟨oc11, od11, .func (PySem.W.fnOf "is_crew" "is_crew" (defArgs s_is_crew) (defBody s_is_crew) (defScope s_is_crew) .none kV11 dc11 pm11 an11 cd11 ct11), sl11⟩)
    (c11 : PySem.W.codeIn K cd11 "is_crew" = true)
    (k11 : PySem.W.keepIn K (.ref f11) = true)
    (a12 : PySem.W.nsIn K mainGlobals "is_bench" = some (some (.ref f12)))
    (l12 : K.lookup f12 = some ⟨oc12, od12, .func (PySem.W.fnOf "is_bench" "is_bench" (defArgs s_is_bench) (defBody s_is_bench) (defScope s_is_bench) .none kV12 dc12 pm12 an12 cd12 ct12), sl12⟩)
    (c12 : PySem.W.codeIn K cd12 "is_bench" = true)
    (k12 : PySem.W.keepIn K (.ref f12) = true)
    (a13 : PySem.W.findIn K (.ref CHall) "__init__" = some (some (.ref f13)))
    (l13 : K.lookup f13 = some ⟨oc13, od13, .func (PySem.W.fnOf "__init__" "Hall.__init__" (defArgs s_Hall_init_) (defBody s_Hall_init_) (defScope s_Hall_init_) .none kV13 dc13 pm13 an13 cd13 ct13), sl13⟩)
    (c13 : PySem.W.codeIn K cd13 "Hall.__init__" = true)
    (k13 : PySem.W.keepIn K (.ref f13) = true)
    (i13 : PySem.W.isFn K (.ref f13) = true)
    (a14 : PySem.W.nsIn K mainGlobals "need_hall" = some (some (.ref f14)))
    (l14 : K.lookup f14 = some ⟨oc14, od14, .func (PySem.W.fnOf "need_hall" "need_hall" (defArgs s_need_hall) (defBody s_need_hall) (defScope s_need_hall) .none kV14 dc14 pm14 an14 cd14 ct14), sl14⟩)
    (c14 : PySem.W.codeIn K cd14 "need_hall" = true)
    (k14 : PySem.W.keepIn K (.ref f14) = true)
    (a15 : PySem.W.nsIn K mainGlobals "first_of" = some (some (.ref f15)))
    (l15 : K.lookup f15 = some ⟨oc15, od15, .func (PySem.W.fnOf "first_of" "first_of" (defArgs s_first_of) (defBody s_first_of) (defScope s_first_of) .none kV15 dc15 pm15 an15 cd15 ct15), sl15⟩)
    (c15 : PySem.W.codeIn K cd15 "first_of" = true)
    (k15 : PySem.W.keepIn K (.ref f15) = true)
    (a16 : PySem.W.nsIn K mainGlobals "items_of" = some (some (.ref f16)))
    (l16 : K.lookup f16 = some ⟨oc16, od16, .func (PySem.W.fnOf "items_of" "items_of" (defArgs s_items_of) (defBody s_items_of) (defScope s_items_of) .none kV16 dc16 pm16 an16 cd16 ct16), sl16⟩)
    (c16 : PySem.W.codeIn K cd16 "items_of" = true)
    (k16 : PySem.W.keepIn K (.ref f16) = true)
    (a17 : PySem.W.nsIn K mainGlobals "sums_of" = some (some (.ref f17)))
    (l17 : K.lookup f17 = some ⟨oc17, od17, .func (PySem.W.fnOf "sums_of" "sums_of" (defArgs s_sums_of) (defBody s_sums_of) (defScope s_sums_of) .none kV17 dc17 pm17 an17 cd17 ct17), sl17⟩)
    (c17 : PySem.W.codeIn K cd17 "sums_of" = true)
    (k17 : PySem.W.keepIn K (.ref f17) = true)
    (a18 : PySem.W.nsIn K mainGlobals "mask_of" = some (some (.ref f18)))
    (l18 : K.lookup f18 = some ⟨oc18, od18, .func (PySem.W.fnOf "mask_of" "mask_of" (defArgs s_mask_of) (defBody s_mask_of) (defScope s_mask_of) .none kV18 dc18 pm18 an18 cd18 ct18), sl18⟩)
    (c18 : PySem.W.codeIn K cd18 "mask_of" = true)
    (k18 : PySem.W.keepIn K (.ref f18) = true)
    (a19 : PySem.W.nsIn K mainGlobals "reduced" = some (some (.ref f19)))
    (l19 : K.lookup f19 = some ⟨oc19, od19, .func (PySem.W.fnOf "reduced" "reduced" (defArgs s_reduced) (defBody s_reduced) (defScope s_reduced) .none kV19 dc19 pm19 an19 cd19 ct19), sl19⟩)
    (c19 : PySem.W.codeIn K cd19 "reduced" = true)
    (k19 : PySem.W.keepIn K (.ref f19) = true)
    (a20 : PySem.W.nsIn K mainGlobals "idle_lots" = some (some (.ref f20)))
    (l20 : K.lookup f20 = some ⟨oc20, od20, .func (PySem.W.fnOf "idle_lots" "idle_lots" (defArgs s_idle_lots) (defBody s_idle_lots) (defScope s_idle_lots) .none kV20 dc20 pm20 an20 cd20 ct20), sl20⟩)
    (c20 : PySem.W.codeIn K cd20 "idle_lots" = true)
    (k20 : PySem.W.keepIn K (.ref f20) = true)
    (a21 : PySem.W.nsIn K mainGlobals "crews_of" = some (some (.ref f21)))
    (l21 : K.lookup f21 = some ⟨oc21, od21, .func (PySem.W.fnOf "crews_of" "crews_of" (defArgs s_crews_of) (defBody s_crews_of) (defScope s_crews_of) .none kV21 dc21 pm21 an21 cd21 ct21), sl21⟩)
    (c21 : PySem.W.codeIn K cd21 "crews_of" = true)
    (k21 : PySem.W.keepIn K (.ref f21) = true)
    (a22 : PySem.W.nsIn K mainGlobals "evens_of" = some (some (.ref f22)))
    (l22 : K.lookup f22 = some ⟨oc22, od22, .func (PySem.W.fnOf "evens_of" "evens_of" (defArgs s_evens_of) (defBody s_evens_of) (defScope s_evens_of) .none kV22 dc22 pm22 an22 cd22 ct22), sl22⟩)
    (c22 : PySem.W.codeIn K cd22 "evens_of" = true)
    (k22 : PySem.W.keepIn K (.ref f22) = true)
    (a23 : PySem.W.nsIn K mainGlobals "evens_all" = some (some (.ref f23)))
    (l23 : K.lookup f23 = some ⟨oc23, od23, .func (PySem.W.fnOf "evens_all" "evens_all" (defArgs s_evens_all) (defBody s_evens_all) (defScope s_evens_all) .none kV23 dc23 pm23 an23 cd23 ct23), sl23⟩)
    (c23 : PySem.W.codeIn K cd23 "evens_all" = true)
    (k23 : PySem.W.keepIn K (.ref f23) = true)
    (a24 : PySem.W.nsIn K mainGlobals "signs_of" = some (some (.ref f24)))
    (l24 : K.lookup f24 = some ⟨oc24, od24, .func (PySem.W.fnOf "signs_of" "signs_of" (defArgs s_signs_of) (defBody s_signs_of) (defScope s_signs_of) .none kV24 dc24 pm24 an24 cd24 ct24), sl24⟩)
    (c24 : PySem.W.codeIn K cd24 "signs_of" = true)
    (k24 : PySem.W.keepIn K (.ref f24) = true)
    (a25 : PySem.W.nsIn K mainGlobals "is_minus" = some (some (.ref f25)))
    (l25 : K.lookup f25 = some ⟨oc25, od25, .func (PySem.W.fnOf "is_minus" "is_minus" (defArgs s_is_minus) (defBody s_is_minus) (defScope s_is_minus) .none kV25 dc25 pm25 an25 cd25 ct25), sl25⟩)
    (c25 : PySem.W.codeIn K cd25 "is_minus" = true)
    (k25 : PySem.W.keepIn K (.ref f25) = true)
    (a26 : PySem.W.nsIn K mainGlobals "odd_lot_for" = some (some (.ref f26)))
    (l26 : K.lookup f26 = some ⟨oc26, od26, .func (PySem.W.fnOf "odd_lot_for" "odd_lot_for" (defArgs s_odd_lot_for) (defBody s_odd_lot_for) (defScope s_odd_lot_for) .none kV26 dc26 pm26 an26 cd26 ct26), sl26⟩)
    (c26 : PySem.W.codeIn K cd26 "odd_lot_for" = true)
    (k26 : PySem.W.keepIn K (.ref f26) = true)
    (a27 : PySem.W.nsIn K mainGlobals "odd_lot_of" = some (some (.ref f27)))
    (l27 : K.lookup f27 = some ⟨oc27, od27, .func (PySem.W.fnOf "odd_lot_of" "odd_lot_of" (defArgs s_odd_lot_of) (defBody s_odd_lot_of) (defScope s_odd_lot_of) .none kV27 dc27 pm27 an27 cd27 ct27), sl27⟩)
    (c27 : PySem.W.codeIn K cd27 "odd_lot_of" = true)
    (k27 : PySem.W.keepIn K (.ref f27) = true)
    (a28 : PySem.W.nsIn K mainGlobals "_law_made" = some (some (.ref f28)))
    (l28 : K.lookup f28 = some ⟨oc28, od28, .func (PySem.W.fnOf "_law_made" "_law_made" (defArgs s__law_made) (defBody s__law_made) (defScope s__law_made) .none kV28 dc28 pm28 an28 cd28 ct28), sl28⟩)
    (c28 : PySem.W.codeIn K cd28 "_law_made" = true)
    (k28 : PySem.W.keepIn K (.ref f28) = true)
    (a29 : PySem.W.nsIn K mainGlobals "solved" = some (some (.ref f29)))
    (l29 : K.lookup f29 = some ⟨oc29, od29, .func (PySem.W.fnOf "solved" "solved" (defArgs s_solved) (defBody s_solved) (defScope s_solved) .none kV29 dc29 pm29 an29 cd29 ct29), sl29⟩)
    (c29 : PySem.W.codeIn K cd29 "solved" = true)
    (k29 : PySem.W.keepIn K (.ref f29) = true)
    (a30 : PySem.W.nsIn K mainGlobals "breaking_of" = some (some (.ref f30)))
    (l30 : K.lookup f30 = some ⟨oc30, od30, .func (PySem.W.fnOf "breaking_of" "breaking_of" (defArgs s_breaking_of) (defBody s_breaking_of) (defScope s_breaking_of) .none kV30 dc30 pm30 an30 cd30 ct30), sl30⟩)
    (c30 : PySem.W.codeIn K cd30 "breaking_of" = true)
    (k30 : PySem.W.keepIn K (.ref f30) = true)
    (a31 : PySem.W.nsIn K mainGlobals "signing_for" = some (some (.ref f31)))
    (l31 : K.lookup f31 = some ⟨oc31, od31, .func (PySem.W.fnOf "signing_for" "signing_for" (defArgs s_signing_for) (defBody s_signing_for) (defScope s_signing_for) .none kV31 dc31 pm31 an31 cd31 ct31), sl31⟩)
    (c31 : PySem.W.codeIn K cd31 "signing_for" = true)
    (k31 : PySem.W.keepIn K (.ref f31) = true)
    (a32 : PySem.W.nsIn K mainGlobals "signing_of" = some (some (.ref f32)))
    (l32 : K.lookup f32 = some ⟨oc32, od32, .func (PySem.W.fnOf "signing_of" "signing_of" (defArgs s_signing_of) (defBody s_signing_of) (defScope s_signing_of) .none kV32 dc32 pm32 an32 cd32 ct32), sl32⟩)
    (c32 : PySem.W.codeIn K cd32 "signing_of" = true)
    (k32 : PySem.W.keepIn K (.ref f32) = true)
    (a33 : PySem.W.nsIn K mainGlobals "_law_is_whole" = some (some (.ref f33)))
    (l33 : K.lookup f33 = some ⟨oc33, od33, .func (PySem.W.fnOf "_law_is_whole" "_law_is_whole" (defArgs s__law_is_whole) (defBody s__law_is_whole) (defScope s__law_is_whole) .none kV33 dc33 pm33 an33 cd33 ct33), sl33⟩)
    (c33 : PySem.W.codeIn K cd33 "_law_is_whole" = true)
    (k33 : PySem.W.keepIn K (.ref f33) = true)
    (a34 : PySem.W.nsIn K mainGlobals "_law_is_below" = some (some (.ref f34)))
    (l34 : K.lookup f34 = some ⟨oc34, od34, .func (PySem.W.fnOf "_law_is_below" "_law_is_below" (defArgs s__law_is_below) (defBody s__law_is_below) (defScope s__law_is_below) .none kV34 dc34 pm34 an34 cd34 ct34), sl34⟩)
    (c34 : PySem.W.codeIn K cd34 "_law_is_below" = true)
    (k34 : PySem.W.keepIn K (.ref f34) = true)
    (a35 : PySem.W.nsIn K mainGlobals "_law_is_rising" = some (some (.ref f35)))
    (l35 : K.lookup f35 = some ⟨oc35, od35, .func (PySem.W.fnOf "_law_is_rising" "_law_is_rising" (defArgs s__law_is_rising) (defBody s__law_is_rising) (defScope s__law_is_rising) .none kV35 dc35 pm35 an35 cd35 ct35), sl35⟩)
    (c35 : PySem.W.codeIn K cd35 "_law_is_rising" = true)
    (k35 : PySem.W.keepIn K (.ref f35) = true)
    (a36 : PySem.W.nsIn K mainGlobals "_law_is_minus" = some (some (.ref f36)))
    (l36 : K.lookup f36 = some ⟨oc36, od36, .func (PySem.W.fnOf "_law_is_minus" "_law_is_minus" (defArgs s__law_is_minus) (defBody s__law_is_minus) (defScope s__law_is_minus) .none kV36 dc36 pm36 an36 cd36 ct36), sl36⟩)
    (c36 : PySem.W.codeIn K cd36 "_law_is_minus" = true)
    (k36 : PySem.W.keepIn K (.ref f36) = true)
    (a37 : PySem.W.nsIn K mainGlobals "_law_is_odd_lot" = some (some (.ref f37)))
    (l37 : K.lookup f37 = some ⟨oc37, od37, .func (PySem.W.fnOf "_law_is_odd_lot" "_law_is_odd_lot" (defArgs s__law_is_odd_lot) (defBody s__law_is_odd_lot) (defScope s__law_is_odd_lot) .none kV37 dc37 pm37 an37 cd37 ct37), sl37⟩)
    (c37 : PySem.W.codeIn K cd37 "_law_is_odd_lot" = true)
    (k37 : PySem.W.keepIn K (.ref f37) = true)
    (a38 : PySem.W.nsIn K mainGlobals "_law_are_signs" = some (some (.ref f38)))
    (l38 : K.lookup f38 = some ⟨oc38, od38, .func (PySem.W.fnOf "_law_are_signs" "_law_are_signs" (defArgs s__law_are_signs) (defBody s__law_are_signs) (defScope s__law_are_signs) .none kV38 dc38 pm38 an38 cd38 ct38), sl38⟩)
    (c38 : PySem.W.codeIn K cd38 "_law_are_signs" = true)
    (k38 : PySem.W.keepIn K (.ref f38) = true)
    (a39 : PySem.W.nsIn K mainGlobals "_law_signs_of" = some (some (.ref f39)))
    (l39 : K.lookup f39 = some ⟨oc39, od39, .func (PySem.W.fnOf "_law_signs_of" "_law_signs_of" (defArgs s__law_signs_of) (defBody s__law_signs_of) (defScope s__law_signs_of) .none kV39 dc39 pm39 an39 cd39 ct39), sl39⟩)
    (c39 : PySem.W.codeIn K cd39 "_law_signs_of" = true)
    (k39 : PySem.W.keepIn K (.ref f39) = true)
    (a40 : PySem.W.nsIn K mainGlobals "_law_broken" = some (some (.ref f40)))
    (l40 : K.lookup f40 = some ⟨oc40, od40, .func (PySem.W.fnOf "_law_broken" "_law_broken" (defArgs s__law_broken) (defBody s__law_broken) (defScope s__law_broken) .none kV40 dc40 pm40 an40 cd40 ct40), sl40⟩)
    (c40 : PySem.W.codeIn K cd40 "_law_broken" = true)
    (k40 : PySem.W.keepIn K (.ref f40) = true)
    (a41 : PySem.W.nsIn K mainGlobals "signings_many" = some (some (.ref f41)))
    (l41 : K.lookup f41 = some ⟨oc41, od41, .func (PySem.W.fnOf "signings_many" "signings_many" (defArgs s_signings_many) (defBody s_signings_many) (defScope s_signings_many) .none kV41 dc41 pm41 an41 cd41 ct41), sl41⟩)
    (c41 : PySem.W.codeIn K cd41 "signings_many" = true)
    (k41 : PySem.W.keepIn K (.ref f41) = true)
    (a42 : PySem.W.nsIn K mainGlobals "_law_power" = some (some (.ref f42)))
    (l42 : K.lookup f42 = some ⟨oc42, od42, .func (PySem.W.fnOf "_law_power" "_law_power" (defArgs s__law_power) (defBody s__law_power) (defScope s__law_power) .none kV42 dc42 pm42 an42 cd42 ct42), sl42⟩)
    (c42 : PySem.W.codeIn K cd42 "_law_power" = true)
    (k42 : PySem.W.keepIn K (.ref f42) = true)
    (a43 : PySem.W.nsIn K mainGlobals "_law_crews" = some (some (.ref f43)))
    (l43 : K.lookup f43 = some ⟨oc43, od43, .func (PySem.W.fnOf "_law_crews" "_law_crews" (defArgs s__law_crews) (defBody s__law_crews) (defScope s__law_crews) .none kV43 dc43 pm43 an43 cd43 ct43), sl43⟩)
    (c43 : PySem.W.codeIn K cd43 "_law_crews" = true)
    (k43 : PySem.W.keepIn K (.ref f43) = true)
    (a44 : PySem.W.nsIn K mainGlobals "_law_unlike" = some (some (.ref f44)))
    (l44 : K.lookup f44 = some ⟨oc44, od44, .func (PySem.W.fnOf "_law_unlike" "_law_unlike" (defArgs s__law_unlike) (defBody s__law_unlike) (defScope s__law_unlike) .none kV44 dc44 pm44 an44 cd44 ct44), sl44⟩)
    (c44 : PySem.W.codeIn K cd44 "_law_unlike" = true)
    (k44 : PySem.W.keepIn K (.ref f44) = true)
    (a45 : PySem.W.nsIn K mainGlobals "_law_freedom" = some (some (.ref f45)))
    (l45 : K.lookup f45 = some ⟨oc45, od45, .func (PySem.W.fnOf "_law_freedom" "_law_freedom" (defArgs s__law_freedom) (defBody s__law_freedom) (defScope s__law_freedom) .none kV45 dc45 pm45 an45 cd45 ct45), sl45⟩)
    (c45 : PySem.W.codeIn K cd45 "_law_freedom" = true)
    (k45 : PySem.W.keepIn K (.ref f45) = true)
    (a46 : PySem.W.nsIn K mainGlobals "_law_one_or_other" = some (some (.ref f46)))
    (l46 : K.lookup f46 = some ⟨oc46, od46, .func (PySem.W.fnOf "_law_one_or_other" "_law_one_or_other" (defArgs s__law_one_or_other) (defBody s__law_one_or_other) (defScope s__law_one_or_other) .none kV46 dc46 pm46 an46 cd46 ct46), sl46⟩)
    (c46 : PySem.W.codeIn K cd46 "_law_one_or_other" = true)
    (k46 : PySem.W.keepIn K (.ref f46) = true)
    (a47 : PySem.W.nsIn K mainGlobals "_law_drawn_signs" = some (some (.ref f47)))
    (l47 : K.lookup f47 = some ⟨oc47, od47, .func (PySem.W.fnOf "_law_drawn_signs" "_law_drawn_signs" (defArgs s__law_drawn_signs) (defBody s__law_drawn_signs) (defScope s__law_drawn_signs) .none kV47 dc47 pm47 an47 cd47 ct47), sl47⟩)
    (c47 : PySem.W.codeIn K cd47 "_law_drawn_signs" = true)
    (k47 : PySem.W.keepIn K (.ref f47) = true)
    (a48 : PySem.W.nsIn K mainGlobals "_law_meant" = some (some (.ref f48)))
    (l48 : K.lookup f48 = some ⟨oc48, od48, .func (PySem.W.fnOf "_law_meant" "_law_meant" (defArgs s__law_meant) (defBody s__law_meant) (defScope s__law_meant) .none kV48 dc48 pm48 an48 cd48 ct48), sl48⟩)
    (c48 : PySem.W.codeIn K cd48 "_law_meant" = true)
    (k48 : PySem.W.keepIn K (.ref f48) = true)
    (a49 : PySem.W.nsIn K mainGlobals "_law_put" = some (some (.ref f49)))
    (l49 : K.lookup f49 = some ⟨oc49, od49, .func (PySem.W.fnOf "_law_put" "_law_put" (defArgs s__law_put) (defBody s__law_put) (defScope s__law_put) .none kV49 dc49 pm49 an49 cd49 ct49), sl49⟩)
    (c49 : PySem.W.codeIn K cd49 "_law_put" = true)
    (k49 : PySem.W.keepIn K (.ref f49) = true)
    (a50 : PySem.W.nsIn K mainGlobals "_law_one_turned" = some (some (.ref f50)))
    (l50 : K.lookup f50 = some ⟨oc50, od50, .func (PySem.W.fnOf "_law_one_turned" "_law_one_turned" (defArgs s__law_one_turned) (defBody s__law_one_turned) (defScope s__law_one_turned) .none kV50 dc50 pm50 an50 cd50 ct50), sl50⟩)
    (c50 : PySem.W.codeIn K cd50 "_law_one_turned" = true)
    (k50 : PySem.W.keepIn K (.ref f50) = true)
    (a51 : PySem.W.nsIn K mainGlobals "law" = some (some (.ref f51)))
    (l51 : K.lookup f51 = some ⟨oc51, od51, .func (PySem.W.fnOf "law" "law" (defArgs s_law) (defBody s_law) (defScope s_law) .none kV51 dc51 pm51 an51 cd51 ct51), sl51⟩)
    (c51 : PySem.W.codeIn K cd51 "law" = true)
    (k51 : PySem.W.keepIn K (.ref f51) = true)
    (oN : PySem.W.specialIn K (.builtin "object.__class__") "__get__" = some (some (.builtin "getset_descriptor.__get__")))
    (oT : PySem.W.takesIn K (.builtin "object.__class__") = some true)
    (x1TurnError : PySem.W.nsIn K mainGlobals "TurnError" = some (some (.ref CTurnError)))
    (x2TurnError : PySem.W.excIn K CTurnError [.type "ValueError", .type "Exception", .type "BaseException", .type "object"] "ValueError.__new__" = true)
    (x3TurnError : PySem.W.keepIn K (.ref CTurnError) = true)
    (x4TurnError : PySem.W.subIn K (.ref CTurnError) (.type "BaseException") = some true)
    (x5TurnError : PySem.W.typeIn K (.ref CTurnError) = some (.type "type"))
    (x6TurnError : PySem.W.findIn K (.ref CTurnError) "__getattribute__" = some (some (.builtin "BaseException.__getattribute__")))
    (x7TurnError : PySem.W.findIn K (.ref CTurnError) "__getattr__" = some none)
    (x8TurnError : PySem.W.hasDictIn K CTurnError = true)
    (x9TurnError : PySem.W.findIn K (.ref CTurnError) "__class__" = some (some (.builtin "object.__class__")))
    (xaTurnError : PySem.W.mroIn K CTurnError (.type "object") = some true)
    (x1BadMany : PySem.W.nsIn K mainGlobals "BadMany" = some (some (.ref CBadMany)))
    (x2BadMany : PySem.W.excIn K CBadMany [.type "ValueError", .type "Exception", .type "BaseException", .type "object"] "ValueError.__new__" = true)
    (x3BadMany : PySem.W.keepIn K (.ref CBadMany) = true)
    (x4BadMany : PySem.W.subIn K (.ref CBadMany) (.type "BaseException") = some true)
    (x5BadMany : PySem.W.typeIn K (.ref CBadMany) = some (.type "type"))
    (x6BadMany : PySem.W.findIn K (.ref CBadMany) "__getattribute__" = some (some (.builtin "BaseException.__getattribute__")))
    (x7BadMany : PySem.W.findIn K (.ref CBadMany) "__getattr__" = some none)
    (x8BadMany : PySem.W.hasDictIn K CBadMany = true)
    (x9BadMany : PySem.W.findIn K (.ref CBadMany) "__class__" = some (some (.builtin "object.__class__")))
    (xaBadMany : PySem.W.mroIn K CBadMany (.type "object") = some true)
    (x1BadBenches : PySem.W.nsIn K mainGlobals "BadBenches" = some (some (.ref CBadBenches)))
    (x2BadBenches : PySem.W.excIn K CBadBenches [.type "ValueError", .type "Exception", .type "BaseException", .type "object"] "ValueError.__new__" = true)
    (x3BadBenches : PySem.W.keepIn K (.ref CBadBenches) = true)
    (x4BadBenches : PySem.W.subIn K (.ref CBadBenches) (.type "BaseException") = some true)
    (x5BadBenches : PySem.W.typeIn K (.ref CBadBenches) = some (.type "type"))
    (x6BadBenches : PySem.W.findIn K (.ref CBadBenches) "__getattribute__" = some (some (.builtin "BaseException.__getattribute__")))
    (x7BadBenches : PySem.W.findIn K (.ref CBadBenches) "__getattr__" = some none)
    (x8BadBenches : PySem.W.hasDictIn K CBadBenches = true)
    (x9BadBenches : PySem.W.findIn K (.ref CBadBenches) "__class__" = some (some (.builtin "object.__class__")))
    (xaBadBenches : PySem.W.mroIn K CBadBenches (.type "object") = some true)
    (x1BadHall : PySem.W.nsIn K mainGlobals "BadHall" = some (some (.ref CBadHall)))
    (x2BadHall : PySem.W.excIn K CBadHall [.type "ValueError", .type "Exception", .type "BaseException", .type "object"] "ValueError.__new__" = true)
    (x3BadHall : PySem.W.keepIn K (.ref CBadHall) = true)
    (x4BadHall : PySem.W.subIn K (.ref CBadHall) (.type "BaseException") = some true)
    (x5BadHall : PySem.W.typeIn K (.ref CBadHall) = some (.type "type"))
    (x6BadHall : PySem.W.findIn K (.ref CBadHall) "__getattribute__" = some (some (.builtin "BaseException.__getattribute__")))
    (x7BadHall : PySem.W.findIn K (.ref CBadHall) "__getattr__" = some none)
    (x8BadHall : PySem.W.hasDictIn K CBadHall = true)
    (x9BadHall : PySem.W.findIn K (.ref CBadHall) "__class__" = some (some (.builtin "object.__class__")))
    (xaBadHall : PySem.W.mroIn K CBadHall (.type "object") = some true)
    (u2Hall : PySem.W.plainGet K CHall Str.empty = true)
    (u3Hall : PySem.W.hasDictIn K CHall = true)
    (u4Hall : PySem.W.plainOver K CHall = true)
    (u5Hall : PySem.W.findIn K (.ref CHall) "__setattr__" = some (some (.builtin "object.__setattr__")))
    (vNoneTypeHall : PySem.W.kitOne K (.ref CHall) (.type "NoneType") = some false)
    (vboolHall : PySem.W.kitOne K (.ref CHall) (.type "bool") = some false)
    (vintHall : PySem.W.kitOne K (.ref CHall) (.type "int") = some false)
    (vstrHall : PySem.W.kitOne K (.ref CHall) (.type "str") = some false)
    (vtupleHall : PySem.W.kitOne K (.ref CHall) (.type "tuple") = some false)
    (vlistHall : PySem.W.kitOne K (.ref CHall) (.type "list") = some false)
    (vdictHall : PySem.W.kitOne K (.ref CHall) (.type "dict") = some false)
    (u8Hall : PySem.W.findIn K (.ref CHall) "__class__" = some (some (.builtin "object.__class__")))
    (u9Hall : PySem.W.mroIn K CHall (.type "object") = some true)
    (u6Hall : PySem.W.makesIn K CHall = true)
    (u7Hall : PySem.W.keepIn K (.ref CHall) = true)
    (nfHallbenches : PySem.W.findIn K (.ref CHall) "benches" = some none)
    (nfHallmany : PySem.W.findIn K (.ref CHall) "many" = some none)
    (gMOST_TURNERS : PySem.W.nsIn K mainGlobals "MOST_TURNERS" = some (some (.int 15 tMOST_TURNERS)))
    (gMOST_BENCHES : PySem.W.nsIn K mainGlobals "MOST_BENCHES" = some (some (.int 12 tMOST_BENCHES)))
    (gMOST_CREW : PySem.W.nsIn K mainGlobals "MOST_CREW" = some (some (.int 8 tMOST_CREW)))
    (zabs : PySem.W.nsIn K mainGlobals "abs" = some none)
    (zall : PySem.W.nsIn K mainGlobals "all" = some none)
    (zbool : PySem.W.nsIn K mainGlobals "bool" = some none)
    (zenumerate : PySem.W.nsIn K mainGlobals "enumerate" = some none)
    (zint : PySem.W.nsIn K mainGlobals "int" = some none)
    (zisinstance : PySem.W.nsIn K mainGlobals "isinstance" = some none)
    (zlen : PySem.W.nsIn K mainGlobals "len" = some none)
    (zlist : PySem.W.nsIn K mainGlobals "list" = some none)
    (zmin : PySem.W.nsIn K mainGlobals "min" = some none)
    (zrange : PySem.W.nsIn K mainGlobals "range" = some none)
    (zrepr : PySem.W.nsIn K mainGlobals "repr" = some none)
    (zsorted : PySem.W.nsIn K mainGlobals "sorted" = some none)
    (zsum : PySem.W.nsIn K mainGlobals "sum" = some none)
    (ztuple : PySem.W.nsIn K mainGlobals "tuple" = some none)
    (zzip : PySem.W.nsIn K mainGlobals "zip" = some none)
    (tb15 : PySem.W.tabIn K "first_of" = some (tc15, tP15))
    (tr15 : (recsOf q).find? (fun e => e.name == ("first_of" : Str)) = some td15)
    (te15 : cd15 = .ref tc15)
    (nt : PySem.W.noTabs K = true)
    (yBadMany : PySem.W.subIn K (.ref CBadMany) (.ref CTurnError) = some true)
    (yBadBenches : PySem.W.subIn K (.ref CBadBenches) (.ref CTurnError) = some true)
    (yBadHall : PySem.W.subIn K (.ref CBadHall) (.ref CTurnError) = some true)
    (ktHallNoneType : PySem.W.kitOne K (.type "NoneType") (.ref CHall) = some false)
    (ktHallbool : PySem.W.kitOne K (.type "bool") (.ref CHall) = some false)
    (ktHallint : PySem.W.kitOne K (.type "int") (.ref CHall) = some false)
    (ktHallstr : PySem.W.kitOne K (.type "str") (.ref CHall) = some false)
    (ktHalltuple : PySem.W.kitOne K (.type "tuple") (.ref CHall) = some false)
    (ktHalllist : PySem.W.kitOne K (.type "list") (.ref CHall) = some false)
    (ktHalldict : PySem.W.kitOne K (.type "dict") (.ref CHall) = some false)
    (ktHall : PySem.W.kitOne K (.ref CHall) (.ref CHall) = some true) : LawG l w K 11 63 "_law_script" mg fa h := by
  have e := hfa.symm.trans (PySem.W.mg_of X G a51)
  cases e
  let T : Top K mg := { C_Hall := CHall, M_Hall := PySem.W.mg_of X G u1Hall, f__law_begun := f0, d__law_begun := _, F__law_begun := fun_mk (st := s__law_begun) l0 c0 k0, m__law_begun := PySem.W.mg_of X G a0, b__law_begun := (fun_mk (st := s__law_begun) l0 c0 k0).binds (ps := ["_law_script"]) (fun _ _ _ _ _ _ us hl => match us, hl with | [_], _ => rfl), f__law_draw := f1, d__law_draw := _, F__law_draw := fun_mk (st := s__law_draw) l1 c1 k1, m__law_draw := PySem.W.mg_of X G a1, b__law_draw := (fun_mk (st := s__law_draw) l1 c1 k1).binds (ps := ["_law_state", "_law_size_here"]) (fun _ _ _ _ _ _ us hl => match us, hl with | [_, _], _ => rfl), f__law_pick := f2, d__law_pick := _, F__law_pick := fun_mk (st := s__law_pick) l2 c2 k2, m__law_pick := PySem.W.mg_of X G a2, b__law_pick := (fun_mk (st := s__law_pick) l2 c2 k2).binds (ps := ["_law_state", "_law_several"]) (fun _ _ _ _ _ _ us hl => match us, hl with | [_, _], _ => rfl), f__law_sign := f3, d__law_sign := _, F__law_sign := fun_mk (st := s__law_sign) l3 c3 k3, m__law_sign := PySem.W.mg_of X G a3, b__law_sign := (fun_mk (st := s__law_sign) l3 c3 k3).binds (ps := ["_law_state"]) (fun _ _ _ _ _ _ us hl => match us, hl with | [_], _ => rfl), f__law_mixed := f4, d__law_mixed := _, F__law_mixed := fun_mk (st := s__law_mixed) l4 c4 k4, m__law_mixed := PySem.W.mg_of X G a4, b__law_mixed := (fun_mk (st := s__law_mixed) l4 c4 k4).binds (ps := ["_law_state", "_law_several"]) (fun _ _ _ _ _ _ us hl => match us, hl with | [_, _], _ => rfl), f__law_some := f5, d__law_some := _, F__law_some := fun_mk (st := s__law_some) l5 c5 k5, m__law_some := PySem.W.mg_of X G a5, b__law_some := (fun_mk (st := s__law_some) l5 c5 k5).binds (ps := ["_law_state", "_law_several", "_law_least", "_law_most"]) (fun _ _ _ _ _ _ us hl => match us, hl with | [_, _, _, _], _ => rfl), f__law_wide_hall := f6, d__law_wide_hall := _, F__law_wide_hall := fun_mk (st := s__law_wide_hall) l6 c6 k6, m__law_wide_hall := PySem.W.mg_of X G a6, b__law_wide_hall := (fun_mk (st := s__law_wide_hall) l6 c6 k6).binds (ps := ["_law_state"]) (fun _ _ _ _ _ _ us hl => match us, hl with | [_], _ => rfl), f_is_number := f7, d_is_number := _, F_is_number := fun_mk (st := s_is_number) l7 c7 k7, m_is_number := PySem.W.mg_of X G a7, b_is_number := (fun_mk (st := s_is_number) l7 c7 k7).binds (ps := ["thing"]) (fun _ _ _ _ _ _ us hl => match us, hl with | [_], _ => rfl), f_is_between := f8, d_is_between := _, F_is_between := fun_mk (st := s_is_between) l8 c8 k8, m_is_between := PySem.W.mg_of X G a8, b_is_between := (fun_mk (st := s_is_between) l8 c8 k8).binds (ps := ["thing", "least", "most"]) (fun _ _ _ _ _ _ us hl => match us, hl with | [_, _, _], _ => rfl), f_is_sign := f9, d_is_sign := _, F_is_sign := fun_mk (st := s_is_sign) l9 c9 k9, m_is_sign := PySem.W.mg_of X G a9, b_is_sign := (fun_mk (st := s_is_sign) l9 c9 k9).binds (ps := ["thing"]) (fun _ _ _ _ _ _ us hl => match us, hl with | [_], _ => rfl), f_is_rising := f10, d_is_rising := _, F_is_rising := fun_mk (st := s_is_rising) l10 c10 k10, m_is_rising := PySem.W.mg_of X G a10, b_is_rising := (fun_mk (st := s_is_rising) l10 c10 k10).binds (ps := ["thing", "many"]) (fun _ _ _ _ _ _ us hl => match us, hl with | [_, _], _ => rfl), f_is_crew := f11, d_is_crew := _, F_is_crew := fun_mk (st := s_is_crew) l11 c11 k11, m_is_crew := PySem.W.mg_of X G a11, b_is_crew := (fun_mk (st := s_is_crew) l11 c11 k11).binds (ps := ["many", "thing"]) (fun _ _ _ _ _ _ us hl => match us, hl with | [_, _], _ => rfl), f_is_bench := f12, d_is_bench := _, F_is_bench := fun_mk (st := s_is_bench) l12 c12 k12, m_is_bench := PySem.W.mg_of X G a12, b_is_bench := (fun_mk (st := s_is_bench) l12 c12 k12).binds (ps := ["many", "thing"]) (fun _ _ _ _ _ _ us hl => match us, hl with | [_, _], _ => rfl), f_Hall_init_ := f13, d_Hall_init_ := _, F_Hall_init_ := fun_mk (st := s_Hall_init_) l13 c13 k13, b_Hall_init_ := (fun_mk (st := s_Hall_init_) l13 c13 k13).binds (ps := ["self", "many", "benches"]) (fun _ _ _ _ _ _ us hl => match us, hl with | [_, _, _], _ => rfl), f_need_hall := f14, d_need_hall := _, F_need_hall := fun_mk (st := s_need_hall) l14 c14 k14, m_need_hall := PySem.W.mg_of X G a14, b_need_hall := (fun_mk (st := s_need_hall) l14 c14 k14).binds (ps := ["hall"]) (fun _ _ _ _ _ _ us hl => match us, hl with | [_], _ => rfl), f_first_of := f15, d_first_of := _, F_first_of := fun_mk (st := s_first_of) l15 c15 k15, m_first_of := PySem.W.mg_of X G a15, b_first_of := (fun_mk (st := s_first_of) l15 c15 k15).binds (ps := ["lots"]) (fun _ _ _ _ _ _ us hl => match us, hl with | [_], _ => rfl), f_items_of := f16, d_items_of := _, F_items_of := fun_mk (st := s_items_of) l16 c16 k16, m_items_of := PySem.W.mg_of X G a16, b_items_of := (fun_mk (st := s_items_of) l16 c16 k16).binds (ps := ["mask"]) (fun _ _ _ _ _ _ us hl => match us, hl with | [_], _ => rfl), f_sums_of := f17, d_sums_of := _, F_sums_of := fun_mk (st := s_sums_of) l17 c17 k17, m_sums_of := PySem.W.mg_of X G a17, b_sums_of := (fun_mk (st := s_sums_of) l17 c17 k17).binds (ps := ["masks"]) (fun _ _ _ _ _ _ us hl => match us, hl with | [_], _ => rfl), f_mask_of := f18, d_mask_of := _, F_mask_of := fun_mk (st := s_mask_of) l18 c18 k18, m_mask_of := PySem.W.mg_of X G a18, b_mask_of := (fun_mk (st := s_mask_of) l18 c18 k18).binds (ps := ["items"]) (fun _ _ _ _ _ _ us hl => match us, hl with | [_], _ => rfl), f_reduced := f19, d_reduced := _, F_reduced := fun_mk (st := s_reduced) l19 c19 k19, m_reduced := PySem.W.mg_of X G a19, b_reduced := (fun_mk (st := s_reduced) l19 c19 k19).binds (ps := ["pairs"]) (fun _ _ _ _ _ _ us hl => match us, hl with | [_], _ => rfl), f_idle_lots := f20, d_idle_lots := _, F_idle_lots := fun_mk (st := s_idle_lots) l20 c20 k20, m_idle_lots := PySem.W.mg_of X G a20, b_idle_lots := (fun_mk (st := s_idle_lots) l20 c20 k20).binds (ps := ["rows"]) (fun _ _ _ _ _ _ us hl => match us, hl with | [_], _ => rfl), f_crews_of := f21, d_crews_of := _, F_crews_of := fun_mk (st := s_crews_of) l21 c21 k21, m_crews_of := PySem.W.mg_of X G a21, b_crews_of := (fun_mk (st := s_crews_of) l21 c21 k21).binds (ps := ["hall"]) (fun _ _ _ _ _ _ us hl => match us, hl with | [_], _ => rfl), f_evens_of := f22, d_evens_of := _, F_evens_of := fun_mk (st := s_evens_of) l22 c22 k22, m_evens_of := PySem.W.mg_of X G a22, b_evens_of := (fun_mk (st := s_evens_of) l22 c22 k22).binds (ps := ["hall"]) (fun _ _ _ _ _ _ us hl => match us, hl with | [_], _ => rfl), f_evens_all := f23, d_evens_all := _, F_evens_all := fun_mk (st := s_evens_all) l23 c23 k23, m_evens_all := PySem.W.mg_of X G a23, b_evens_all := (fun_mk (st := s_evens_all) l23 c23 k23).binds (ps := ["hall"]) (fun _ _ _ _ _ _ us hl => match us, hl with | [_], _ => rfl), f_signs_of := f24, d_signs_of := _, F_signs_of := fun_mk (st := s_signs_of) l24 c24 k24, m_signs_of := PySem.W.mg_of X G a24, b_signs_of := (fun_mk (st := s_signs_of) l24 c24 k24).binds (ps := ["hall"]) (fun _ _ _ _ _ _ us hl => match us, hl with | [_], _ => rfl), f_is_minus := f25, d_is_minus := _, F_is_minus := fun_mk (st := s_is_minus) l25 c25 k25, m_is_minus := PySem.W.mg_of X G a25, b_is_minus := (fun_mk (st := s_is_minus) l25 c25 k25).binds (ps := ["hall", "lot"]) (fun _ _ _ _ _ _ us hl => match us, hl with | [_, _], _ => rfl), f_odd_lot_for := f26, d_odd_lot_for := _, F_odd_lot_for := fun_mk (st := s_odd_lot_for) l26 c26 k26, m_odd_lot_for := PySem.W.mg_of X G a26, b_odd_lot_for := (fun_mk (st := s_odd_lot_for) l26 c26 k26).binds (ps := ["hall"]) (fun _ _ _ _ _ _ us hl => match us, hl with | [_], _ => rfl), f_odd_lot_of := f27, d_odd_lot_of := _, F_odd_lot_of := fun_mk (st := s_odd_lot_of) l27 c27 k27, m_odd_lot_of := PySem.W.mg_of X G a27, b_odd_lot_of := (fun_mk (st := s_odd_lot_of) l27 c27 k27).binds (ps := ["hall"]) (fun _ _ _ _ _ _ us hl => match us, hl with | [_], _ => rfl), f__law_made := f28, d__law_made := _, F__law_made := fun_mk (st := s__law_made) l28 c28 k28, m__law_made := PySem.W.mg_of X G a28, b__law_made := (fun_mk (st := s__law_made) l28 c28 k28).binds (ps := ["_law_scope"]) (fun _ _ _ _ _ _ us hl => match us, hl with | [_], _ => rfl), f_solved := f29, d_solved := _, F_solved := fun_mk (st := s_solved) l29 c29 k29, m_solved := PySem.W.mg_of X G a29, b_solved := (fun_mk (st := s_solved) l29 c29 k29).binds (ps := ["pairs"]) (fun _ _ _ _ _ _ us hl => match us, hl with | [_], _ => rfl), f_breaking_of := f30, d_breaking_of := _, F_breaking_of := fun_mk (st := s_breaking_of) l30 c30 k30, m_breaking_of := PySem.W.mg_of X G a30, b_breaking_of := (fun_mk (st := s_breaking_of) l30 c30 k30).binds (ps := ["hall", "lot"]) (fun _ _ _ _ _ _ us hl => match us, hl with | [_, _], _ => rfl), f_signing_for := f31, d_signing_for := _, F_signing_for := fun_mk (st := s_signing_for) l31 c31 k31, m_signing_for := PySem.W.mg_of X G a31, b_signing_for := (fun_mk (st := s_signing_for) l31 c31 k31).binds (ps := ["hall"]) (fun _ _ _ _ _ _ us hl => match us, hl with | [_], _ => rfl), f_signing_of := f32, d_signing_of := _, F_signing_of := fun_mk (st := s_signing_of) l32 c32 k32, m_signing_of := PySem.W.mg_of X G a32, b_signing_of := (fun_mk (st := s_signing_of) l32 c32 k32).binds (ps := ["hall"]) (fun _ _ _ _ _ _ us hl => match us, hl with | [_], _ => rfl), f__law_is_whole := f33, d__law_is_whole := _, F__law_is_whole := fun_mk (st := s__law_is_whole) l33 c33 k33, m__law_is_whole := PySem.W.mg_of X G a33, b__law_is_whole := (fun_mk (st := s__law_is_whole) l33 c33 k33).binds (ps := ["_law_item"]) (fun _ _ _ _ _ _ us hl => match us, hl with | [_], _ => rfl), f__law_is_below := f34, d__law_is_below := _, F__law_is_below := fun_mk (st := s__law_is_below) l34 c34 k34, m__law_is_below := PySem.W.mg_of X G a34, b__law_is_below := (fun_mk (st := s__law_is_below) l34 c34 k34).binds (ps := ["_law_item", "_law_size_here"]) (fun _ _ _ _ _ _ us hl => match us, hl with | [_, _], _ => rfl), f__law_is_rising := f35, d__law_is_rising := _, F__law_is_rising := fun_mk (st := s__law_is_rising) l35 c35 k35, m__law_is_rising := PySem.W.mg_of X G a35, b__law_is_rising := (fun_mk (st := s__law_is_rising) l35 c35 k35).binds (ps := ["_law_item", "_law_many"]) (fun _ _ _ _ _ _ us hl => match us, hl with | [_, _], _ => rfl), f__law_is_minus := f36, d__law_is_minus := _, F__law_is_minus := fun_mk (st := s__law_is_minus) l36 c36 k36, m__law_is_minus := PySem.W.mg_of X G a36, b__law_is_minus := (fun_mk (st := s__law_is_minus) l36 c36 k36).binds (ps := ["_law_scope", "_law_lot"]) (fun _ _ _ _ _ _ us hl => match us, hl with | [_, _], _ => rfl), f__law_is_odd_lot := f37, d__law_is_odd_lot := _, F__law_is_odd_lot := fun_mk (st := s__law_is_odd_lot) l37 c37 k37, m__law_is_odd_lot := PySem.W.mg_of X G a37, b__law_is_odd_lot := (fun_mk (st := s__law_is_odd_lot) l37 c37 k37).binds (ps := ["_law_scope", "_law_item"]) (fun _ _ _ _ _ _ us hl => match us, hl with | [_, _], _ => rfl), f__law_are_signs := f38, d__law_are_signs := _, F__law_are_signs := fun_mk (st := s__law_are_signs) l38 c38 k38, m__law_are_signs := PySem.W.mg_of X G a38, b__law_are_signs := (fun_mk (st := s__law_are_signs) l38 c38 k38).binds (ps := ["_law_item", "_law_many"]) (fun _ _ _ _ _ _ us hl => match us, hl with | [_, _], _ => rfl), f__law_signs_of := f39, d__law_signs_of := _, F__law_signs_of := fun_mk (st := s__law_signs_of) l39 c39 k39, m__law_signs_of := PySem.W.mg_of X G a39, b__law_signs_of := (fun_mk (st := s__law_signs_of) l39 c39 k39).binds (ps := ["_law_scope", "_law_several"]) (fun _ _ _ _ _ _ us hl => match us, hl with | [_, _], _ => rfl), f__law_broken := f40, d__law_broken := _, F__law_broken := fun_mk (st := s__law_broken) l40 c40 k40, m__law_broken := PySem.W.mg_of X G a40, b__law_broken := (fun_mk (st := s__law_broken) l40 c40 k40).binds (ps := ["_law_scope", "_law_several"]) (fun _ _ _ _ _ _ us hl => match us, hl with | [_, _], _ => rfl), f_signings_many := f41, d_signings_many := _, F_signings_many := fun_mk (st := s_signings_many) l41 c41 k41, m_signings_many := PySem.W.mg_of X G a41, b_signings_many := (fun_mk (st := s_signings_many) l41 c41 k41).binds (ps := ["hall"]) (fun _ _ _ _ _ _ us hl => match us, hl with | [_], _ => rfl), f__law_power := f42, d__law_power := _, F__law_power := fun_mk (st := s__law_power) l42 c42 k42, m__law_power := PySem.W.mg_of X G a42, b__law_power := (fun_mk (st := s__law_power) l42 c42 k42).binds (ps := ["_law_times_here"]) (fun _ _ _ _ _ _ us hl => match us, hl with | [_], _ => rfl), f__law_crews := f43, d__law_crews := _, F__law_crews := fun_mk (st := s__law_crews) l43 c43 k43, m__law_crews := PySem.W.mg_of X G a43, b__law_crews := (fun_mk (st := s__law_crews) l43 c43 k43).binds (ps := ["_law_scope"]) (fun _ _ _ _ _ _ us hl => match us, hl with | [_], _ => rfl), f__law_unlike := f44, d__law_unlike := _, F__law_unlike := fun_mk (st := s__law_unlike) l44 c44 k44, m__law_unlike := PySem.W.mg_of X G a44, b__law_unlike := (fun_mk (st := s__law_unlike) l44 c44 k44).binds (ps := ["_law_one", "_law_other"]) (fun _ _ _ _ _ _ us hl => match us, hl with | [_, _], _ => rfl), f__law_freedom := f45, d__law_freedom := _, F__law_freedom := fun_mk (st := s__law_freedom) l45 c45 k45, m__law_freedom := PySem.W.mg_of X G a45, b__law_freedom := (fun_mk (st := s__law_freedom) l45 c45 k45).binds (ps := ["_law_scope"]) (fun _ _ _ _ _ _ us hl => match us, hl with | [_], _ => rfl), f__law_one_or_other := f46, d__law_one_or_other := _, F__law_one_or_other := fun_mk (st := s__law_one_or_other) l46 c46 k46, m__law_one_or_other := PySem.W.mg_of X G a46, b__law_one_or_other := (fun_mk (st := s__law_one_or_other) l46 c46 k46).binds (ps := ["_law_scope"]) (fun _ _ _ _ _ _ us hl => match us, hl with | [_], _ => rfl), f__law_drawn_signs := f47, d__law_drawn_signs := _, F__law_drawn_signs := fun_mk (st := s__law_drawn_signs) l47 c47 k47, m__law_drawn_signs := PySem.W.mg_of X G a47, b__law_drawn_signs := (fun_mk (st := s__law_drawn_signs) l47 c47 k47).binds (ps := ["_law_state", "_law_many"]) (fun _ _ _ _ _ _ us hl => match us, hl with | [_, _], _ => rfl), f__law_meant := f48, d__law_meant := _, F__law_meant := fun_mk (st := s__law_meant) l48 c48 k48, m__law_meant := PySem.W.mg_of X G a48, b__law_meant := (fun_mk (st := s__law_meant) l48 c48 k48).binds (ps := ["_law_state", "_law_scope"]) (fun _ _ _ _ _ _ us hl => match us, hl with | [_, _], _ => rfl), f__law_put := f49, d__law_put := _, F__law_put := fun_mk (st := s__law_put) l49 c49 k49, m__law_put := PySem.W.mg_of X G a49, b__law_put := (fun_mk (st := s__law_put) l49 c49 k49).binds (ps := ["_law_row", "_law_spot", "_law_item"]) (fun _ _ _ _ _ _ us hl => match us, hl with | [_, _, _], _ => rfl), f__law_one_turned := f50, d__law_one_turned := _, F__law_one_turned := fun_mk (st := s__law_one_turned) l50 c50 k50, m__law_one_turned := PySem.W.mg_of X G a50, b__law_one_turned := (fun_mk (st := s__law_one_turned) l50 c50 k50).binds (ps := ["_law_state", "_law_scope"]) (fun _ _ _ _ _ _ us hl => match us, hl with | [_, _], _ => rfl), f_law := fa, d_law := _, F_law := fun_mk (st := s_law) l51 c51 k51, m_law := PySem.W.mg_of X G a51, b_law := (fun_mk (st := s_law) l51 c51 k51).binds (ps := ["_law_script"]) (fun _ _ _ _ _ _ us hl => match us, hl with | [_], _ => rfl), C_TurnError := CTurnError, M_TurnError := PySem.W.mg_of X G x1TurnError, q_TurnError := x2TurnError, k_TurnError := x3TurnError, r_TurnError := x4TurnError, t_TurnError := x5TurnError, X_TurnError := ⟨x6TurnError, x7TurnError, x4TurnError, x8TurnError, x9TurnError, oN, oT, xaTurnError⟩, C_BadMany := CBadMany, M_BadMany := PySem.W.mg_of X G x1BadMany, q_BadMany := x2BadMany, k_BadMany := x3BadMany, r_BadMany := x4BadMany, t_BadMany := x5BadMany, X_BadMany := ⟨x6BadMany, x7BadMany, x4BadMany, x8BadMany, x9BadMany, oN, oT, xaBadMany⟩, C_BadBenches := CBadBenches, M_BadBenches := PySem.W.mg_of X G x1BadBenches, q_BadBenches := x2BadBenches, k_BadBenches := x3BadBenches, r_BadBenches := x4BadBenches, t_BadBenches := x5BadBenches, X_BadBenches := ⟨x6BadBenches, x7BadBenches, x4BadBenches, x8BadBenches, x9BadBenches, oN, oT, xaBadBenches⟩, C_BadHall := CBadHall, M_BadHall := PySem.W.mg_of X G x1BadHall, q_BadHall := x2BadHall, k_BadHall := x3BadHall, r_BadHall := x4BadHall, t_BadHall := x5BadHall, X_BadHall := ⟨x6BadHall, x7BadHall, x4BadHall, x8BadHall, x9BadHall, oN, oT, xaBadHall⟩, cl_Hall := ⟨u2Hall, u3Hall, u4Hall, u5Hall⟩, ic_Hall := ⟨⟨u2Hall, u3Hall, u4Hall, u5Hall⟩, u8Hall, oN, oT, u9Hall, by simp only [List.mem_cons, List.not_mem_nil, or_false, forall_eq_or_imp, forall_eq]; exact ⟨vNoneTypeHall, vboolHall, vintHall, vstrHall, vtupleHall, vlistHall, vdictHall⟩⟩, mk_Hall := ⟨u6Hall, a13, i13, u7Hall⟩, nf_Hall_benches := nfHallbenches, nf_Hall_many := nfHallmany, g_MOST_TURNERS := ⟨_, PySem.W.mg_of X G gMOST_TURNERS⟩, g_MOST_BENCHES := ⟨_, PySem.W.mg_of X G gMOST_BENCHES⟩, g_MOST_CREW := ⟨_, PySem.W.mg_of X G gMOST_CREW⟩, z_abs := PySem.W.mg_none_of X G zabs, z_all := PySem.W.mg_none_of X G zall, z_bool := PySem.W.mg_none_of X G zbool, z_enumerate := PySem.W.mg_none_of X G zenumerate, z_int := PySem.W.mg_none_of X G zint, z_isinstance := PySem.W.mg_none_of X G zisinstance, z_len := PySem.W.mg_none_of X G zlen, z_list := PySem.W.mg_none_of X G zlist, z_min := PySem.W.mg_none_of X G zmin, z_range := PySem.W.mg_none_of X G zrange, z_repr := PySem.W.mg_none_of X G zrepr, z_sorted := PySem.W.mg_none_of X G zsorted, z_sum := PySem.W.mg_none_of X G zsum, z_tuple := PySem.W.mg_none_of X G ztuple, z_zip := PySem.W.mg_none_of X G zzip, c_first_of := tc15, P_first_of := tP15, e_first_of := te15, y_BadMany := PySem.W.exm_ref x4TurnError x8TurnError x5TurnError yBadMany, y_BadBenches := PySem.W.exm_ref x4TurnError x8TurnError x5TurnError yBadBenches, y_BadHall := PySem.W.exm_ref x4TurnError x8TurnError x5TurnError yBadHall }
  have AF : AxF_k22 T.ax := { lk_BadMany := rfl, mm_BadMany := by simp [Top.caught, T], lk_BadBenches := rfl, mm_BadBenches := by simp [Top.caught, T], lk_BadHall := rfl, mm_BadHall := by simp [Top.caught, T], kt_Hall_NoneType := ktHallNoneType, kt_Hall_bool := ktHallbool, kt_Hall_int := ktHallint, kt_Hall_str := ktHallstr, kt_Hall_tuple := ktHalltuple, kt_Hall_list := ktHalllist, kt_Hall_dict := ktHalldict, kt_Hall := ktHall }
  letI tt : TabT := ⟨T.tabs⟩
  obtain ⟨cd15', tb15'⟩ := hts _ _ _ _ tr15 tb15
  have nk15 : K.lookup tP15 = none := by
    cases e : K.lookup tP15 with
    | none => rfl
    | some o =>
      have e2 := X _ _ e
      rw [tb15'] at e2
      cases e2
      have z := List.all_eq_true.mp nt _ (PySem.W.mem_of_lookupK e)
      exact absurd (show false = true from z) Bool.false_ne_true
  refine ⟨⟨T.tabs⟩, T.d_law, [(tc15, tP15)], m_law_v43 T.ax, fun p hp => ?_, fun p hp => by
    simp only [List.mem_cons, List.not_mem_nil, or_false] at hp
    subst hp
    · exact tb15', fun p hp => by
    simp only [List.mem_cons, List.not_mem_nil, or_false] at hp
    subst hp
    · exact nk15, fun p hp => by
    simp only [List.mem_cons, List.not_mem_nil, or_false] at hp
    subst hp
    · exact cd15', fun s u => bindK T.F_law (fun _ _ _ _ _ _ => rfl) s, fun ns h1 h2 => law_true T.ax AF ns h1 h2, fun base kb nb tb => @fng_any ⟨T.tabs⟩ _ _ _ _ _ _ _ _ _ _ _ _ (by decide) (@w_law ⟨T.tabs⟩ l.prog w K mg base T (@Tb.mk ⟨T.tabs⟩ K mg T base rfl (tb _ (List.mem_cons_self))))⟩
  have hp : p ∈ T.tabs := hp
  unfold Top.tabs at hp
  simp only [List.mem_cons, List.not_mem_nil, or_false] at hp
  subst hp
  all_goals simp [T]
end DX
open PySem PySem.W PyProof.Rows
set_option maxRecDepth 100000 in
set_option maxHeartbeats 0 in
theorem PySem.Challenge.cw_leftminus_k22_whole_a_signing_or_an_odd_holds : PySem.Challenge.rw_leftminus_k22_whole_a_signing_or_an_odd.Holds := by
  w_on; o_law; k_head; (case hw => w_witness2)
  k_fill
  refine DX.walkG (l := PySem.Challenge.rw_leftminus_k22_whole_a_signing_or_an_odd) (n := 63) (k := 11) (x := "_law_script") rfl (by decide) rfl ⟨rfl, by decide, by decide⟩ (fun w h Y => by first | exact PySem.W.kIn_of Y | exact PySem.W.km_in_of Y) ?F
  case F =>
    intro w mg fa h Y KX G hts hmg
    refine' DX.all_mk KX G hmg hts ?u1Hall ?a0 ?l0 ?c0 ?k0 ?a1 ?l1 ?c1 ?k1 ?a2 ?l2 ?c2 ?k2 ?a3 ?l3 ?c3 ?k3 ?a4 ?l4 ?c4 ?k4 ?a5 ?l5 ?c5 ?k5 ?a6 ?l6 ?c6 ?k6 ?a7 ?l7 ?c7 ?k7 ?a8 ?l8 ?c8 ?k8 ?a9 ?l9 ?c9 ?k9 ?a10 ?l10 ?c10 ?k10 ?a11 ?l11 ?c11 ?k11 ?a12 ?l12 ?c12 ?k12 ?a13 ?l13 ?c13 ?k13 ?i13 ?a14 ?l14 ?c14 ?k14 ?a15 ?l15 ?c15 ?k15 ?a16 ?l16 ?c16 ?k16 ?a17 ?l17 ?c17 ?k17 ?a18 ?l18 ?c18 ?k18 ?a19 ?l19 ?c19 ?k19 ?a20 ?l20 ?c20 ?k20 ?a21 ?l21 ?c21 ?k21 ?a22 ?l22 ?c22 ?k22 ?a23 ?l23 ?c23 ?k23 ?a24 ?l24 ?c24 ?k24 ?a25 ?l25 ?c25 ?k25 ?a26 ?l26 ?c26 ?k26 ?a27 ?l27 ?c27 ?k27 ?a28 ?l28 ?c28 ?k28 ?a29 ?l29 ?c29 ?k29 ?a30 ?l30 ?c30 ?k30 ?a31 ?l31 ?c31 ?k31 ?a32 ?l32 ?c32 ?k32 ?a33 ?l33 ?c33 ?k33 ?a34 ?l34 ?c34 ?k34 ?a35 ?l35 ?c35 ?k35 ?a36 ?l36 ?c36 ?k36 ?a37 ?l37 ?c37 ?k37 ?a38 ?l38 ?c38 ?k38 ?a39 ?l39 ?c39 ?k39 ?a40 ?l40 ?c40 ?k40 ?a41 ?l41 ?c41 ?k41 ?a42 ?l42 ?c42 ?k42 ?a43 ?l43 ?c43 ?k43 ?a44 ?l44 ?c44 ?k44 ?a45 ?l45 ?c45 ?k45 ?a46 ?l46 ?c46 ?k46 ?a47 ?l47 ?c47 ?k47 ?a48 ?l48 ?c48 ?k48 ?a49 ?l49 ?c49 ?k49 ?a50 ?l50 ?c50 ?k50 ?a51 ?l51 ?c51 ?k51 ?oN ?oT ?x1TurnError ?x2TurnError ?x3TurnError ?x4TurnError ?x5TurnError ?x6TurnError ?x7TurnError ?x8TurnError ?x9TurnError ?xaTurnError ?x1BadMany ?x2BadMany ?x3BadMany ?x4BadMany ?x5BadMany ?x6BadMany ?x7BadMany ?x8BadMany ?x9BadMany ?xaBadMany ?x1BadBenches ?x2BadBenches ?x3BadBenches ?x4BadBenches ?x5BadBenches ?x6BadBenches ?x7BadBenches ?x8BadBenches ?x9BadBenches ?xaBadBenches ?x1BadHall ?x2BadHall ?x3BadHall ?x4BadHall ?x5BadHall ?x6BadHall ?x7BadHall ?x8BadHall ?x9BadHall ?xaBadHall ?u2Hall ?u3Hall ?u4Hall ?u5Hall ?vNoneTypeHall ?vboolHall ?vintHall ?vstrHall ?vtupleHall ?vlistHall ?vdictHall ?u8Hall ?u9Hall ?u6Hall ?u7Hall ?nfHallbenches ?nfHallmany ?gMOST_TURNERS ?gMOST_BENCHES ?gMOST_CREW ?zabs ?zall ?zbool ?zenumerate ?zint ?zisinstance ?zlen ?zlist ?zmin ?zrange ?zrepr ?zsorted ?zsum ?ztuple ?zzip ?tb15 ?tr15 ?te15 ?nt ?yBadMany ?yBadBenches ?yBadHall ?ktHallNoneType ?ktHallbool ?ktHallint ?ktHallstr ?ktHalltuple ?ktHalllist ?ktHalldict ?ktHall
    (case u1Hall => k_is)
    (case a0 => k_is)
    (case l0 => k_is)
    (case c0 => k_is)
    (case k0 => k_is)
    (case a1 => k_is)
    (case l1 => k_is)
    (case c1 => k_is)
    (case k1 => k_is)
    (case a2 => k_is)
    (case l2 => k_is)
    (case c2 => k_is)
    (case k2 => k_is)
    (case a3 => k_is)
    (case l3 => k_is)
    (case c3 => k_is)
    (case k3 => k_is)
    (case a4 => k_is)
    (case l4 => k_is)
    (case c4 => k_is)
    (case k4 => k_is)
    (case a5 => k_is)
    (case l5 => k_is)
    (case c5 => k_is)
    (case k5 => k_is)
    (case a6 => k_is)
    (case l6 => k_is)
    (case c6 => k_is)
    (case k6 => k_is)
    (case a7 => k_is)
    (case l7 => k_is)
    (case c7 => k_is)
    (case k7 => k_is)
    (case a8 => k_is)
    (case l8 => k_is)
    (case c8 => k_is)
    (case k8 => k_is)
    (case a9 => k_is)
    (case l9 => k_is)
    (case c9 => k_is)
    (case k9 => k_is)
    (case a10 => k_is)
    (case l10 => k_is)
    (case c10 => k_is)
    (case k10 => k_is)
    (case a11 => k_is)
    (case l11 => k_is)
    (case c11 => k_is)
    (case k11 => k_is)
    (case a12 => k_is)
    (case l12 => k_is)
    (case c12 => k_is)
    (case k12 => k_is)
    (case a13 => k_is)
    (case l13 => k_is)
    (case c13 => k_is)
    (case k13 => k_is)
    (case i13 => k_is)
    (case a14 => k_is)
    (case l14 => k_is)
    (case c14 => k_is)
    (case k14 => k_is)
    (case a15 => k_is)
    (case l15 => k_is)
    (case c15 => k_is)
    (case k15 => k_is)
    (case a16 => k_is)
    (case l16 => k_is)
    (case c16 => k_is)
    (case k16 => k_is)
    (case a17 => k_is)
    (case l17 => k_is)
    (case c17 => k_is)
    (case k17 => k_is)
    (case a18 => k_is)
    (case l18 => k_is)
    (case c18 => k_is)
    (case k18 => k_is)
    (case a19 => k_is)
    (case l19 => k_is)
    (case c19 => k_is)
    (case k19 => k_is)
    (case a20 => k_is)
    (case l20 => k_is)
    (case c20 => k_is)
    (case k20 => k_is)
    (case a21 => k_is)
    (case l21 => k_is)
    (case c21 => k_is)
    (case k21 => k_is)
    (case a22 => k_is)
    (case l22 => k_is)
    (case c22 => k_is)
    (case k22 => k_is)
    (case a23 => k_is)
    (case l23 => k_is)
    (case c23 => k_is)
    (case k23 => k_is)
    (case a24 => k_is)
    (case l24 => k_is)
    (case c24 => k_is)
    (case k24 => k_is)
    (case a25 => k_is)
    (case l25 => k_is)
    (case c25 => k_is)
    (case k25 => k_is)
    (case a26 => k_is)
    (case l26 => k_is)
    (case c26 => k_is)
    (case k26 => k_is)
    (case a27 => k_is)
    (case l27 => k_is)
    (case c27 => k_is)
    (case k27 => k_is)
    (case a28 => k_is)
    (case l28 => k_is)
    (case c28 => k_is)
    (case k28 => k_is)
    (case a29 => k_is)
    (case l29 => k_is)
    (case c29 => k_is)
    (case k29 => k_is)
    (case a30 => k_is)
    (case l30 => k_is)
    (case c30 => k_is)
    (case k30 => k_is)
    (case a31 => k_is)
    (case l31 => k_is)
    (case c31 => k_is)
    (case k31 => k_is)
    (case a32 => k_is)
    (case l32 => k_is)
    (case c32 => k_is)
    (case k32 => k_is)
    (case a33 => k_is)
    (case l33 => k_is)
    (case c33 => k_is)
    (case k33 => k_is)
    (case a34 => k_is)
    (case l34 => k_is)
    (case c34 => k_is)
    (case k34 => k_is)
    (case a35 => k_is)
    (case l35 => k_is)
    (case c35 => k_is)
    (case k35 => k_is)
    (case a36 => k_is)
    (case l36 => k_is)
    (case c36 => k_is)
    (case k36 => k_is)
    (case a37 => k_is)
    (case l37 => k_is)
    (case c37 => k_is)
    (case k37 => k_is)
    (case a38 => k_is)
    (case l38 => k_is)
    (case c38 => k_is)
    (case k38 => k_is)
    (case a39 => k_is)
    (case l39 => k_is)
    (case c39 => k_is)
    (case k39 => k_is)
    (case a40 => k_is)
    (case l40 => k_is)
    (case c40 => k_is)
    (case k40 => k_is)
    (case a41 => k_is)
    (case l41 => k_is)
    (case c41 => k_is)
    (case k41 => k_is)
    (case a42 => k_is)
    (case l42 => k_is)
    (case c42 => k_is)
    (case k42 => k_is)
    (case a43 => k_is)
    (case l43 => k_is)
    (case c43 => k_is)
    (case k43 => k_is)
    (case a44 => k_is)
    (case l44 => k_is)
    (case c44 => k_is)
    (case k44 => k_is)
    (case a45 => k_is)
    (case l45 => k_is)
    (case c45 => k_is)
    (case k45 => k_is)
    (case a46 => k_is)
    (case l46 => k_is)
    (case c46 => k_is)
    (case k46 => k_is)
    (case a47 => k_is)
    (case l47 => k_is)
    (case c47 => k_is)
    (case k47 => k_is)
    (case a48 => k_is)
    (case l48 => k_is)
    (case c48 => k_is)
    (case k48 => k_is)
    (case a49 => k_is)
    (case l49 => k_is)
    (case c49 => k_is)
    (case k49 => k_is)
    (case a50 => k_is)
    (case l50 => k_is)
    (case c50 => k_is)
    (case k50 => k_is)
    (case a51 => k_is)
    (case l51 => k_is)
    (case c51 => k_is)
    (case k51 => k_is)
    (case oN => k_is)
    (case oT => k_is)
    (case x1TurnError => k_is)
    (case x2TurnError => k_exc)
    (case x3TurnError => k_is)
    (case x4TurnError => k_is)
    (case x5TurnError => k_is)
    (case x6TurnError => k_is)
    (case x7TurnError => k_is)
    (case x8TurnError => k_is)
    (case x9TurnError => k_is)
    (case xaTurnError => k_is)
    (case x1BadMany => k_is)
    (case x2BadMany => k_exc)
    (case x3BadMany => k_is)
    (case x4BadMany => k_is)
    (case x5BadMany => k_is)
    (case x6BadMany => k_is)
    (case x7BadMany => k_is)
    (case x8BadMany => k_is)
    (case x9BadMany => k_is)
    (case xaBadMany => k_is)
    (case x1BadBenches => k_is)
    (case x2BadBenches => k_exc)
    (case x3BadBenches => k_is)
    (case x4BadBenches => k_is)
    (case x5BadBenches => k_is)
    (case x6BadBenches => k_is)
    (case x7BadBenches => k_is)
    (case x8BadBenches => k_is)
    (case x9BadBenches => k_is)
    (case xaBadBenches => k_is)
    (case x1BadHall => k_is)
    (case x2BadHall => k_exc)
    (case x3BadHall => k_is)
    (case x4BadHall => k_is)
    (case x5BadHall => k_is)
    (case x6BadHall => k_is)
    (case x7BadHall => k_is)
    (case x8BadHall => k_is)
    (case x9BadHall => k_is)
    (case xaBadHall => k_is)
    (case u2Hall => k_is)
    (case u3Hall => k_is)
    (case u4Hall => k_is)
    (case u5Hall => k_is)
    (case vNoneTypeHall => first | kernel_rfl | exact rfl)
    (case vboolHall => first | kernel_rfl | exact rfl)
    (case vintHall => first | kernel_rfl | exact rfl)
    (case vstrHall => first | kernel_rfl | exact rfl)
    (case vtupleHall => first | kernel_rfl | exact rfl)
    (case vlistHall => first | kernel_rfl | exact rfl)
    (case vdictHall => first | kernel_rfl | exact rfl)
    (case u8Hall => k_is)
    (case u9Hall => k_is)
    (case u6Hall => k_is)
    (case u7Hall => k_is)
    (case nfHallbenches => k_is)
    (case nfHallmany => k_is)
    (case gMOST_TURNERS => k_is)
    (case gMOST_BENCHES => k_is)
    (case gMOST_CREW => k_is)
    (case zabs => k_is)
    (case zall => k_is)
    (case zbool => k_is)
    (case zenumerate => k_is)
    (case zint => k_is)
    (case zisinstance => k_is)
    (case zlen => k_is)
    (case zlist => k_is)
    (case zmin => k_is)
    (case zrange => k_is)
    (case zrepr => k_is)
    (case zsorted => k_is)
    (case zsum => k_is)
    (case ztuple => k_is)
    (case zzip => k_is)
    (case tb15 => first | exact rfl | kernel_rfl)
    (case tr15 => first | rfl | k_is)
    (case te15 => first | rfl | k_is)
    (case nt => first | k_is | rfl | decide +kernel)
    (case yBadMany => k_is)
    (case yBadBenches => k_is)
    (case yBadHall => k_is)
    (case ktHallNoneType => first | kernel_rfl | exact rfl)
    (case ktHallbool => first | kernel_rfl | exact rfl)
    (case ktHallint => first | kernel_rfl | exact rfl)
    (case ktHallstr => first | kernel_rfl | exact rfl)
    (case ktHalltuple => first | kernel_rfl | exact rfl)
    (case ktHalllist => first | kernel_rfl | exact rfl)
    (case ktHalldict => first | kernel_rfl | exact rfl)
    (case ktHall => first | kernel_rfl | exact rfl)
