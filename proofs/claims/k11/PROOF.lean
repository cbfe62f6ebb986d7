import PyProof.Rows.All
import Wide.All
import OpenK.AllK
import Wide.FinOn
import HandS.ForMost
import HandS.Exc
import HandS.ExcOwn
import HandS.WordsExc
import HandS.Walk
import HandS.Lambda
import HandS.TupAny
import HandS.TupMul
import HandS.WideBits
import HandS.IsInst
import HandS.TupLe
import HandS.Flow
import PyProof.ReprRoads
import HandS.RaiseMore
import HandS.Zip
import KE.GoesEnum
import KE.GoesNew
import HandS.Style
import HandS.StrMore
import HandS.ExcValue
import HandS.ExcIs
import KE.KIsAll
import HandS.EndTab
import KE.KNest
import HandS.Conv
import HandS.Comp
import PyProof.ListStr
import HandS.More
import HandS.NoneIn
import HandS.Keys
import HandS.TupSets
import HandS.SortInts
import HandS.Star
import KE.BitLaws
import KE.KSortTupAny
import KE.GoesMore
import PyProof.SliceStr2
import KE.KExcSuper
import KE.KSuper
import KE.KExcLine
import HandS.ExcField
import HandS.OwnEq
import HandS.FStr
import HandS.Strs
import HandS.RevTup
import HandS.MapObj
import HandS.TupLen
import HandS.Rev
import KE.KDictZip
import HandS.DictComp
import KE.SortData
import KE.DataMinMax
import KE.KEqDict
import HandS.ListEq
import HandS.Deep
import HandS.SetFor
import PyProof.EqKinds
import KE.OsMirror
import PyProof.StrLawsIn
import PyProof.ReprLen
import PyProof.FitsInt
import PySem.Challenge.RW_leftminus_k11_what_is_no_move
set_option Elab.async false
set_option linter.all false
set_option maxRecDepth 100000
set_option maxHeartbeats 4000000
namespace DX
/-- the tables of code objects that are looked at -/
class TabT where
  T : List (PySem.Addr × PySem.Str)
variable [TabT]
open PySem L2
abbrev Frag := PySem.W.Frag
/-- a lambda without parameters, as it is made: its name, its text, the cells of the frame that makes it -/
structure LamK where
  q : Str
  pa : Arguments
  bd : Expr
  sc : Scope
  cl : List (Str × Addr)
/-- the function at f is this lambda -/
def LamO (f c' : Addr) (L : LamK) : HO := .ext fun h => ∃ pm ctv : Value, h.get? f = some (PySem.W.kla_obj "<lambda>" L.q L.pa L.bd L.sc (cloFrom L.cl L.sc.names []) pm c' ctv)
inductive Dt where
  | non | bl (b : Bool) | int (i : Int) | str (s : Str)
  | tup (l : List Dt) | lst (l : List Dt) | dic (l : List (Key × Dt)) | obj (C : Addr) (l : List (Str × Dt))
  | op (v : V) | scr (l : List Int) | exn (C : Addr) (l : List (Str × Dt)) | dit (l : List (List Key × Dt)) | lam (k : Nat) (L : LamK)
inductive Wv where
  | dat (d : Dt) | cel (k : Nat)
inductive Cell where
  | lst (l : List Wv) | dic (l : List (Key × Wv)) | ins (C : Addr) (l : List (Str × Wv)) | dead | lck (l : List (Key × Wv)) | dit (b : Bool) (l : List (List Key × Wv))
/-- an own class whose instances are looked at -/
structure OwnC (K : Frag) (C : Addr) : Prop where
  cl : Cls K C
  ha : PySem.W.findIn K (.ref C) "__class__" = some (some (.builtin "object.__class__"))
  hn : PySem.W.specialIn K (.builtin "object.__class__") "__get__" = some (some (.builtin "getset_descriptor.__get__"))
  ht : PySem.W.takesIn K (.builtin "object.__class__") = some true
  hm : PySem.W.mroIn K C (.type "object") = some true
  kt : ∀ m ∈ (["NoneType", "bool", "int", "str", "tuple", "list", "dict"] : List String), PySem.W.kitOne K (.ref C) (.type m) = some false
/-- a tuple, tracked -/
structure TupAt (K : Frag) (H : Hp) (a : Addr) (xs : List V) : Prop where
  at_ : H a = some (.tup xs)
theorem TupAt.sq {K : Frag} {H : Hp} {a : Addr} {xs : List V} (h : TupAt K H a xs) : SqT K H a xs := .inl (.inl h.at_)
/-- an exception of an own class that was caught, at a; its dict -/
def ExT (C : Addr) (d : Option Addr) (a : Addr) : HO := .ext fun h => ∃ (oe : Obj) (vs : Array Value), h.get? a = some oe ∧ Zc (.ref C) d oe ∧ oe.data = .fields vs
/-- what its dict holds -/
def ExF (H : Hp) (d : Option Addr) (xs : List (Str × V)) : Prop := (d = none ∧ xs = []) ∨ (xs ≠ [] ∧ ∃ dd, d = some dd ∧ H dd = some (.xd xs))
mutual
inductive RepD (K : Frag) (H : Hp) : V → Dt → Prop
  | non : RepD K H .non .non
  | bl (b : Bool) : RepD K H (.bl b) (.bl b)
  | int (i : Int) : RepD K H (.int i) (.int i)
  | str (s : Str) : RepD K H (.str s) (.str s)
  | tup {a : Addr} {xs : List V} {ds : List Dt} : TupAt K H a xs → RepL K H xs ds → RepD K H (.ref a) (.tup ds)
  | lst {a : Addr} {xs : List V} {ds : List Dt} : H a = some (.lst xs) → RepL K H xs ds → RepD K H (.ref a) (.lst ds)
  | dic {a : Addr} {xs : List (Key × V)} {ds : List (Key × Dt)} : H a = some (.dK xs) → RepK K H xs ds → RepD K H (.ref a) (.dic ds)
  | obj {a C dx : Addr} {xs : List (Str × V)} {ds : List (Str × Dt)} : H a = some (.ins C dx xs) → OwnC K C → RepF K H xs ds → RepD K H (.ref a) (.obj C ds)
  | op (v : V) : RepD K H v (.op v)
  | scr {a : Addr} {ns : List Int} : SqL K H a (ns.map V.int) → RepD K H (.ref a) (.scr ns)
  | exn {a C : Addr} {d : Option Addr} {xs : List (Str × V)} {ds : List (Str × Dt)} : H a = some (ExT C d a) → ExF H d xs → RepF K H xs ds → RepD K H (.ref a) (.exn C ds)
  | dit {a : Addr} {xs : List (List Key × V)} {ds : List (List Key × Dt)} : H a = some (.dT xs) → RepT K H xs ds → RepD K H (.ref a) (.dit ds)
  | lam {f c' : Addr} {k : Nat} {L : LamK} : H f = some (LamO f c' L) → H c' = some (LamX.CodeO c' L.q) → RepD K H (.ref f) (.lam k L)
inductive RepL (K : Frag) (H : Hp) : List V → List Dt → Prop
  | nil : RepL K H [] []
  | cons {v : V} {vs : List V} {d : Dt} {ds : List Dt} : RepD K H v d → RepL K H vs ds → RepL K H (v :: vs) (d :: ds)
inductive RepK (K : Frag) (H : Hp) : List (Key × V) → List (Key × Dt) → Prop
  | nil : RepK K H [] []
  | cons {k : Key} {v : V} {vs : List (Key × V)} {d : Dt} {ds : List (Key × Dt)} : RepD K H v d → RepK K H vs ds → RepK K H ((k, v) :: vs) ((k, d) :: ds)
inductive RepT (K : Frag) (H : Hp) : List (List Key × V) → List (List Key × Dt) → Prop
  | nil : RepT K H [] []
  | cons {k : List Key} {v : V} {vs : List (List Key × V)} {d : Dt} {ds : List (List Key × Dt)} : RepD K H v d → RepT K H vs ds → RepT K H ((k, v) :: vs) ((k, d) :: ds)
inductive RepF (K : Frag) (H : Hp) : List (Str × V) → List (Str × Dt) → Prop
  | nil : RepF K H [] []
  | cons {k : Str} {v : V} {vs : List (Str × V)} {d : Dt} {ds : List (Str × Dt)} : RepD K H v d → RepF K H vs ds → RepF K H ((k, v) :: vs) ((k, d) :: ds)
end
/-- all that H tells H' tells -/
def Ex (H H' : Hp) : Prop := ∀ a o, H a = some o → H' a = some o
theorem Ex.refl (H : Hp) : Ex H H := fun _ _ h => h
theorem Ex.trans {H H1 H2 : Hp} (a : Ex H H1) (b : Ex H1 H2) : Ex H H2 := fun x o h => b x o (a x o h)
theorem Ex.new {H : Hp} {p : Addr} {o : HO} (h : H p = none) : Ex H (upd H p o) := fun a u e => by
  rw [upd_ne (ne_of_none e h)]
  exact e
theorem Ex.out {H H' : Hp} {p : Addr} {o : HO} (e : Ex H H') (h : H p = none) : Ex H (upd H' p o) := fun a u ha => by
  rw [upd_ne (ne_of_none ha h)]
  exact e a u ha
theorem Ex.both {H H' : Hp} {p : Addr} {o : HO} (e : Ex H H') : Ex (upd H p o) (upd H' p o) := fun a u ha => by
  by_cases h : a = p
  · subst h
    rw [upd_same] at ha ⊢
    exact ha
  · rw [upd_ne h] at ha ⊢
    exact e a u ha
theorem Ex.back {H H' : Hp} {p : Addr} (e : Ex H H') (h : H' p = none) : H p = none := by
  cases h1 : H p with
  | none => rfl
  | some o =>
    rw [e p o h1] at h
    cases h
theorem ex_rd {H H' : Hp} {a : Addr} {u : HO} (e : Ex H H') (h : Rd H a u) : Rd H' a u := by
  rcases h with h | ⟨o, h⟩
  · exact Or.inl (e a _ h)
  · exact Or.inr ⟨o, e a _ h⟩
theorem ex_l {K : Frag} {H H' : Hp} {a : Addr} {xs : List V} (e : Ex H H') (h : SqL K H a xs) : SqL K H' a xs := by
  rcases h with h | h
  · exact Or.inl (ex_rd e h)
  · exact Or.inr h
theorem ex_t {K : Frag} {H H' : Hp} {a : Addr} {xs : List V} (e : Ex H H') (h : TupAt K H a xs) : TupAt K H' a xs := ⟨e a _ h.at_⟩
mutual
theorem RepD.mono {K : Frag} {H H' : Hp} (e : Ex H H') : ∀ (d : Dt) (v : V), RepD K H v d → RepD K H' v d
  | .non, _, h => by cases h; exact .non
  | .bl b, _, h => by cases h; exact .bl b
  | .int i, _, h => by cases h; exact .int i
  | .str s, _, h => by cases h; exact .str s
  | .tup ds, _, h => by
    cases h with
    | tup hs hl => exact .tup (ex_t e hs) (RepL.mono e ds _ hl)
  | .lst ds, _, h => by
    cases h with
    | lst hs hl => exact .lst (e _ _ hs) (RepL.mono e ds _ hl)
  | .dic ds, _, h => by
    cases h with
    | dic hs hl => exact .dic (e _ _ hs) (RepK.mono e ds _ hl)
  | .obj C ds, _, h => by
    cases h with
    | obj hs hc hl => exact .obj (e _ _ hs) hc (RepF.mono e ds _ hl)
  | .op v, _, h => by cases h; exact .op v
  | .exn C ds, _, h => by
    cases h with
    | exn hs hd hl => exact .exn (e _ _ hs) (hd.elim .inl fun ⟨n, dd, e1, e2⟩ => .inr ⟨n, dd, e1, e _ _ e2⟩) (RepF.mono e ds _ hl)
  | .scr l, _, h => by
    cases h with
    | scr hs => exact .scr (ex_l e hs)
  | .dit ds, _, h => by
    cases h with
    | dit hs hl => exact .dit (e _ _ hs) (RepT.mono e ds _ hl)
  | .lam k L, _, h => by
    cases h with
    | lam h1 h2 => exact .lam (e _ _ h1) (e _ _ h2)
theorem RepT.mono {K : Frag} {H H' : Hp} (e : Ex H H') : ∀ (ds : List (List Key × Dt)) (vs : List (List Key × V)), RepT K H vs ds → RepT K H' vs ds
  | [], _, h => by cases h; exact .nil
  | (k, d) :: ds, _, h => by
    cases h with
    | cons h1 h2 => exact .cons (RepD.mono e d _ h1) (RepT.mono e ds _ h2)
theorem RepL.mono {K : Frag} {H H' : Hp} (e : Ex H H') : ∀ (ds : List Dt) (vs : List V), RepL K H vs ds → RepL K H' vs ds
  | [], _, h => by cases h; exact .nil
  | d :: ds, _, h => by
    cases h with
    | cons h1 h2 => exact .cons (RepD.mono e d _ h1) (RepL.mono e ds _ h2)
theorem RepK.mono {K : Frag} {H H' : Hp} (e : Ex H H') : ∀ (ds : List (Key × Dt)) (vs : List (Key × V)), RepK K H vs ds → RepK K H' vs ds
  | [], _, h => by cases h; exact .nil
  | (k, d) :: ds, _, h => by
    cases h with
    | cons h1 h2 => exact .cons (RepD.mono e d _ h1) (RepK.mono e ds _ h2)
theorem RepF.mono {K : Frag} {H H' : Hp} (e : Ex H H') : ∀ (ds : List (Str × Dt)) (vs : List (Str × V)), RepF K H vs ds → RepF K H' vs ds
  | [], _, h => by cases h; exact .nil
  | (k, d) :: ds, _, h => by
    cases h with
    | cons h1 h2 => exact .cons (RepD.mono e d _ h1) (RepF.mono e ds _ h2)
end
theorem RepL.len {K : Frag} {H : Hp} : ∀ {vs : List V} {ds : List Dt}, RepL K H vs ds → vs.length = ds.length
  | [], _, h => by cases h; rfl
  | v :: vs, _, h => by
    cases h with
    | cons h1 h2 => simp [RepL.len h2]
theorem RepL.get {K : Frag} {H : Hp} : ∀ {vs : List V} {ds : List Dt} {i : Nat} {d : Dt}, RepL K H vs ds → ds[i]? = some d → ∃ v, vs[i]? = some v ∧ RepD K H v d
  | [], _, i, d, h, e => by cases h; simp at e
  | v :: vs, _, i, d, h, e => by
    cases h with
    | cons h1 h2 =>
      cases i with
      | zero =>
        simp at e
        subst e
        exact ⟨v, rfl, h1⟩
      | succ i =>
        simp at e
        obtain ⟨u, q1, q2⟩ := RepL.get h2 e
        exact ⟨u, by simpa using q1, q2⟩
theorem RepL.app {K : Frag} {H : Hp} : ∀ {vs us : List V} {ds es : List Dt}, RepL K H vs ds → RepL K H us es → RepL K H (vs ++ us) (ds ++ es)
  | [], _, _, _, h, g => by cases h; exact g
  | v :: vs, _, _, _, h, g => by
    cases h with
    | cons h1 h2 => exact .cons h1 (RepL.app h2 g)
theorem RepL.take {K : Frag} {H : Hp} : ∀ {vs : List V} {ds : List Dt} (n : Nat), RepL K H vs ds → RepL K H (vs.take n) (ds.take n)
  | [], _, n, h => by cases h; simp; exact .nil
  | v :: vs, _, n, h => by
    cases h with
    | cons h1 h2 =>
      cases n with
      | zero => exact .nil
      | succ n => exact .cons h1 (RepL.take n h2)
theorem RepL.drop {K : Frag} {H : Hp} : ∀ {vs : List V} {ds : List Dt} (n : Nat), RepL K H vs ds → RepL K H (vs.drop n) (ds.drop n)
  | [], _, n, h => by cases h; simp; exact .nil
  | v :: vs, _, n, h => by
    cases h with
    | cons h1 h2 =>
      cases n with
      | zero => exact .cons h1 h2
      | succ n => exact RepL.drop n h2
structure Wo where
  Hs : Hp
  ad : List Addr
  T : Addr → Option (Obj × HO)
  fr : Hp
def RepW (K : Frag) (ω : Wo) (v : V) : Wv → Prop
  | .dat d => RepD K ω.Hs v d
  | .cel k => ∃ a, ω.ad[k]? = some a ∧ v = .ref a
structure Le (ω ω' : Wo) : Prop where
  ex : Ex ω.Hs ω'.Hs
  ad : ω.ad <+: ω'.ad
  tb : ω'.T = ω.T
  fr : ω'.fr = ω.fr
theorem Le.refl (ω : Wo) : Le ω ω := ⟨Ex.refl _, List.prefix_refl _, rfl, rfl⟩
theorem Le.trans {a b c : Wo} (h : Le a b) (g : Le b c) : Le a c := ⟨h.ex.trans g.ex, h.ad.trans g.ad, g.tb.trans h.tb, g.fr.trans h.fr⟩
theorem Le.at {ω ω' : Wo} (h : Le ω ω') {k : Nat} {a : Addr} (e : ω.ad[k]? = some a) : ω'.ad[k]? = some a := by
  obtain ⟨t, ht⟩ := h.ad
  have hk : k < ω.ad.length := by
    cases q : (decide (k < ω.ad.length)) with
    | true => exact of_decide_eq_true q
    | false =>
      rw [List.getElem?_eq_none (by have := of_decide_eq_false q; omega)] at e
      cases e
  rw [← ht, List.getElem?_append_left hk]
  exact e
theorem RepW.mono {K : Frag} {ω ω' : Wo} {v : V} {w : Wv} (l : Le ω ω') (h : RepW K ω v w) : RepW K ω' v w := by
  cases w with
  | dat d => exact RepD.mono l.ex d v h
  | cel k =>
    obtain ⟨a, e1, e2⟩ := h
    exact ⟨a, l.at e1, e2⟩
inductive RepWs (K : Frag) (ω : Wo) : List V → List Wv → Prop
  | nil : RepWs K ω [] []
  | cons {v : V} {vs : List V} {w : Wv} {ws : List Wv} : RepW K ω v w → RepWs K ω vs ws → RepWs K ω (v :: vs) (w :: ws)
inductive RepWk (K : Frag) (ω : Wo) : List (Key × V) → List (Key × Wv) → Prop
  | nil : RepWk K ω [] []
  | cons {k : Key} {v : V} {vs : List (Key × V)} {w : Wv} {ws : List (Key × Wv)} : RepW K ω v w → RepWk K ω vs ws → RepWk K ω ((k, v) :: vs) ((k, w) :: ws)
inductive RepWt (K : Frag) (ω : Wo) : List (List Key × V) → List (List Key × Wv) → Prop
  | nil : RepWt K ω [] []
  | cons {k : List Key} {v : V} {vs : List (List Key × V)} {w : Wv} {ws : List (List Key × Wv)} : RepW K ω v w → RepWt K ω vs ws → RepWt K ω ((k, v) :: vs) ((k, w) :: ws)
inductive RepWf (K : Frag) (ω : Wo) : List (Str × V) → List (Str × Wv) → Prop
  | nil : RepWf K ω [] []
  | cons {k : Str} {v : V} {vs : List (Str × V)} {w : Wv} {ws : List (Str × Wv)} : RepW K ω v w → RepWf K ω vs ws → RepWf K ω ((k, v) :: vs) ((k, w) :: ws)
theorem RepWt.mono {K : Frag} {ω ω' : Wo} (l : Le ω ω') {vs : List (List Key × V)} {ws : List (List Key × Wv)} (h : RepWt K ω vs ws) : RepWt K ω' vs ws := by
  induction h with
  | nil => exact .nil
  | cons h1 _ ih => exact .cons (h1.mono l) ih
theorem RepWf.mono {K : Frag} {ω ω' : Wo} (l : Le ω ω') {vs : List (Str × V)} {ws : List (Str × Wv)} (h : RepWf K ω vs ws) : RepWf K ω' vs ws := by
  induction h with
  | nil => exact .nil
  | cons h1 _ ih => exact .cons (h1.mono l) ih
theorem RepWs.mono {K : Frag} {ω ω' : Wo} (l : Le ω ω') {vs : List V} {ws : List Wv} (h : RepWs K ω vs ws) : RepWs K ω' vs ws := by
  induction h with
  | nil => exact .nil
  | cons h1 _ ih => exact .cons (h1.mono l) ih
theorem RepWk.mono {K : Frag} {ω ω' : Wo} (l : Le ω ω') {vs : List (Key × V)} {ws : List (Key × Wv)} (h : RepWk K ω vs ws) : RepWk K ω' vs ws := by
  induction h with
  | nil => exact .nil
  | cons h1 _ ih => exact .cons (h1.mono l) ih
theorem RepWs.len {K : Frag} {ω : Wo} {vs : List V} {ws : List Wv} (h : RepWs K ω vs ws) : vs.length = ws.length := by
  induction h with
  | nil => rfl
  | cons _ _ ih => simp [ih]
theorem RepWs.app {K : Frag} {ω : Wo} {vs us : List V} {ws zs : List Wv} (h : RepWs K ω vs ws) (g : RepWs K ω us zs) : RepWs K ω (vs ++ us) (ws ++ zs) := by
  induction h with
  | nil => exact g
  | cons h1 _ ih => exact .cons h1 ih
/-- all are data -/
def dats : List Wv → Option (List Dt)
  | [] => some []
  | .dat d :: ws => (dats ws).map (d :: ·)
  | .cel _ :: _ => none
theorem RepWs.dats {K : Frag} {ω : Wo} : ∀ {vs : List V} {ws : List Wv} {ds : List Dt}, RepWs K ω vs ws → dats ws = some ds → RepL K ω.Hs vs ds
  | _, [], _, h, e => by
    cases h
    simp [DX.dats] at e
    subst e
    exact .nil
  | _, .dat d :: ws, _, h, e => by
    cases h with
    | cons h1 h2 =>
      simp [DX.dats] at e
      obtain ⟨es, e1, rfl⟩ := e
      exact .cons h1 (RepWs.dats h2 e1)
  | _, .cel k :: ws, _, h, e => by simp [DX.dats] at e
theorem RepWs.of {K : Frag} {ω : Wo} : ∀ {vs : List V} {ds : List Dt}, RepL K ω.Hs vs ds → RepWs K ω vs (ds.map .dat)
  | _, [], h => by cases h; exact .nil
  | _, d :: ds, h => by
    cases h with
    | cons h1 h2 => exact .cons h1 (RepWs.of h2)
def NoTbl : HO → Prop
  | .tbl _ => False
  | _ => True
/-- a dict with tuple keys, locked or not -/
def DiH (b : Bool) (ω : Wo) (H : Hp) (a : Addr) (vs : List (List Key × V)) : Prop :=
  (b = false ∧ H a = some (.dT vs)) ∨ (b = true ∧ ∃ o, ω.T a = some (o, .dT vs) ∧ H a = some (.frz o (.dT vs)))
theorem DiH.at {b : Bool} {ω : Wo} {H : Hp} {a : Addr} {vs : List (List Key × V)} (h : DiH b ω H a vs) : Rd H a (.dT vs) := by
  rcases h with ⟨_, h⟩ | ⟨_, o, _, h⟩
  · exact .inl h
  · exact .inr ⟨o, h⟩
theorem DiH.there {b : Bool} {ω : Wo} {H : Hp} {a : Addr} {vs : List (List Key × V)} (h : DiH b ω H a vs) : ∃ o, H a = some o := by
  rcases h with ⟨_, h⟩ | ⟨_, o, _, h⟩
  · exact ⟨_, h⟩
  · exact ⟨_, h⟩
theorem DiH.mono {b : Bool} {ω ω' : Wo} {H H' : Hp} {a : Addr} {vs : List (List Key × V)} (ht : ∀ p, ω.T a = some p → ω'.T a = some p) (hh : ∀ u, H a = some u → H' a = some u) (h : DiH b ω H a vs) : DiH b ω' H' a vs := by
  rcases h with ⟨e, h⟩ | ⟨e, o, h1, h2⟩
  · exact .inl ⟨e, hh _ h⟩
  · exact .inr ⟨e, o, ht _ h1, hh _ h2⟩
/-- what is kept is no table and no tuple -/
def FrO : HO → Prop
  | .tbl _ => False
  | .tup _ => False
  | .ext _ => False
  | _ => True
theorem FrO.nt {o : HO} (h : FrO o) : NoTbl o := by
  cases o <;> first | exact h | exact True.intro
def CellAt (K : Frag) (ω : Wo) (H : Hp) (a : Addr) : Cell → Prop
  | .lst ws => (ω.Hs a = none ∧ ω.fr a = none) ∧ ∃ vs, H a = some (.lst vs) ∧ RepWs K ω vs ws
  | .dic ws => (ω.Hs a = none ∧ ω.fr a = none) ∧ ∃ vs, H a = some (.dK vs) ∧ RepWk K ω vs ws
  | .ins C ws => ((ω.Hs a = none ∧ ω.fr a = none) ∧ OwnC K C) ∧ ∃ dx vs, H a = some (.ins C dx vs) ∧ RepWf K ω vs ws
  | .dead => ∃ o, ω.Hs a = some o
  | .lck ws => (ω.Hs a = none ∧ ω.fr a = none) ∧ ∃ o vs, ω.T a = some (o, .dK vs) ∧ H a = some (.frz o (.dK vs)) ∧ RepWk K ω vs ws
  | .dit b ws => (ω.Hs a = none ∧ ω.fr a = none) ∧ ∃ vs, DiH b ω H a vs ∧ RepWt K ω vs ws
structure Ok (K : Frag) (ω : Wo) (H : Hp) (cs : List Cell) : Prop where
  ex : Ex ω.Hs H
  len : cs.length = ω.ad.length
  nd : ω.ad.Nodup
  cel : ∀ (k : Nat) (a : Addr) (c : Cell), ω.ad[k]? = some a → cs[k]? = some c → CellAt K ω H a c
  tab : LamX.Tabs TabT.T H
  frx : Ex ω.fr H
  dj : ∀ a o, ω.fr a = some o → ω.Hs a = none
  nt : ∀ a o, ω.Hs a = some o → NoTbl o
  nf : ∀ a o, ω.fr a = some o → FrO o
  lk : ∀ a o u, ω.T a = some (o, u) → H a = some (.frz o u)
theorem Ok.there {K : Frag} {ω : Wo} {H : Hp} {cs : List Cell} (k : Ok K ω H cs) {a : Addr} (h : a ∈ ω.ad) : ∃ o, H a = some o := by
  obtain ⟨i, hi, e⟩ := List.getElem_of_mem h
  have e1 : ω.ad[i]? = some a := by rw [List.getElem?_eq_getElem hi, e]
  have e2 : cs[i]? = some (cs[i]'(by rw [k.len]; exact hi)) := List.getElem?_eq_getElem _
  have q := k.cel i a _ e1 e2
  cases hc : cs[i]'(by rw [k.len]; exact hi) with
  | lst ws => rw [hc] at q; obtain ⟨_, vs, h1, _⟩ := q; exact ⟨_, h1⟩
  | dic ws => rw [hc] at q; obtain ⟨_, vs, h1, _⟩ := q; exact ⟨_, h1⟩
  | ins C ws => rw [hc] at q; obtain ⟨_, dx, vs, h1, _⟩ := q; exact ⟨_, h1⟩
  | dead => rw [hc] at q; obtain ⟨o, h1⟩ := q; exact ⟨o, k.ex _ _ h1⟩
  | lck ws => rw [hc] at q; obtain ⟨_, o, vs, _, h1, _⟩ := q; exact ⟨_, h1⟩
  | dit b ws => rw [hc] at q; obtain ⟨_, vs, h1, _⟩ := q; exact h1.there
/-- a new object, frozen at once -/
def Wo.froze (ω : Wo) (p : Addr) (o : HO) : Wo := ⟨upd ω.Hs p o, ω.ad, ω.T, ω.fr⟩
/-- a new object that is a cell -/
def Wo.more (ω : Wo) (p : Addr) : Wo := ⟨ω.Hs, ω.ad ++ [p], ω.T, ω.fr⟩
section
variable {K : Frag} {ω : Wo} {H : Hp} {cs : List Cell} {p : Addr} {o : HO}
theorem Le.froze (k : Ok K ω H cs) (hp : H p = none) : Le ω (ω.froze p o) := ⟨Ex.new (k.ex.back hp), List.prefix_refl _, rfl, rfl⟩
theorem Le.more : Le ω (ω.more p) := ⟨Ex.refl _, List.prefix_append _ _, rfl, rfl⟩
theorem CellAt.mono {ω' : Wo} {H' : Hp} {a : Addr} {c : Cell} (l : Le ω ω') (hs : ω.Hs a = none → ω'.Hs a = none) (hh : ∀ o, H a = some o → H' a = some o) (h : CellAt K ω H a c) : CellAt K ω' H' a c := by
  cases c with
  | lst ws => obtain ⟨⟨h0, h3⟩, vs, h1, h2⟩ := h; exact ⟨⟨hs h0, by rw [l.fr]; exact h3⟩, vs, hh _ h1, h2.mono l⟩
  | dic ws => obtain ⟨⟨h0, h3⟩, vs, h1, h2⟩ := h; exact ⟨⟨hs h0, by rw [l.fr]; exact h3⟩, vs, hh _ h1, h2.mono l⟩
  | ins C ws => obtain ⟨⟨⟨h0, h3⟩, hc⟩, dx, vs, h1, h2⟩ := h; exact ⟨⟨⟨hs h0, by rw [l.fr]; exact h3⟩, hc⟩, dx, vs, hh _ h1, h2.mono l⟩
  | dead => obtain ⟨o, h1⟩ := h; exact ⟨o, l.ex _ _ h1⟩
  | lck ws => obtain ⟨⟨h0, h3⟩, o, vs, ht, h1, h2⟩ := h; exact ⟨⟨hs h0, by rw [l.fr]; exact h3⟩, o, vs, by rw [l.tb]; exact ht, hh _ h1, h2.mono l⟩
  | dit b ws => obtain ⟨⟨h0, h3⟩, vs, h1, h2⟩ := h; exact ⟨⟨hs h0, by rw [l.fr]; exact h3⟩, vs, h1.mono (fun p z => by rw [l.tb]; exact z) hh, h2.mono l⟩
theorem Ok.froze (k : Ok K ω H cs) (hp : H p = none) (hpl : NoTbl o := by exact True.intro) : Ok K (ω.froze p o) (upd H p o) cs := by
  refine ⟨k.ex.both, k.len, k.nd, fun i a c e1 e2 => ?_, k.tab.ext (Ex.new hp), k.frx.trans (Ex.new hp), fun a u e => ?_, fun a u e => ?_, k.nf, fun a oo vs e => Ex.new hp _ _ (k.lk a oo vs e)⟩
  case refine_3 =>
    have e : upd ω.Hs p o a = some u := e
    by_cases h : a = p
    · rw [h, upd_same] at e
      cases e
      exact hpl
    · rw [upd_ne h] at e
      exact k.nt a u e
  case refine_2 =>
    show upd _ _ _ a = none
    rw [upd_ne (ne_of_none e (k.frx.back hp))]
    exact k.dj a u e
  have q := k.cel i a c e1 e2
  obtain ⟨u, hu⟩ := k.there (List.mem_of_getElem? e1)
  have ne : a ≠ p := ne_of_none hu hp
  exact q.mono (Le.froze k hp) (fun z => by show upd _ _ _ a = none; rw [upd_ne ne]; exact z) (fun o z => by rw [upd_ne ne]; exact z)
theorem Ok.more {c : Cell} (k : Ok K ω H cs) (hp : H p = none) (hc : CellAt K (ω.more p) (upd H p o) p c) : Ok K (ω.more p) (upd H p o) (cs ++ [c]) := by
  refine ⟨k.ex.out (k.ex.back hp), by show _ = (ω.ad ++ [p]).length; simp [k.len], ?_, fun i a c' e1 e2 => ?_, k.tab.ext (Ex.new hp), k.frx.trans (Ex.new hp), k.dj, k.nt, k.nf, fun a oo vs e => Ex.new hp _ _ (k.lk a oo vs e)⟩
  · show (ω.ad ++ [p]).Nodup
    refine List.nodup_append.mpr ⟨k.nd, List.nodup_cons.mpr ⟨by simp, List.nodup_nil⟩, fun a ha b hb => ?_⟩
    obtain ⟨u, hu⟩ := k.there ha
    have e : b = p := by simpa using hb
    subst e
    exact ne_of_none hu hp
  · have e1 : (ω.ad ++ [p])[i]? = some a := e1
    by_cases hi : i < ω.ad.length
    · rw [List.getElem?_append_left hi] at e1
      rw [List.getElem?_append_left (by rw [k.len]; exact hi)] at e2
      have q := k.cel i a c' e1 e2
      obtain ⟨u, hu⟩ := k.there (List.mem_of_getElem? e1)
      have ne : a ≠ p := ne_of_none hu hp
      exact q.mono Le.more (fun z => z) (fun o z => by rw [upd_ne ne]; exact z)
    · have hi2 : i = ω.ad.length := by
        cases q : decide (i = ω.ad.length) with
        | true => exact of_decide_eq_true q
        | false =>
          have := of_decide_eq_false q
          rw [List.getElem?_eq_none (by simp; omega)] at e1
          cases e1
      subst hi2
      rw [List.getElem?_append_right (Nat.le_refl _)] at e1
      rw [← k.len, List.getElem?_append_right (Nat.le_refl _)] at e2
      simp at e1 e2
      subst e1
      subst e2
      exact hc
end
/-- what is raised: the class by its name, what it keeps -/
structure Xn where
  nm : Str
  fs : List (Str × Dt)
instance : Coe Str Xn := ⟨fun x => ⟨x, []⟩⟩
inductive R (α : Type) where
  | ok (a : α) (cs : List Cell) | exc (x : Xn) (cs : List Cell) | bad
abbrev M (α : Type) := List Cell → R α
@[inline] def M.bind {α β : Type} (m : M α) (f : α → M β) : M β := fun cs => match m cs with
  | .ok a cs' => f a cs'
  | .exc x cs' => .exc x cs'
  | .bad => .bad
def M.ret {α : Type} (a : α) : M α := fun cs => .ok a cs
def M.bad {α : Type} : M α := fun _ => .bad
instance : Monad M where
  pure := M.ret
  bind := M.bind
def M.opt {α : Type} : Option α → M α
  | some a => M.ret a
  | none => M.bad
abbrev En := List (Option Wv)
abbrev Ev := En → M Wv
structure StRep (K : Frag) (ω : Wo) (σ : St) (env : En) : Prop where
  len : σ.length = env.length
  get : ∀ (i : Nat) (w : Wv), env[i]? = some (some w) → ∃ v, σ[i]? = some (some v) ∧ RepW K ω v w
theorem StRep.mono {K : Frag} {ω ω' : Wo} {σ : St} {env : En} (l : Le ω ω') (h : StRep K ω σ env) : StRep K ω' σ env :=
  ⟨h.len, fun i w e => let ⟨v, e1, r⟩ := h.get i w e; ⟨v, e1, r.mono l⟩⟩
theorem StRep.set {K : Frag} {ω : Wo} {σ : St} {env : En} {v : V} {w : Wv} (h : StRep K ω σ env) (i : Nat) (r : RepW K ω v w) : StRep K ω (σ.set i (some v)) (env.set i (some w)) := by
  refine ⟨by simpa using h.len, fun j u e => ?_⟩
  by_cases hj : i = j
  · subst hj
    by_cases hi : i < env.length
    · rw [List.getElem?_set_self hi] at e
      cases e
      exact ⟨v, List.getElem?_set_self (by rw [h.len]; exact hi), r⟩
    · rw [List.getElem?_eq_none (by simpa using hi)] at e
      cases e
  · rw [List.getElem?_set_ne hj] at e ⊢
    exact h.get j u e
abbrev MG := Str → Option Value
/-- an exception of the class at C with such fields is let go -/
def XOut (K : Frag) (E : XK) (Hs : Hp) (C : Addr) (H : Hp) : List (Str × Dt) → Prop
  | [] => E (.ref C) none H
  | l => ∀ dd xs, H dd = none → RepF K Hs xs l → E (.ref C) (some dd) (upd H dd (.xd xs))
/-- how a result is used: E is what is wanted of an exception (the class by its name) -/
def Out (K : Frag) (mg : MG) (E : XK) {α : Type} (ω : Wo) (r : R α) (F : α → Wo → List Cell → Hp → Prop) : Prop :=
  match r with
  | .ok a cs' => ∀ ω' H', Le ω ω' → Ok K ω' H' cs' → F a ω' cs' H'
  | .exc x cs' => ∀ C ω' H', mg x.nm = some (.ref C) → Le ω ω' → Ok K ω' H' cs' → XOut K E ω'.Hs C H' x.fs
  | .bad => False
section
variable {K : Frag} {mg : MG} {E : XK} {α β : Type} {ω ω' : Wo} {F F' : α → Wo → List Cell → Hp → Prop}
theorem Out.le {r : R α} (l : Le ω ω') (h : Out K mg E ω r F) : Out K mg E ω' r F := by
  cases r with
  | ok a cs => exact fun ω2 H2 l2 k2 => h ω2 H2 (l.trans l2) k2
  | exc x cs => exact fun C ω2 H2 m l2 k2 => h C ω2 H2 m (l.trans l2) k2
  | bad => exact h
theorem Out.imp {r : R α} (h : Out K mg E ω r F) (f : ∀ a ω' cs' H', Le ω ω' → Ok K ω' H' cs' → F a ω' cs' H' → F' a ω' cs' H') : Out K mg E ω r F' := by
  cases r with
  | ok a cs => exact fun ω2 H2 l2 k2 => f a ω2 cs H2 l2 k2 (h ω2 H2 l2 k2)
  | exc x cs => exact h
  | bad => exact h
theorem Out.bind {m : M α} {f : α → M β} {cs : List Cell} {G : β → Wo → List Cell → Hp → Prop} (h : Out K mg E ω (M.bind m f cs) G) : Out K mg E ω (m cs) (fun a ω' cs' _ => Out K mg E ω' (f a cs') G) := by
  unfold M.bind at h
  cases e : m cs with
  | ok a cs' =>
    rw [e] at h
    exact fun ω2 H2 l2 k2 => h.le l2
  | exc x cs' =>
    rw [e] at h
    exact h
  | bad =>
    rw [e] at h
    exact h
theorem Out.now {a : α} {cs : List Cell} {H : Hp} (h : Out K mg E ω (.ok a cs) F) (k : Ok K ω H cs) : F a ω cs H := h ω H (Le.refl ω) k
theorem Out.opt {o : Option α} {cs : List Cell} (h : Out K mg E ω (M.opt o cs) F) : ∃ a, o = some a ∧ Out K mg E ω (.ok a cs) F := by
  cases o with
  | none => exact (show False from h).elim
  | some a => exact ⟨a, rfl, h⟩
end
/-- an expression's reading by what it computes -/
def tEv (K : Frag) (mg : MG) (E : XK) (f : Ev) : TE := fun σ H Q => ∃ env cs ω, StRep K ω σ env ∧ Ok K ω H cs ∧ Out K mg E ω (f env cs) fun w ω' _ H' => ∀ v, RepW K ω' v w → Q v H'
def EV (X : Cx) (E : XK) (e : Expr) (f : Ev) : Prop := PE X e (tEv X.K X.mg E f)
/-- .. that makes a new list -/
abbrev EvF := En → M (List Wv)
def tEvF (K : Frag) (mg : MG) (E : XK) (f : EvF) : TE := fun σ H Q => ∃ env cs ω, StRep K ω σ env ∧ Ok K ω H cs ∧ Out K mg E ω (f env cs) fun ws ω' _ H' => ∀ p vs, H' p = none → RepWs K ω' vs ws → Q (.ref p) (upd H' p (.lst vs))
def EVF (X : Cx) (E : XK) (e : Expr) (f : EvF) : Prop := PE X e (tEvF X.K X.mg E f)
/-- a test -/
abbrev EvT := En → M Bool
def tEvT (K : Frag) (mg : MG) (E : XK) (f : EvT) : TT := fun σ H Q => ∃ env cs ω, StRep K ω σ env ∧ Ok K ω H cs ∧ Out K mg E ω (f env cs) fun b _ _ H' => Q b H'
def EVT (X : Cx) (E : XK) (e : Expr) (f : EvT) : Prop := PT X e (tEvT X.K X.mg E f)
/-- arguments -/
abbrev EvA := En → M (List Wv)
def tEvA (K : Frag) (mg : MG) (E : XK) (f : EvA) : TA := fun σ H Q => ∃ env cs ω, StRep K ω σ env ∧ Ok K ω H cs ∧ Out K mg E ω (f env cs) fun ws ω' _ H' => ∀ vs, RepWs K ω' vs ws → Q vs H'
def EVA (X : Cx) (E : XK) (es : List Expr) (f : EvA) : Prop := PA X es (tEvA X.K X.mg E f)
theorem PE.imp {X : Cx} {e : Expr} {t u : TE} (h : PE X e t) (i : ∀ σ H Q, u σ H Q → t σ H Q) : PE X e u := ⟨fun pins s σ H Q I q => h.run pins s σ H Q I (i σ H Q q)⟩
theorem PT.imp {X : Cx} {e : Expr} {t u : TT} (h : PT X e t) (i : ∀ σ H Q, u σ H Q → t σ H Q) : PT X e u := ⟨fun pins s σ H Q I q => h.run pins s σ H Q I (i σ H Q q)⟩
theorem PA.imp {X : Cx} {e : List Expr} {t u : TA} (h : PA X e t) (i : ∀ σ H Q, u σ H Q → t σ H Q) : PA X e u := ⟨fun pos pins s σ H Q I q => h.run pos pins s σ H Q I (i σ H Q q)⟩
theorem PS.imp {X : Cx} {e : Stmt} {t u : TS} (h : PS X e t) (i : ∀ D σ H, u D σ H → t D σ H) : PS X e u := ⟨fun pins s σ H D I q => h.run pins s σ H D I (i D σ H q)⟩
theorem PSs.imp {X : Cx} {e : List Stmt} {t u : TS} (h : PSs X e t) (i : ∀ D σ H, u D σ H → t D σ H) : PSs X e u := ⟨fun pins s σ H D I q => h.run pins s σ H D I (i D σ H q)⟩
end DX
namespace DX
variable [TabT]
open PySem L2
section
variable {X : Cx} {E : XK} {a b c : Expr} {pos : Pos} {f g : Ev}
def eVar (i : Nat) : Ev := fun env => M.opt (env[i]?.join)
theorem ev_var {i : Nat} {x : Str} (hN : X.N[i]? = some x) (hv : Vis X.env.scope x) (hd : (x == ("__debug__" : Str)) = false := by decide) (hcd : (x == ("__classdict__" : Str)) = false := by decide) : EV X E (.Name x pos) (eVar i) :=
  PE.imp (pe_var hN hv hd hcd) fun σ H Q ⟨env, cs, ω, hs, hk, h⟩ => by
    obtain ⟨w, e, h⟩ := Out.opt h
    obtain ⟨v, e1, r⟩ := hs.get i w (Option.join_eq_some_iff.mp e)
    exact ⟨v, e1, Out.now h hk v r⟩
def eC (d : Dt) : Ev := fun _ => M.ret (.dat d)
theorem ev_c {e : Expr} {v : V} {d : Dt} (h : PE X e (tC v)) (r : ∀ K H, RepD K H v d) : EV X E e (eC d) :=
  PE.imp h fun σ H Q ⟨env, cs, ω, hs, hk, h⟩ => Out.now h hk v (r _ _)
theorem ev_int {i : Int} {j} : EV X E (.Constant (.int i) j pos) (eC (.int i)) := ev_c pe_int fun _ _ => .int _
theorem ev_bl {i : Bool} {j} : EV X E (.Constant (.bool i) j pos) (eC (.bl i)) := ev_c pe_bl fun _ _ => .bl _
theorem ev_non {j} : EV X E (.Constant .none j pos) (eC .non) := ev_c pe_non fun _ _ => .non
theorem ev_str {x : Str} {j} : EV X E (.Constant (.str x) j pos) (eC (.str x)) := ev_c pe_str fun _ _ => .str _
/-- a module's constant -/
theorem ev_glob {x : Str} {v : V} {u : Value} {d : Dt} (hg : Gl X x) (hm : X.mg x = some u) (r : RelV v u) (hr : ∀ K H, RepD K H v d) (hd : (x == ("__debug__" : Str)) = false := by decide) : EV X E (.Name x pos) (eC d) := ev_c (pe_glob hg hm r hd) hr
theorem ev_bltn {x : Str} {v : V} {u : Value} (hg : Gl X x) (hm : X.mg x = none) (hv : bootBuiltins x = some u) (r : RelV v u) (hn : x ≠ "__name__" := by decide) (hd : (x == ("__debug__" : Str)) = false := by decide) : EV X E (.Name x pos) (eC (.op v)) := ev_c (pe_bltn hg hm hv r hn hd) fun _ _ => .op _
def liftB (o : Dt → Dt → Option Dt) : Wv → Wv → M Wv
  | .dat x, .dat y => M.opt ((o x y).map .dat)
  | _, _ => M.bad
def liftU (o : Dt → Option Dt) : Wv → M Wv
  | .dat x => M.opt ((o x).map .dat)
  | _ => M.bad
def eBin (o : Dt → Dt → Option Dt) (f g : Ev) : Ev := fun env => M.bind (f env) fun x => M.bind (g env) fun y => liftB o x y
def eUn (o : Dt → Option Dt) (f : Ev) : Ev := fun env => M.bind (f env) fun x => liftU o x
def BinO (K : Frag) (r : R2) (o : Dt → Dt → Option Dt) : Prop := ∀ (ω : Wo) (H : Hp) (cs : List Cell) (u v : V) (x y z : Dt), Ok K ω H cs → RepD K ω.Hs u x → RepD K ω.Hs v y → o x y = some z →
  ∀ Q : VK, (∀ ω' H' v', Le ω ω' → Ok K ω' H' cs → RepD K ω'.Hs v' z → Q v' H') → r u v H Q
def UnO (K : Frag) (r : V → Hp → VK → Prop) (o : Dt → Option Dt) : Prop := ∀ (ω : Wo) (H : Hp) (cs : List Cell) (u : V) (x z : Dt), Ok K ω H cs → RepD K ω.Hs u x → o x = some z →
  ∀ Q : VK, (∀ ω' H' v', Le ω ω' → Ok K ω' H' cs → RepD K ω'.Hs v' z → Q v' H') → r u H Q
theorem Out.map_some {K : Frag} {mg : MG} {α β : Type} {ω : Wo} {o : Option α} {h : α → β} {cs : List Cell} {F : β → Wo → List Cell → Hp → Prop} (q : Out K mg E ω (M.opt (o.map h) cs) F) : ∃ z, o = some z ∧ Out K mg E ω (R.ok (h z) cs) F := by
  cases o with
  | none => exact (show False from q).elim
  | some z => exact ⟨z, rfl, q⟩
theorem op_use {r : R2} {o : Dt → Dt → Option Dt} (hr : BinO X.K r o) {σ : St} {H : Hp} {Q : VK} (h : tEv X.K X.mg E (eBin o f g) σ H Q) : tOp r (tEv X.K X.mg E f) (tEv X.K X.mg E g) σ H Q := by
  obtain ⟨env, cs, ω, hs, hk, h⟩ := h
  refine ⟨env, cs, ω, hs, hk, h.bind.imp fun x ω1 cs1 H1 l1 k1 h1 u ru => ⟨env, cs1, ω1, hs.mono l1, k1, h1.bind.imp fun y ω2 cs2 H2 l2 k2 h2 v rv => ?_⟩⟩
  cases x with
  | cel k => exact (show False from h2).elim
  | dat x =>
    cases y with
    | cel k => exact (show False from h2).elim
    | dat y =>
      obtain ⟨z, e, h3⟩ := Out.map_some h2
      exact hr ω2 H2 cs2 u v x y z k2 (ru.mono l2 : RepW _ _ _ _) rv e Q fun ω' H' v' l k r => h3 ω' H' l k v' r
theorem un_use {r : V → Hp → VK → Prop} {o : Dt → Option Dt} (hr : UnO X.K r o) {σ : St} {H : Hp} {Q : VK} (h : tEv X.K X.mg E (eUn o f) σ H Q) : tUn r (tEv X.K X.mg E f) σ H Q := by
  obtain ⟨env, cs, ω, hs, hk, h⟩ := h
  refine ⟨env, cs, ω, hs, hk, h.bind.imp fun x ω1 cs1 H1 l1 k1 h1 u ru => ?_⟩
  cases x with
  | cel k => exact (show False from h1).elim
  | dat x =>
    obtain ⟨z, e, h3⟩ := Out.map_some h1
    exact hr ω1 H1 cs1 u x z k1 ru e Q fun ω' H' v' l k r => h3 ω' H' l k v' r
theorem ev_bin {op : Operator} {r : R2} {o : Dt → Dt → Option Dt} (ho : OpR X (binaryOp op) r) (hr : BinO X.K r o) (ha : EV X E a f) (hb : EV X E b g) : EV X E (.BinOp a op b pos) (eBin o f g) :=
  PE.imp (pe_op ho ha hb) fun _ _ _ h => op_use hr h
theorem ev_un {op : UnaryOp} {r : V → Hp → VK → Prop} {o : Dt → Option Dt} (ho : UnR X (unaryOp op) r) (hr : UnO X.K r o) (ha : EV X E a f) : EV X E (.UnaryOp op a pos) (eUn o f) :=
  PE.imp (pe_un ho ha) fun _ _ _ h => un_use hr h
theorem OpR.or {fn : Value → Value → Sem Value} {r s : R2} (h1 : OpR X fn r) (h2 : OpR X fn s) : OpR X fn (fun x y H Q => r x y H Q ∨ s x y H Q) := fun pins s σ H x y v u Q I rx ry q => by
  rcases q with q | q
  · exact h1 pins s σ H x y v u Q I rx ry q
  · exact h2 pins s σ H x y v u Q I rx ry q
theorem BinO.or {K : Frag} {r s : R2} {o p : Dt → Dt → Option Dt} (h1 : BinO K r o) (h2 : BinO K s p) : BinO K (fun x y H Q => r x y H Q ∨ s x y H Q) (fun x y => (o x y).or (p x y)) := fun ω H cs u v x y z k ru rv e Q q => by
  have e : (o x y).or (p x y) = some z := e
  cases h : o x y with
  | some w =>
    rw [h] at e
    exact .inl (h1 ω H cs u v x y z k ru rv (h.trans e) Q q)
  | none =>
    rw [h] at e
    exact .inr (h2 ω H cs u v x y z k ru rv e Q q)
/-- ints by a rule -/
def dI0 (g : Int → Int → Dt) : Dt → Dt → Option Dt
  | .int i, .int j => some (g i j)
  | _, _ => none
def dI (C : Int → Int → Bool) (g : Int → Int → Dt) : Dt → Dt → Option Dt
  | .int i, .int j => if C i j = true then some (g i j) else none
  | _, _ => none
theorem dI0_of {g : Int → Int → Dt} {x y z : Dt} (h : dI0 g x y = some z) : ∃ i j, x = .int i ∧ y = .int j ∧ z = g i j := by
  unfold dI0 at h
  split at h
  · exact ⟨_, _, rfl, rfl, (Option.some.inj h).symm⟩
  · cases h
theorem dI_of {C : Int → Int → Bool} {g : Int → Int → Dt} {x y z : Dt} (h : dI C g x y = some z) : ∃ i j, x = .int i ∧ y = .int j ∧ C i j = true ∧ z = g i j := by
  unfold dI at h
  split at h
  · split at h
    · exact ⟨_, _, rfl, rfl, by assumption, (Option.some.inj h).symm⟩
    · cases h
  · cases h
theorem bo_I0 {K : Frag} {gV : Int → Int → V} {gD : Int → Int → Dt} (hg : ∀ K H i j, RepD K H (gV i j) (gD i j)) : BinO K (rI0 gV) (dI0 gD) := fun ω H cs u v x y z k ru rv e Q q => by
  obtain ⟨i, j, rfl, rfl, rfl⟩ := dI0_of e
  cases ru; cases rv
  exact ⟨i, j, rfl, rfl, q ω H _ (Le.refl _) k (hg _ _ _ _)⟩
theorem bo_I {K : Frag} {C : Int → Int → Prop} {c : Int → Int → Bool} {gV : Int → Int → V} {gD : Int → Int → Dt} (hc : ∀ i j, c i j = true → C i j) (hg : ∀ K H i j, RepD K H (gV i j) (gD i j)) : BinO K (rI C gV) (dI c gD) := fun ω H cs u v x y z k ru rv e Q q => by
  obtain ⟨i, j, rfl, rfl, h, rfl⟩ := dI_of e
  cases ru; cases rv
  exact ⟨i, j, rfl, rfl, hc i j h, q ω H _ (Le.refl _) k (hg _ _ _ _)⟩
def szOk (n : Nat) : Bool := decide (n ≤ 16777216)
theorem szOk_of {n : Nat} (h : szOk n = true) : n ≤ sizeLine := by
  have := of_decide_eq_true h
  rw [sizeLine_eq]
  exact this
def dAddS : Dt → Dt → Option Dt
  | .str x, .str y => if szOk (x.length + y.length) = true then some (.str (x ++ y)) else none
  | _, _ => none
def dAddL : Dt → Dt → Option Dt
  | .lst x, .lst y => if szOk (x.length + y.length) = true then some (.lst (x ++ y)) else none
  | _, _ => none
def dAddT : Dt → Dt → Option Dt
  | .tup x, .tup y => if szOk (x.length + y.length) = true then some (.tup (x ++ y)) else none
  | _, _ => none
theorem dAddS_of {x y z : Dt} (h : dAddS x y = some z) : ∃ i j, x = .str i ∧ y = .str j ∧ i.length + j.length ≤ sizeLine ∧ z = .str (i ++ j) := by
  unfold dAddS at h
  split at h
  · split at h
    · exact ⟨_, _, rfl, rfl, szOk_of (by assumption), (Option.some.inj h).symm⟩
    · cases h
  · cases h
theorem dAddL_of {x y z : Dt} (h : dAddL x y = some z) : ∃ i j, x = .lst i ∧ y = .lst j ∧ i.length + j.length ≤ sizeLine ∧ z = .lst (i ++ j) := by
  unfold dAddL at h
  split at h
  · split at h
    · exact ⟨_, _, rfl, rfl, szOk_of (by assumption), (Option.some.inj h).symm⟩
    · cases h
  · cases h
theorem dAddT_of {x y z : Dt} (h : dAddT x y = some z) : ∃ i j, x = .tup i ∧ y = .tup j ∧ i.length + j.length ≤ sizeLine ∧ z = .tup (i ++ j) := by
  unfold dAddT at h
  split at h
  · split at h
    · exact ⟨_, _, rfl, rfl, szOk_of (by assumption), (Option.some.inj h).symm⟩
    · cases h
  · cases h
/-- a new frozen object at p -/
theorem froze_use {K : Frag} {ω : Wo} {H : Hp} {cs : List Cell} {d : Dt} {o : HO} {Q : VK} (k : Ok K ω H cs) (q : ∀ ω' H' v', Le ω ω' → Ok K ω' H' cs → RepD K ω'.Hs v' d → Q v' H') (hr : ∀ p, H p = none → RepD K (ω.froze p o).Hs (.ref p) d) (hpl : NoTbl o := by exact True.intro) :
    ∀ p, H p = none → Q (.ref p) (upd H p o) := fun p hp => q (ω.froze p o) _ (.ref p) (Le.froze k hp) (k.froze hp hpl) (hr p hp)
theorem rep_tup {K : Frag} {ω : Wo} {H : Hp} {cs : List Cell} {p : Addr} {xs : List V} {ds : List Dt} (k : Ok K ω H cs) (hp : H p = none) (h : RepL K ω.Hs xs ds) : RepD K (ω.froze p (.tup xs)).Hs (.ref p) (.tup ds) :=
  .tup ⟨upd_same⟩ (RepL.mono (Le.froze (o := HO.tup xs) k hp).ex ds xs h)
theorem rep_lst {K : Frag} {ω : Wo} {H : Hp} {cs : List Cell} {p : Addr} {xs : List V} {ds : List Dt} (k : Ok K ω H cs) (hp : H p = none) (h : RepL K ω.Hs xs ds) : RepD K (ω.froze p (.lst xs)).Hs (.ref p) (.lst ds) :=
  .lst upd_same (RepL.mono (Le.froze (o := HO.lst xs) k hp).ex ds xs h)
theorem bo_addS {K : Frag} : BinO K (fun x y H Q => ∃ i j, x = V.str i ∧ y = V.str j ∧ i.length + j.length ≤ sizeLine ∧ Q (.str (i ++ j)) H) dAddS := fun ω H cs u v x y z k ru rv e Q q => by
  obtain ⟨i, j, rfl, rfl, h, rfl⟩ := dAddS_of e
  cases ru; cases rv
  exact ⟨i, j, rfl, rfl, h, q ω H _ (Le.refl _) k (.str _)⟩
theorem bo_addL {K : Frag} : BinO K rCat dAddL := fun ω H cs u v x y z k ru rv e Q q => by
  obtain ⟨i, j, rfl, rfl, h, rfl⟩ := dAddL_of e
  cases ru with
  | lst h1 r1 =>
    cases rv with
    | lst h2 r2 =>
      exact ⟨_, _, _, _, rfl, rfl, k.ex _ _ h1, k.ex _ _ h2, by rw [r1.len, r2.len]; exact h, froze_use k q fun p hp => rep_lst k hp (r1.app r2)⟩
theorem bo_addT {K : Frag} : BinO K (rCatA K) dAddT := fun ω H cs u v x y z k ru rv e Q q => by
  obtain ⟨i, j, rfl, rfl, h, rfl⟩ := dAddT_of e
  cases ru with
  | @tup a xs _ h1 r1 =>
    cases rv with
    | @tup b ys _ h2 r2 =>
      refine ⟨_, _, _, _, rfl, rfl, (ex_t k.ex h1).sq, (ex_t k.ex h2).sq, by rw [r1.len, r2.len]; exact h, fun e1 => ?_, fun e1 e2 => ?_, fun e1 e2 => froze_use k q fun p hp => rep_tup k hp (r1.app r2)⟩
      · subst e1
        cases r1
        exact q ω H _ (Le.refl _) k (.tup h2 (by simpa using r2))
      · subst e2
        cases r2
        exact q ω H _ (Le.refl _) k (.tup h1 (by simpa using r1))
def dAdd : Dt → Dt → Option Dt := fun x y => (dI0 (fun i j => .int (i + j)) x y).or ((dAddS x y).or ((dAddL x y).or (dAddT x y)))
theorem ev_add (ha : EV X E a f) (hb : EV X E b g) : EV X E (.BinOp a .Add b pos) (eBin dAdd f g) :=
  ev_bin (OpR.or op_add (OpR.or op_add_str (OpR.or op_cat op_catA))) (BinO.or (bo_I0 fun _ _ _ _ => .int _) (BinO.or bo_addS (BinO.or bo_addL bo_addT))) ha hb
theorem ev_sub (ha : EV X E a f) (hb : EV X E b g) : EV X E (.BinOp a .Sub b pos) (eBin (dI0 fun i j => .int (i - j)) f g) := ev_bin op_sub (bo_I0 fun _ _ _ _ => .int _) ha hb
theorem ev_and (ha : EV X E a f) (hb : EV X E b g) : EV X E (.BinOp a .BitAnd b pos) (eBin (dI0 fun i j => .int (Builtin.bitAnd i j)) f g) := ev_bin op_and (bo_I0 fun _ _ _ _ => .int _) ha hb
theorem ev_xor (ha : EV X E a f) (hb : EV X E b g) : EV X E (.BinOp a .BitXor b pos) (eBin (dI0 fun i j => .int (Builtin.bitXor i j)) f g) := ev_bin op_xor (bo_I0 fun _ _ _ _ => .int _) ha hb
def cMod (_ j : Int) : Bool := decide (0 < j)
theorem ev_mod (ha : EV X E a f) (hb : EV X E b g) : EV X E (.BinOp a .Mod b pos) (eBin (dI cMod fun i j => .int (i % j)) f g) := ev_bin op_mod (bo_I (fun _ _ h => of_decide_eq_true h) fun _ _ _ _ => .int _) ha hb
def cDiv (_ j : Int) : Bool := decide (0 < j) && decide (j < 1073741824)
theorem ev_fdiv (ha : EV X E a f) (hb : EV X E b g) : EV X E (.BinOp a .FloorDiv b pos) (eBin (dI cDiv fun i j => .int (i / j)) f g) := ev_bin op_fdiv (bo_I (fun _ _ h => by
    unfold cDiv at h
    simp only [Bool.and_eq_true, decide_eq_true_eq] at h
    exact h) fun _ _ _ _ => .int _) ha hb
def cPow (i j : Int) : Bool := decide (0 ≤ j) && decide (j ≤ 1000000) && decide (i.natAbs < 18446744073709551616)
theorem cPow_of {i j : Int} (h : cPow i j = true) : CPow i j := by
  unfold cPow at h
  simp only [Bool.and_eq_true, decide_eq_true_eq] at h
  exact ⟨h.1.1, h.1.2, by have := h.2; show i.natAbs < 2 ^ 64; omega⟩
theorem ev_pow (ha : EV X E a f) (hb : EV X E b g) : EV X E (.BinOp a .Pow b pos) (eBin (dI cPow fun i j => .int (i ^ j.toNat)) f g) := ev_bin op_pow (bo_I (fun _ _ h => cPow_of h) fun _ _ _ _ => .int _) ha hb
theorem ev_shl (ha : EV X E a f) (hb : EV X E b g) : EV X E (.BinOp a .LShift b pos) (eBin (dI cPow fun i j => .int (i * 2 ^ j.toNat)) f g) := ev_bin op_shl (bo_I (fun _ _ h => cPow_of h) fun _ _ _ _ => .int _) ha hb
def cShr (_ j : Int) : Bool := decide (0 ≤ j)
theorem ev_shr (ha : EV X E a f) (hb : EV X E b g) : EV X E (.BinOp a .RShift b pos) (eBin (dI cShr fun i j => .int (i / 2 ^ j.toNat)) f g) := ev_bin op_shr (bo_I (fun _ _ h => of_decide_eq_true h) fun _ _ _ _ => .int _) ha hb
def dNeg : Dt → Option Dt
  | .int i => some (.int (-i))
  | _ => none
theorem ev_neg (ha : EV X E a f) : EV X E (.UnaryOp .USub a pos) (eUn dNeg f) := ev_un (o := dNeg) un_neg (fun ω H cs u x z k ru e Q q => by
  cases x with
  | int i =>
    cases ru
    cases e
    exact ⟨i, rfl, q ω H _ (Le.refl _) k (.int _)⟩
  | _ => cases e) ha
def cMul (i j : Int) : Bool := (decide (-18446744073709551616 < i) && decide (i < 18446744073709551616)) || (decide (-18446744073709551616 < j) && decide (j < 18446744073709551616))
theorem cMul_of {i j : Int} (h : cMul i j = true) : CMul i j := by
  unfold cMul at h
  simp only [Bool.and_eq_true, Bool.or_eq_true, decide_eq_true_eq] at h
  rcases h with h | h
  · exact .inl ⟨by show -(2 ^ 64) < i; omega, by show i < 2 ^ 64; omega⟩
  · exact .inr ⟨by show -(2 ^ 64) < j; omega, by show j < 2 ^ 64; omega⟩
def rMulS : R2 := fun x y H Q => ∃ (z : Str) (n : Int), x = .str z ∧ y = .int n ∧ 0 ≤ n ∧ n ≤ 16777216 ∧ z.length * n.toNat ≤ sizeLine ∧ Q (.str (Txt.mul z n)) H
theorem op_mulS : OpR X (binaryOp .Mult) rMulS := by
  intro pins s σ H x y v u Q I rx ry h
  obtain ⟨z, n, rfl, rfl, h1, h2, h3, q⟩ := h
  obtain ⟨t, rfl⟩ := rx
  obtain ⟨t', rfl⟩ := ry
  refine SB.mul ⟨?_, fun a b => ?_, fun a b => ?_⟩ fun t' k => ⟨.str (Txt.mul z n), H, I.tok _, ⟨_, rfl⟩, q⟩
  · rw [decide_eq_false (by omega), decide_eq_false (by omega)]
    rfl
  · have hn : 0 < n := by omega
    have hz : z.length * n.toNat ≤ 16777216 := by rw [sizeLine_eq] at h3; exact h3
    have e : (n.toNat : Int) = n := Int.toNat_of_nonneg h1
    have hz2 : (z.length : Int) * n ≤ 16777216 := by
      have h4 : ((z.length * n.toNat : Nat) : Int) ≤ ((16777216 : Nat) : Int) := Int.ofNat_le.mpr hz
      rw [Int.natCast_mul, e] at h4
      exact h4
    have := Int.le_ediv_of_mul_le hn (show (z.length : Int) * n ≤ 2 ^ 63 - 1 by omega)
    omega
  · exact decide_eq_false (Nat.not_lt.mpr h3)
def dMulS : Dt → Dt → Option Dt
  | .str z, .int n => if (decide (0 ≤ n) && decide (n ≤ 16777216) && szOk (z.length * n.toNat)) = true then some (.str (Txt.mul z n)) else none
  | _, _ => none
theorem bo_mulS {K : Frag} : BinO K rMulS dMulS := fun ω H cs u v x y z k ru rv e Q q => by
  unfold dMulS at e
  split at e
  · split at e
    · rename_i h
      simp only [Bool.and_eq_true, decide_eq_true_eq] at h
      cases ru; cases rv; cases e
      exact ⟨_, _, rfl, rfl, h.1.1, h.1.2, szOk_of h.2, q ω H _ (Le.refl _) k (.str _)⟩
    · cases e
  · cases e
def dMulL : Dt → Dt → Option Dt
  | .lst z, .int n => if (decide (0 ≤ n) && decide (n ≤ 16777216) && szOk (z.length * n.toNat)) = true then some (.lst (List.replicate n.toNat z).flatten) else none
  | _, _ => none
theorem RepL.rep {K : Frag} {H : Hp} {vs : List V} {ds : List Dt} (h : RepL K H vs ds) : ∀ n : Nat, RepL K H (List.replicate n vs).flatten (List.replicate n ds).flatten
  | 0 => .nil
  | n + 1 => by
    simp only [List.replicate_succ, List.flatten_cons]
    exact h.app (RepL.rep h n)
theorem bo_mulL {K : Frag} : BinO K rRep dMulL := fun ω H cs u v x y z k ru rv e Q q => by
  unfold dMulL at e
  split at e
  · split at e
    · rename_i h
      simp only [Bool.and_eq_true, decide_eq_true_eq] at h
      cases ru with
      | lst h1 r1 =>
        cases rv; cases e
        exact ⟨_, _, _, rfl, rfl, k.ex _ _ h1, by omega, by omega, by rw [r1.len]; exact szOk_of h.2, froze_use k q fun p hp => rep_lst k hp (r1.rep _)⟩
    · cases e
  · cases e
def dMulT : Dt → Dt → Option Dt
  | .tup z, .int n => if (decide (2 ≤ n) && decide (n ≤ 1000) && (decide (1 ≤ z.length) && decide (z.length ≤ 1000))) = true then some (.tup (List.replicate n.toNat z).flatten) else none
  | _, _ => none
theorem bo_mulT {K : Frag} : BinO K (rRepT K) dMulT := fun ω H cs u v x y z k ru rv e Q q => by
  unfold dMulT at e
  split at e
  · split at e
    · rename_i h
      simp only [Bool.and_eq_true, decide_eq_true_eq] at h
      cases ru with
      | tup h1 r1 =>
        cases rv; cases e
        refine ⟨_, _, _, rfl, rfl, (ex_t k.ex h1).sq, ?_, h.1.1, h.1.2, by rw [r1.len]; exact h.2.2, froze_use k q fun p hp => rep_tup k hp (r1.rep _)⟩
        intro e
        subst e
        have := r1.len
        simp at this
        omega
    · cases e
  · cases e
def dMul : Dt → Dt → Option Dt := fun x y => (dI cMul (fun i j => .int (i * j)) x y).or ((dMulS x y).or ((dMulL x y).or (dMulT x y)))
theorem ev_mul (ha : EV X E a f) (hb : EV X E b g) : EV X E (.BinOp a .Mult b pos) (eBin dMul f g) :=
  ev_bin (OpR.or op_mul (OpR.or op_mulS (OpR.or op_rep op_repT))) (BinO.or (bo_I (fun _ _ h => cMul_of h) fun _ _ _ _ => .int _) (BinO.or bo_mulS (BinO.or bo_mulL bo_mulT))) ha hb
theorem ev_cmp {op : CmpOp} {r : R2} {o : Dt → Dt → Option Dt} (ho : OpR X (compareOp op) r) (hr : BinO X.K r o) (ha : EV X E a f) (hb : EV X E b g) (hm : behindInMarks op b = false) : EV X E (.Compare a [op] [b] pos) (eBin o f g) :=
  PE.imp (pe_cmpR ho ha hb hm) fun _ _ _ h => op_use hr h
mutual
def py : Dt → Option PyData
  | .non => some .none
  | .bl b => some (.bool b)
  | .int i => some (.int i)
  | .str s => some (.str s)
  | .tup l => (pys l).map .tuple
  | .lst l => (pys l).map .list
  | .dic _ => none
  | .obj _ _ => none
  | .op _ => none
  | .scr _ => none
  | .exn _ _ => none
  | .dit _ => none
  | .lam _ _ => none
def pys : List Dt → Option (List PyData)
  | [] => some []
  | d :: l => match py d, pys l with
    | some p, some ps => some (p :: ps)
    | _, _ => none
end
mutual
theorem dp_of {K : Frag} {H : Hp} : ∀ (d : Dt) (v : V) (p : PyData), RepD K H v d → py d = some p → Dp K H v p
  | .non, _, _, h, e => by cases h; simp [py] at e; subst e; exact .non
  | .bl b, _, _, h, e => by cases h; simp [py] at e; subst e; exact .bl b
  | .int i, _, _, h, e => by cases h; simp [py] at e; subst e; exact .int i
  | .str s, _, _, h, e => by cases h; simp [py] at e; subst e; exact .str s
  | .tup l, _, _, h, e => by
    cases h with
    | tup h1 h2 =>
      simp [py] at e
      obtain ⟨ps, e1, rfl⟩ := e
      exact .tup h1.sq (dps_of l _ _ h2 e1)
  | .lst l, _, _, h, e => by
    cases h with
    | lst h1 h2 =>
      simp [py] at e
      obtain ⟨ps, e1, rfl⟩ := e
      exact .lst (SqL.of h1) (dps_of l _ _ h2 e1)
  | .dic _, _, _, _, e => by simp [py] at e
  | .obj _ _, _, _, _, e => by simp [py] at e
  | .op _, _, _, _, e => by simp [py] at e
  | .scr _, _, _, _, e => by simp [py] at e
  | .exn _ _, _, _, _, e => by simp [py] at e
  | .dit _, _, _, _, e => by simp [py] at e
  | .lam _ _, _, _, _, e => by simp [py] at e
theorem dps_of {K : Frag} {H : Hp} : ∀ (l : List Dt) (vs : List V) (ps : List PyData), RepL K H vs l → pys l = some ps → DpAll K H vs ps
  | [], _, _, h, e => by cases h; simp [pys] at e; subst e; exact .nil
  | d :: l, _, _, h, e => by
    cases h with
    | cons h1 h2 =>
      unfold pys at e
      split at e
      · rename_i p ps e1 e2
        cases e
        exact .cons (dp_of d _ _ h1 e1) (dps_of l _ _ h2 e2)
      · cases e
end
theorem RepD.up {K : Frag} {ω : Wo} {H : Hp} {cs : List Cell} {v : V} {d : Dt} (k : Ok K ω H cs) (h : RepD K ω.Hs v d) : RepD K H v d := h.mono k.ex
theorem bo_B0 {K : Frag} {p : Int → Int → Bool} : BinO K (rI0 fun i j => .bl (p i j)) (dI0 fun i j => .bl (p i j)) := bo_I0 fun _ _ _ _ => .bl _
theorem ev_lt (ha : EV X E a f) (hb : EV X E b g) : EV X E (.Compare a [.Lt] [b] pos) (eBin (dI0 fun i j => .bl (decide (i < j))) f g) := ev_cmp op_lt bo_B0 ha hb (nomark _)
/-- x in a list, a tuple -/
def rInQ (K : Frag) (neg : Bool) : R2 := fun x y H Q => ∃ d ds, Dp K H x d ∧ (Dp K H y (.list ds) ∨ Dp K H y (.tuple ds)) ∧ SeqAt.shaped d = true ∧ SeqAt.shaped (.list ds) = true ∧ Q (.bl (if neg then !ds.any fun z => PyData.eqv z d else ds.any fun z => PyData.eqv z d)) H
theorem shaped_tl {ds : List PyData} (h : SeqAt.shaped (.list ds) = true) : SeqAt.shaped (.tuple ds) = true := by
  unfold SeqAt.shaped at h ⊢
  simpa [PyData.canLay0, PyData.depth] using h
theorem op_inQ (hu : X.A.units + 65 < cLine) : OpR X (compareOp .In) (rInQ X.K false) := by
  intro pins s σ H x y v u Q I rx ry h
  obtain ⟨d, ds, hd, he, sd, se, q⟩ := h
  obtain ⟨as, r1⟩ := Dp.reads I d x v hd rx
  rcases he with he | he
  · obtain ⟨bs, r2⟩ := Dp.reads I (.list ds) y u he ry
    exact SeqAt.in_list_reads r2 r1 (SeqAt.canLay_of_shaped se) (SeqAt.canLay_of_shaped sd) (PyProof.Rows.room_in_shaped sd hu) ⟨.bl _, H, I, rfl, q⟩
  · obtain ⟨bs, r2⟩ := Dp.reads I (.tuple ds) y u he ry
    exact SeqAt.in_tuple_reads r2 r1 (SeqAt.canLay_of_shaped (shaped_tl se)) (SeqAt.canLay_of_shaped sd) (PyProof.Rows.room_in_shaped sd hu) ⟨.bl _, H, I, rfl, q⟩
theorem op_notInQ (hu : X.A.units + 65 < cLine) : OpR X (compareOp .NotIn) (rInQ X.K true) := by
  intro pins s σ H x y v u Q I rx ry h
  obtain ⟨d, ds, hd, he, sd, se, q⟩ := h
  obtain ⟨as, r1⟩ := Dp.reads I d x v hd rx
  rcases he with he | he
  · obtain ⟨bs, r2⟩ := Dp.reads I (.list ds) y u he ry
    exact SeqAt.notIn_list_reads r2 r1 (SeqAt.canLay_of_shaped se) (SeqAt.canLay_of_shaped sd) (PyProof.Rows.room_in_shaped sd hu) ⟨.bl _, H, I, rfl, q⟩
  · obtain ⟨bs, r2⟩ := Dp.reads I (.tuple ds) y u he ry
    exact SeqAt.notIn_tuple_reads r2 r1 (SeqAt.canLay_of_shaped (shaped_tl se)) (SeqAt.canLay_of_shaped sd) (PyProof.Rows.room_in_shaped sd hu) ⟨.bl _, H, I, rfl, q⟩
def seqOf : Dt → Option (List Dt)
  | .tup l => some l
  | .lst l => some l
  | _ => none
def dInB (x y : Dt) : Option Bool := match py x, (seqOf y).bind pys with
  | some p, some qs => if (SeqAt.shaped p && SeqAt.shaped (.list qs)) = true then some (qs.any fun z => PyData.eqv z p) else none
  | _, _ => none
theorem dInB_of {x y : Dt} {b : Bool} (h : dInB x y = some b) : ∃ p l qs, py x = some p ∧ (y = .tup l ∨ y = .lst l) ∧ pys l = some qs ∧ SeqAt.shaped p = true ∧ SeqAt.shaped (.list qs) = true ∧ b = qs.any fun z => PyData.eqv z p := by
  unfold dInB at h
  split at h
  · split at h
    · rename_i p qs e1 e2 hh
      simp only [Bool.and_eq_true] at hh
      cases e3 : seqOf y with
      | none => rw [e3] at e2; cases e2
      | some l =>
        rw [e3] at e2
        refine ⟨p, l, qs, e1, ?_, e2, hh.1, hh.2, (Option.some.inj h).symm⟩
        cases y with
        | tup m => simp [seqOf] at e3; subst e3; exact .inl rfl
        | lst m => simp [seqOf] at e3; subst e3; exact .inr rfl
        | _ => cases e3
    · cases h
  · cases h
theorem dp_seq {K : Frag} {H : Hp} {v : V} {y : Dt} {l : List Dt} {qs : List PyData} (h : RepD K H v y) (e : y = .tup l ∨ y = .lst l) (e2 : pys l = some qs) : Dp K H v (.list qs) ∨ Dp K H v (.tuple qs) := by
  rcases e with rfl | rfl
  · exact .inr (dp_of _ v _ h (by simp [py, e2]))
  · exact .inl (dp_of _ v _ h (by simp [py, e2]))
/-- one text within another -/
def dInS : Dt → Dt → Option Bool
  | .str i, .str j => some (!(Builtin.Str.occurrences j i 0 j.length 1).isEmpty)
  | _, _ => none
def dIn (x y : Dt) : Option Dt := ((dInB x y).map .bl).or ((dInS x y).map .bl)
def dNotIn (x y : Dt) : Option Dt := ((dInB x y).map fun b => .bl (!b)).or ((dInS x y).map fun b => .bl (!b))
theorem bo_in {K : Frag} {neg : Bool} : BinO K (rInQ K neg) (fun x y => (dInB x y).map fun b => .bl (if neg then !b else b)) := fun ω H cs u v x y z k ru rv e Q q => by
  have e : (dInB x y).map (fun b => Dt.bl (if neg then !b else b)) = some z := e
  cases h : dInB x y with
  | none => rw [h] at e; cases e
  | some b =>
    rw [h] at e
    cases e
    obtain ⟨p, l, qs, e1, e2, e3, h1, h2, rfl⟩ := dInB_of h
    exact ⟨p, qs, dp_of x u p (ru.up k) e1, dp_seq (rv.up k) e2 e3, h1, h2, q ω H _ (Le.refl _) k (by cases neg <;> exact .bl _)⟩
theorem bo_inS {K : Frag} {g : Bool → Bool} : BinO K (fun x y H Q => ∃ i j, x = V.str i ∧ y = V.str j ∧ Q (.bl (g (!(Builtin.Str.occurrences j i 0 j.length 1).isEmpty))) H) (fun x y => (dInS x y).map fun b => .bl (g b)) := fun ω H cs u v x y z k ru rv e Q q => by
  have e : (dInS x y).map (fun b => Dt.bl (g b)) = some z := e
  unfold dInS at e
  split at e
  · cases ru; cases rv; cases e
    exact ⟨_, _, rfl, rfl, q ω H _ (Le.refl _) k (.bl _)⟩
  · cases e
theorem ev_in (hu : X.A.units + 65 < cLine) (ha : EV X E a f) (hb : EV X E b g) (hm : behindInMarks .In b = false := by rfl) : EV X E (.Compare a [.In] [b] pos) (eBin dIn f g) :=
  ev_cmp (OpR.or (op_inQ hu) op_in_str) (BinO.or (bo_in (neg := false)) (bo_inS (g := id))) ha hb hm
/-- is None, is True, is False -/
def isNonD : Dt → Option Bool
  | .non => some true
  | .op _ => none
  | _ => some false
theorem isNonD_of {K : Frag} {H : Hp} {d : Dt} {v : V} {b : Bool} (r : RepD K H v d) (h : isNonD d = some b) : decide (v = .non) = b := by
  cases r <;> simp [isNonD] at h <;> subst h <;> simp
def dIsN (x y : Dt) : Option Dt := match y with
  | .non => (isNonD x).map .bl
  | _ => none
def dNotNn (x y : Dt) : Option Dt := match y with
  | .non => (isNonD x).map fun b => .bl (!b)
  | _ => none
theorem bo_isN {K : Frag} : BinO K (fun x y H Q => y = V.non ∧ Q (.bl (decide (x = .non))) H) dIsN := fun ω H cs u v x y z k ru rv e Q q => by
  unfold dIsN at e
  split at e
  · cases rv
    cases h : isNonD x with
    | none => rw [h] at e; cases e
    | some b =>
      rw [h] at e
      cases e
      exact ⟨rfl, q ω H _ (Le.refl _) k (by rw [isNonD_of ru h]; exact .bl _)⟩
  · cases e
theorem bo_notN {K : Frag} : BinO K (fun x y H Q => y = V.non ∧ Q (.bl (!decide (x = .non))) H) dNotNn := fun ω H cs u v x y z k ru rv e Q q => by
  unfold dNotNn at e
  split at e
  · cases rv
    cases h : isNonD x with
    | none => rw [h] at e; cases e
    | some b =>
      rw [h] at e
      cases e
      exact ⟨rfl, q ω H _ (Le.refl _) k (by rw [isNonD_of ru h]; exact .bl _)⟩
  · cases e
def dIsB (x y : Dt) : Option Dt := match x, y with
  | .bl a, .bl b => some (.bl (decide (a = b)))
  | _, _ => none
theorem bo_isB {K : Frag} : BinO K (fun x y H Q => ∃ a b, x = V.bl a ∧ y = V.bl b ∧ Q (.bl (decide (a = b))) H) dIsB := fun ω H cs u v x y z k ru rv e Q q => by
  unfold dIsB at e
  split at e
  · cases ru; cases rv; cases e
    exact ⟨_, _, rfl, rfl, q ω H _ (Le.refl _) k (.bl _)⟩
  · cases e
def dIs (x y : Dt) : Option Dt := (dIsN x y).or (dIsB x y)
theorem ev_is (ha : EV X E a f) (hb : EV X E b g) : EV X E (.Compare a [.Is] [b] pos) (eBin dIs f g) := ev_cmp (OpR.or op_isN op_is_bl) (BinO.or bo_isN bo_isB) ha hb (nomark _)
def dNotB (x y : Dt) : Option Dt := match x, y with
  | .bl a, .bl b => some (.bl (!decide (a = b)))
  | _, _ => none
theorem bo_notB {K : Frag} : BinO K (fun x y H Q => ∃ a b, x = V.bl a ∧ y = V.bl b ∧ Q (.bl (!decide (a = b))) H) dNotB := fun ω H cs u v x y z k ru rv e Q q => by
  unfold dNotB at e
  split at e
  · cases ru; cases rv; cases e
    exact ⟨_, _, rfl, rfl, q ω H _ (Le.refl _) k (.bl _)⟩
  · cases e
def dNotN (x y : Dt) : Option Dt := (dNotNn x y).or (dNotB x y)
theorem ev_isNot (ha : EV X E a f) (hb : EV X E b g) : EV X E (.Compare a [.IsNot] [b] pos) (eBin dNotN f g) := ev_cmp (OpR.or op_notN op_isnot_bl) (BinO.or bo_notN bo_notB) ha hb (nomark _)
end
end DX
namespace DX
variable [TabT]
open PySem L2
section
variable {X : Cx} {E : XK} {a b c : Expr} {rest : List Expr} {pos : Pos} {f g h : Ev} {p q : EvT}
theorem PE.orr {e : Expr} {t u : TE} (h : PE X e t) (g : PE X e u) : PE X e (fun σ H Q => t σ H Q ∨ u σ H Q) := ⟨fun pins s σ H Q I z => z.elim (h.run pins s σ H Q I) (g.run pins s σ H Q I)⟩
def dTruS (s : Str) : Option Bool := if szOk s.length = true then some ((s.length : Int) != 0) else none
def dTru : Dt → Option Bool
  | .non => some false
  | .bl b => some b
  | .int i => some (i != 0)
  | .str s => dTruS s
  | .tup l => some !l.isEmpty
  | .lst l => some !l.isEmpty
  | .dic l => some !l.isEmpty
  | _ => none
def cTru : Option Cell → Option Bool
  | some (.lst l) => some !l.isEmpty
  | some (.dic l) => some !l.isEmpty
  | _ => none
def wTru : Wv → List Cell → Option Bool
  | .dat d, _ => dTru d
  | .cel k, cs => cTru cs[k]?
def mTru (w : Wv) : M Bool := fun cs => M.opt (wTru w cs) cs
theorem RepL.emp {K : Frag} {H : Hp} {vs : List V} {ds : List Dt} (r : RepL K H vs ds) : vs.isEmpty = ds.isEmpty := by cases r <;> rfl
theorem RepK.emp {K : Frag} {H : Hp} {vs : List (Key × V)} {ds : List (Key × Dt)} (r : RepK K H vs ds) : vs.isEmpty = ds.isEmpty := by cases r <;> rfl
theorem RepWs.emp {K : Frag} {ω : Wo} {vs : List V} {ds : List Wv} (r : RepWs K ω vs ds) : vs.isEmpty = ds.isEmpty := by cases r <;> rfl
theorem RepWk.emp {K : Frag} {ω : Wo} {vs : List (Key × V)} {ds : List (Key × Wv)} (r : RepWk K ω vs ds) : vs.isEmpty = ds.isEmpty := by cases r <;> rfl
theorem Ok.cell {K : Frag} {ω : Wo} {H : Hp} {cs : List Cell} (k : Ok K ω H cs) {i : Nat} {a : Addr} {c : Cell} (h : ω.ad[i]? = some a) (e : cs[i]? = some c) : CellAt K ω H a c := k.cel i a c h e
theorem tru_of {K : Frag} {ω : Wo} {H : Hp} {cs : List Cell} {v : V} {w : Wv} {b : Bool} (k : Ok K ω H cs) (r : RepW K ω v w) (e : wTru w cs = some b) : TruV K v H b := by
  cases w with
  | dat d =>
    have r : RepD K ω.Hs v d := r
    have e : dTru d = some b := e
    cases r with
    | non => cases e; rfl
    | bl c => cases e; rfl
    | int i => cases e; rfl
    | str s =>
      have e : dTruS s = some b := e
      unfold dTruS at e
      split at e
      · cases e; exact ⟨szOk_of (by assumption), rfl⟩
      · cases e
    | tup h1 h2 => cases e; exact .inr (.inl ⟨_, (ex_t k.ex h1).sq, by rw [h2.emp]⟩)
    | lst h1 h2 => cases e; exact .inl ⟨_, SqL.of (k.ex _ _ h1), by rw [h2.emp]⟩
    | dic h1 h2 => cases e; exact .inr (.inr ⟨_, k.ex _ _ h1, by rw [h2.emp]⟩)
    | obj h1 hc h2 => cases e
    | op v => cases e
    | scr h1 => cases e
    | exn h1 => cases e
    | dit h1 => cases e
    | lam h1 h2 => cases e
  | cel i =>
    obtain ⟨a, e1, rfl⟩ := r
    have e : cTru cs[i]? = some b := e
    cases hc : cs[i]? with
    | none => rw [hc] at e; cases e
    | some c =>
      rw [hc] at e
      have q := k.cell e1 hc
      cases c with
      | lst l => obtain ⟨_, vs, h1, h2⟩ := q; cases e; exact .inl ⟨_, SqL.of h1, by rw [h2.emp]⟩
      | dic l => obtain ⟨_, vs, h1, h2⟩ := q; cases e; exact .inr (.inr ⟨_, h1, by rw [h2.emp]⟩)
      | ins C l => cases e
      | dead => cases e
      | lck l => cases e
      | dit b l => cases e
theorem Out.tru {K : Frag} {mg : MG} {ω : Wo} {w : Wv} {cs : List Cell} {F : Bool → Wo → List Cell → Hp → Prop} (h : Out K mg E ω (mTru w cs) F) : ∃ b, wTru w cs = some b ∧ Out K mg E ω (.ok b cs) F := Out.opt h
theorem Out.tru2 {K : Frag} {mg : MG} {α : Type} {ω : Wo} {w : Wv} {k : Bool → M α} {cs : List Cell} {F : α → Wo → List Cell → Hp → Prop} (h : Out K mg E ω (M.bind (mTru w) k cs) F) : ∃ b, wTru w cs = some b ∧ Out K mg E ω (k b cs) F := by
  unfold M.bind mTru at h
  cases e : wTru w cs with
  | none => rw [e] at h; exact (show False from h).elim
  | some b =>
    rw [e] at h
    exact ⟨b, rfl, h⟩
def tTru (f : Ev) : EvT := fun env => M.bind (f env) mTru
theorem et_tru (ha : EV X E a f) (he : ∀ whole, isTrue a X.env whole = (do let v ← whole; standAt a.pos; holding [v] (truthy v)) := by intro _; rfl) : EVT X E a (tTru f) :=
  PT.imp (pt_truth ha he) fun σ H Q ⟨env, cs, ω, hs, hk, h⟩ => ⟨env, cs, ω, hs, hk, h.bind.imp fun x ω1 cs1 H1 l1 k1 h1 v rv => by
    obtain ⟨b, e, h2⟩ := h1.tru
    exact ⟨b, tru_of k1 rv e, h2.now k1⟩⟩
/-- a comparison as a test -/
def asB : Wv → M Bool
  | .dat (.bl b) => M.ret b
  | _ => M.bad
def tCmpE (f : Ev) : EvT := fun env => M.bind (f env) asB
theorem Out.asB {K : Frag} {mg : MG} {ω : Wo} {w : Wv} {cs : List Cell} {F : Bool → Wo → List Cell → Hp → Prop} (h : Out K mg E ω (asB w cs) F) : ∃ b, w = .dat (.bl b) ∧ Out K mg E ω (.ok b cs) F := by
  cases w with
  | cel k => exact (show False from h).elim
  | dat d =>
    cases d with
    | bl b => exact ⟨b, rfl, h⟩
    | _ => exact (show False from h).elim
theorem tEv_test {t : TE} (i : ∀ σ H (Q : VK), tEv X.K X.mg E f σ H Q → t σ H Q) {σ : L2.St} {H : Hp} {Q : Bool → Hp → Prop} (h : tEvT X.K X.mg E (tCmpE f) σ H Q) : tTest t σ H Q := by
  obtain ⟨env, cs, ω, hs, hk, h⟩ := h
  refine i σ H _ ⟨env, cs, ω, hs, hk, h.bind.imp fun x ω1 cs1 H1 l1 k1 h1 v rv => ?_⟩
  obtain ⟨b, rfl, h2⟩ := h1.asB
  cases (show RepD X.K ω1.Hs v (.bl b) from rv)
  exact ⟨b, rfl, h2.now k1⟩
theorem et_cmp {op : CmpOp} {r : R2} {o : Dt → Dt → Option Dt} (ho : OpR X (compareOp op) r) (hr : BinO X.K r o) (ha : EV X E a f) (hb : EV X E b g) (hm : behindInMarks op b = false) : EVT X E (.Compare a [op] [b] pos) (tCmpE (eBin o f g)) :=
  PT.imp (pt_cmpR ho ha hb hm) fun _ _ _ h => tEv_test (fun _ _ _ h => op_use hr h) h
theorem et_lt (ha : EV X E a f) (hb : EV X E b g) : EVT X E (.Compare a [.Lt] [b] pos) (tCmpE (eBin (dI0 fun i j => .bl (decide (i < j))) f g)) := et_cmp op_lt bo_B0 ha hb (nomark _)
theorem et_gt (ha : EV X E a f) (hb : EV X E b g) : EVT X E (.Compare a [.Gt] [b] pos) (tCmpE (eBin (dI0 fun i j => .bl (decide (j < i))) f g)) := et_cmp op_gt bo_B0 ha hb (nomark _)
theorem et_ge (ha : EV X E a f) (hb : EV X E b g) : EVT X E (.Compare a [.GtE] [b] pos) (tCmpE (eBin (dI0 fun i j => .bl (decide (j ≤ i))) f g)) := et_cmp op_ge bo_B0 ha hb (nomark _)
theorem et_in (hu : X.A.units + 65 < cLine) (ha : EV X E a f) (hb : EV X E b g) (hm : behindInMarks .In b = false := by rfl) : EVT X E (.Compare a [.In] [b] pos) (tCmpE (eBin dIn f g)) :=
  et_cmp (OpR.or (op_inQ hu) op_in_str) (BinO.or (bo_in (neg := false)) (bo_inS (g := id))) ha hb hm
theorem et_notIn (hu : X.A.units + 65 < cLine) (ha : EV X E a f) (hb : EV X E b g) (hm : behindInMarks .NotIn b = false := by rfl) : EVT X E (.Compare a [.NotIn] [b] pos) (tCmpE (eBin dNotIn f g)) :=
  et_cmp (OpR.or (op_notInQ hu) op_notin_str) (BinO.or (bo_in (neg := true)) (bo_inS (g := not))) ha hb hm
theorem et_isNot (ha : EV X E a f) (hb : EV X E b g) : EVT X E (.Compare a [.IsNot] [b] pos) (tCmpE (eBin dNotN f g)) := et_cmp (OpR.or op_notN op_isnot_bl) (BinO.or bo_notN bo_notB) ha hb (nomark _)
def eChain (o o' : Dt → Dt → Option Dt) (f g h : Ev) : Ev := fun env => M.bind (f env) fun x => M.bind (g env) fun y => M.bind (liftB o x y) fun z => M.bind (asB z) fun k => if k = true then M.bind (h env) fun w => liftB o' y w else M.ret (.dat (.bl false))
theorem Out.asB2 {K : Frag} {mg : MG} {α : Type} {ω : Wo} {w : Wv} {k : Bool → M α} {cs : List Cell} {F : α → Wo → List Cell → Hp → Prop} (h : Out K mg E ω (M.bind (DX.asB w) k cs) F) : ∃ b, w = .dat (.bl b) ∧ Out K mg E ω (k b cs) F := by
  cases w with
  | cel k => exact (show False from h).elim
  | dat d =>
    cases d with
    | bl b => exact ⟨b, rfl, h⟩
    | _ => exact (show False from h).elim
theorem Out.liftB {K : Frag} {mg : MG} {ω : Wo} {x y : Wv} {o : Dt → Dt → Option Dt} {cs : List Cell} {F : Wv → Wo → List Cell → Hp → Prop} (h : Out K mg E ω (liftB o x y cs) F) : ∃ d e z, x = .dat d ∧ y = .dat e ∧ o d e = some z ∧ Out K mg E ω (.ok (.dat z) cs) F := by
  cases x with
  | cel k => exact (show False from h).elim
  | dat x =>
    cases y with
    | cel k => exact (show False from h).elim
    | dat y =>
      obtain ⟨z, e, h3⟩ := Out.map_some h
      exact ⟨x, y, z, rfl, rfl, e, h3⟩
theorem chain_use {r r' : R2} {o o' : Dt → Dt → Option Dt} (hr : BinO X.K r o) (hr' : BinO X.K r' o') {σ : L2.St} {H : Hp} {Q : VK} (hh : tEv X.K X.mg E (eChain o o' f g h) σ H Q) : tChain r r' (tEv X.K X.mg E f) (tEv X.K X.mg E g) (tEv X.K X.mg E h) σ H Q := by
  obtain ⟨env, cs, ω, hs, hk, hh⟩ := hh
  refine ⟨env, cs, ω, hs, hk, hh.bind.imp fun x ω1 cs1 H1 l1 k1 h1 u ru => ⟨env, cs1, ω1, hs.mono l1, k1, h1.bind.imp fun y ω2 cs2 H2 l2 k2 h2 v rv => ?_⟩⟩
  obtain ⟨d, e, z, rfl, rfl, ez, h3⟩ := Out.liftB h2.bind
  refine hr ω2 H2 cs2 u v d e z k2 (ru.mono l2 : RepW _ _ _ _) rv ez _ fun ω3 H3 v3 l3 k3 r3 => ?_
  obtain ⟨b, eb, h4⟩ := (h3 ω3 H3 l3 k3).asB2
  cases eb
  cases r3
  refine ⟨b, rfl, ?_⟩
  cases b with
  | false => exact (h4.now k3) _ (.bl false)
  | true =>
    refine ⟨env, cs2, ω3, (hs.mono (l1.trans (l2.trans l3))), k3, h4.bind.imp fun w ω4 cs4 H4 l4 k4 h5 t rt => ?_⟩
    obtain ⟨d', e', z', e1, rfl, ez', h6⟩ := Out.liftB h5
    cases e1
    exact hr' ω4 H4 cs4 v t e e' z' k4 (rv.mono (l3.trans l4) : RepW _ _ _ (.dat e)) rt ez' Q fun ω5 H5 v5 l5 k5 r5 => h6 ω5 H5 l5 k5 v5 r5
theorem ev_chain {op op' : CmpOp} {r r' : R2} {o o' : Dt → Dt → Option Dt} (ho : OpR X (compareOp op) r) (hr : BinO X.K r o) (ho' : OpR X (compareOp op') r') (hr' : BinO X.K r' o') (ha : EV X E a f) (hb : EV X E b g) (hc : EV X E c h)
    (hm : lastMarks [op, op'] [b, c] = false := by with_unfolding_all rfl) : EV X E (.Compare a [op, op'] [b, c] pos) (eChain o o' f g h) := PE.imp (pe_chain ho ho' ha hb hc hm) fun _ _ _ z => chain_use hr hr' z
theorem et_chain {op op' : CmpOp} {r r' : R2} {o o' : Dt → Dt → Option Dt} (ho : OpR X (compareOp op) r) (hr : BinO X.K r o) (ho' : OpR X (compareOp op') r') (hr' : BinO X.K r' o') (ha : EV X E a f) (hb : EV X E b g) (hc : EV X E c h)
    (hm : lastMarks [op, op'] [b, c] = false := by with_unfolding_all rfl) : EVT X E (.Compare a [op, op'] [b, c] pos) (tCmpE (eChain o o' f g h)) := PT.imp (pt_chain ho ho' ha hb hc hm) fun _ _ _ z => tEv_test (fun _ _ _ z => chain_use hr hr' z) z
def EVW (X : Cx) (E : XK) (e : Expr) (f : EvT) : Prop := PW X e (tEvT X.K X.mg E f)
theorem PW.imp {e : Expr} {t u : TT} (h : PW X e t) (i : ∀ σ H Q, u σ H Q → t σ H Q) : PW X e u := ⟨fun wh pins s σ H Q I z => h.run wh pins s σ H Q I (i σ H Q z)⟩
theorem et_w {e : Expr} (h : EVW X E e p) : EVT X E e p := h.pt
def tAnd' (p q : EvT) : EvT := fun env => M.bind (p env) fun k => if k = true then q env else M.ret false
def tOr' (p q : EvT) : EvT := fun env => M.bind (p env) fun k => if k = true then M.ret true else q env
def tNot' (p : EvT) : EvT := fun env => M.bind (p env) fun k => M.ret (!k)
theorem ew_and1 (ha : EVT X E a p) : EVW X E (.BoolOp .And [a] pos) p := pw_and1 ha
theorem ew_or1 (ha : EVT X E a p) : EVW X E (.BoolOp .Or [a] pos) p := pw_or1 ha
theorem ew_and (ha : EVT X E a p) (hb : EVW X E (.BoolOp .And (b :: rest) pos) q) : EVW X E (.BoolOp .And (a :: b :: rest) pos) (tAnd' p q) :=
  PW.imp (pw_and ha hb) fun σ H Q ⟨env, cs, ω, hs, hk, h⟩ => ⟨env, cs, ω, hs, hk, h.bind.imp fun k ω1 cs1 H1 l1 k1 h1 => by
    cases k with
    | true => exact ⟨env, cs1, ω1, hs.mono l1, k1, h1⟩
    | false => exact h1.now k1⟩
theorem ew_or (ha : EVT X E a p) (hb : EVW X E (.BoolOp .Or (b :: rest) pos) q) : EVW X E (.BoolOp .Or (a :: b :: rest) pos) (tOr' p q) :=
  PW.imp (pw_or ha hb) fun σ H Q ⟨env, cs, ω, hs, hk, h⟩ => ⟨env, cs, ω, hs, hk, h.bind.imp fun k ω1 cs1 H1 l1 k1 h1 => by
    cases k with
    | true => exact h1.now k1
    | false => exact ⟨env, cs1, ω1, hs.mono l1, k1, h1⟩⟩
theorem et_not (ha : EVT X E a p) : EVT X E (.UnaryOp .Not a pos) (tNot' p) :=
  PT.imp (pt_not ha) fun σ H Q ⟨env, cs, ω, hs, hk, h⟩ => ⟨env, cs, ω, hs, hk, h.bind.imp fun k ω1 cs1 H1 l1 k1 h1 => h1.now k1⟩
def eAnd (f g : Ev) : Ev := fun env => M.bind (f env) fun x => M.bind (mTru x) fun k => if k = true then g env else M.ret x
def eOr (f g : Ev) : Ev := fun env => M.bind (f env) fun x => M.bind (mTru x) fun k => if k = true then M.ret x else g env
def eNot (f : Ev) : Ev := fun env => M.bind (f env) fun x => M.bind (mTru x) fun k => M.ret (.dat (.bl (!k)))
theorem ev_one {op} (ha : EV X E a f) : EV X E (.BoolOp op [a] pos) f := pe_one ha
theorem ev_andB (ha : EV X E a f) (hb : EV X E (.BoolOp .And (b :: rest) pos) g) : EV X E (.BoolOp .And (a :: b :: rest) pos) (eAnd f g) :=
  PE.imp (pe_andT ha hb) fun σ H Q ⟨env, cs, ω, hs, hk, h⟩ => ⟨env, cs, ω, hs, hk, h.bind.imp fun x ω1 cs1 H1 l1 k1 h1 v rv => by
    obtain ⟨k, e, h2⟩ := h1.tru2
    refine ⟨k, tru_of k1 rv e, ?_⟩
    cases k with
    | true => exact ⟨env, cs1, ω1, hs.mono l1, k1, h2⟩
    | false => exact h2.now k1 v rv⟩
theorem ev_not (ha : EV X E a f) : EV X E (.UnaryOp .Not a pos) (eNot f) :=
  PE.imp (pe_notT ha) fun σ H Q ⟨env, cs, ω, hs, hk, h⟩ => ⟨env, cs, ω, hs, hk, h.bind.imp fun x ω1 cs1 H1 l1 k1 h1 v rv => by
    obtain ⟨k, e, h2⟩ := h1.tru2
    exact ⟨k, tru_of k1 rv e, h2.now k1 _ (RepD.bl _)⟩⟩
def eIf (p : EvT) (f g : Ev) : Ev := fun env => M.bind (p env) fun k => if k = true then f env else g env
theorem ev_if (hc : EVT X E c p) (ha : EV X E a f) (hb : EV X E b g) : EV X E (.IfExp c a b pos) (eIf p f g) :=
  PE.imp (pe_ifExp hc ha hb) fun σ H Q ⟨env, cs, ω, hs, hk, h⟩ => ⟨env, cs, ω, hs, hk, h.bind.imp fun k ω1 cs1 H1 l1 k1 h1 => by
    cases k with
    | true => exact ⟨env, cs1, ω1, hs.mono l1, k1, h1⟩
    | false => exact ⟨env, cs1, ω1, hs.mono l1, k1, h1⟩⟩
def aNil : EvA := fun _ => M.ret []
def aCons (f : Ev) (g : EvA) : EvA := fun env => M.bind (f env) fun x => M.bind (g env) fun xs => M.ret (x :: xs)
theorem ea_nil : EVA X E [] aNil := PA.imp pa_nil fun σ H Q ⟨env, cs, ω, hs, hk, h⟩ => h.now hk [] .nil
theorem ea_cons {es : List Expr} {g : EvA} (ha : EV X E a f) (hr : EVA X E es g) (hs : starEach (a :: es) X.env = (false, eval a X.env) :: starEach es X.env := by rfl) : EVA X E (a :: es) (aCons f g) :=
  PA.imp (pa_cons ha hr hs) fun σ H Q ⟨env, cs, ω, hs, hk, h⟩ => ⟨env, cs, ω, hs, hk, h.bind.imp fun x ω1 cs1 H1 l1 k1 h1 v rv => ⟨env, cs1, ω1, hs.mono l1, k1, h1.bind.imp fun xs ω2 cs2 H2 l2 k2 h2 vs rvs =>
    h2.now k2 _ (.cons (rv.mono l2) rvs)⟩⟩
def mDats (ws : List Wv) : M (List Dt) := M.opt (dats ws)
def mLen {α : Type} (l : List α) (m : M Wv) : M Wv := if szOk l.length = true then m else M.bad
def eTup (g : EvA) : Ev := fun env => M.bind (g env) fun ws => M.bind (mDats ws) fun ds => mLen ds (M.ret (.dat (.tup ds)))
def eLst (g : EvA) : Ev := fun env => M.bind (g env) fun ws => M.bind (mDats ws) fun ds => mLen ds (M.ret (.dat (.lst ds)))
theorem Out.mDats {K : Frag} {mg : MG} {α : Type} {ω : Wo} {ws : List Wv} {k : List Dt → M α} {cs : List Cell} {F : α → Wo → List Cell → Hp → Prop} (h : Out K mg E ω (M.bind (mDats ws) k cs) F) : ∃ ds, dats ws = some ds ∧ Out K mg E ω (k ds cs) F := by
  unfold M.bind DX.mDats at h
  cases e : dats ws with
  | none => rw [e] at h; exact (show False from h).elim
  | some ds => rw [e] at h; exact ⟨ds, rfl, h⟩
theorem Out.mLen {K : Frag} {mg : MG} {α : Type} {ω : Wo} {l : List α} {m : M Wv} {cs : List Cell} {F : Wv → Wo → List Cell → Hp → Prop} (h : Out K mg E ω (mLen l m cs) F) : l.length ≤ sizeLine ∧ Out K mg E ω (m cs) F := by
  unfold DX.mLen at h
  split at h
  · exact ⟨szOk_of (by assumption), h⟩
  · exact (show False from h).elim
theorem ev_tup {es : List Expr} {g : EvA} {x1} (h : EVA X E es g) : EV X E (.Tuple es x1 pos) (eTup g) :=
  PE.imp (pe_tup h) fun σ H Q ⟨env, cs, ω, hs, hk, h⟩ => ⟨env, cs, ω, hs, hk, h.bind.imp fun ws ω1 cs1 H1 l1 k1 h1 vs rv => by
    obtain ⟨ds, e, h2⟩ := h1.mDats
    obtain ⟨hl, h3⟩ := h2.mLen
    have rl := rv.dats e
    exact ⟨by rw [rl.len]; exact hl, froze_use k1 (fun ω' H' v' l k r => h3 ω' H' l k v' r) fun p hp => rep_tup k1 hp rl⟩⟩
theorem ev_lst {es : List Expr} {g : EvA} (h : EVA X E es g) : EV X E (.List es pos) (eLst g) :=
  PE.imp (pe_lst h) fun σ H Q ⟨env, cs, ω, hs, hk, h⟩ => ⟨env, cs, ω, hs, hk, h.bind.imp fun ws ω1 cs1 H1 l1 k1 h1 vs rv => by
    obtain ⟨ds, e, h2⟩ := h1.mDats
    obtain ⟨hl, h3⟩ := h2.mLen
    have rl := rv.dats e
    exact ⟨by rw [rl.len]; exact hl, froze_use k1 (fun ω' H' v' l k r => h3 ω' H' l k v' r) fun p hp => rep_lst k1 hp rl⟩⟩
/-- a list display, the list new -/
def fLst (g : EvA) : EvF := fun env => M.bind (g env) fun ws => if szOk ws.length = true then M.ret ws else M.bad
theorem ef_lst {es : List Expr} {g : EvA} (h : EVA X E es g) : EVF X E (.List es pos) (fLst g) :=
  PE.imp (pe_lst h) fun σ H Q ⟨env, cs, ω, hs, hk, h⟩ => ⟨env, cs, ω, hs, hk, h.bind.imp fun ws ω1 cs1 H1 l1 k1 h1 vs rv => by
    split at h1
    · exact ⟨by rw [rv.len]; exact szOk_of (by assumption), fun p hp => h1.now k1 p vs hp rv⟩
    · exact (show False from h1).elim⟩
def keyOf : Dt → Option Key
  | .int i => some (.inl i)
  | .str s => some (.inr s)
  | _ => none
theorem keyOf_rep {K : Frag} {H : Hp} {d : Dt} {v : V} {k : Key} (r : RepD K H v d) (e : keyOf d = some k) : v = kV k := by
  cases r <;> simp [keyOf] at e <;> subst e <;> rfl
def keyTs : List Dt → Option (List Key)
  | [] => some []
  | d :: ds => match keyOf d, keyTs ds with
    | some k, some ks => some (k :: ks)
    | _, _ => none
def keyT : Dt → Option (List Key)
  | .tup ds => keyTs ds
  | _ => none
theorem keyTs_rep {K : Frag} {H : Hp} : ∀ {ds : List Dt} {vs : List V} {ks : List Key}, RepL K H vs ds → keyTs ds = some ks → vs = ks.map kV
  | [], _, _, r, e => by cases r; cases e; rfl
  | d :: ds, _, ks, r, e => by
    cases r with
    | cons r1 r2 =>
      unfold keyTs at e
      split at e
      · rename_i k ks' e1 e2
        cases e
        rw [keyOf_rep r1 e1, keyTs_rep r2 e2]
        rfl
      · cases e
theorem keyT_rep {K : Frag} {H : Hp} {d : Dt} {v : V} {ks : List Key} (r : RepD K H v d) (e : keyT d = some ks) : ∃ b, v = .ref b ∧ H b = some (.tup (ks.map kV)) := by
  cases r with
  | tup h1 h2 =>
    have e : keyTs _ = some ks := e
    have h1 := h1.at_
    rw [keyTs_rep h2 e] at h1
    exact ⟨_, rfl, h1⟩
  | _ => cases e
def valT {α : Type} (l : List (List Key × α)) (k : List Key) : Option α := (l.find? fun p => decide (p.1 = k)).map (·.2)
def valK {α : Type} (l : List (Key × α)) (k : Key) : Option α := (l.find? fun p => decide (p.1 = k)).map (·.2)
def strIx (s : Str) (i : Int) : Option Dt := if szOk s.length = true then (atI s.cps.toList i).map fun c => .str ⟨#[c]⟩ else none
def ixI {α : Type} (l : List α) : Dt → Option α
  | .int i => atI l i
  | _ => none
def ixS (s : Str) : Dt → Option Dt
  | .int i => strIx s i
  | _ => none
def dIx : Dt → Dt → Option Dt
  | .tup l, y => ixI l y
  | .lst l, y => ixI l y
  | .str s, y => ixS s y
  | .dic l, y => (keyOf y).bind fun k => valK l k
  | .dit l, y => (keyT y).bind fun k => valT l k
  | _, _ => none
def cIx : Option Cell → Dt → Option Wv
  | some (.lst l), y => ixI l y
  | some (.dic l), y => (keyOf y).bind fun k => valK l k
  | some (.lck l), y => (keyOf y).bind fun k => valK l k
  | some (.dit _ l), y => (keyT y).bind fun k => valT l k
  | _, _ => none
def wIx (x y : Wv) (cs : List Cell) : Option Wv := match x, y with
  | .dat x, .dat y => (dIx x y).map .dat
  | .cel k, .dat y => cIx cs[k]? y
  | _, _ => none
theorem ixI_of {α : Type} {l : List α} {y : Dt} {z : α} (h : ixI l y = some z) : ∃ i, y = .int i ∧ atI l i = some z := by
  cases y with
  | int i => exact ⟨i, rfl, h⟩
  | _ => cases h
def mIx (x y : Wv) : M Wv := fun cs => M.opt (wIx x y cs) cs
def eIx (f g : Ev) : Ev := fun env => M.bind (f env) fun x => M.bind (g env) fun y => mIx x y
theorem atI_rep {K : Frag} {H : Hp} {vs : List V} {ds : List Dt} {i : Int} {d : Dt} (r : RepL K H vs ds) (e : atI ds i = some d) : ∃ v, atI vs i = some v ∧ RepD K H v d := by
  unfold atI at e ⊢
  rw [r.len]
  cases h : ixN ds.length i with
  | none => rw [h] at e; cases e
  | some j =>
    rw [h] at e
    obtain ⟨v, e1, e2⟩ := r.get e
    exact ⟨v, e1, e2⟩
theorem RepWs.get {K : Frag} {ω : Wo} {vs : List V} {ws : List Wv} (r : RepWs K ω vs ws) : ∀ {i : Nat} {w : Wv}, ws[i]? = some w → ∃ v, vs[i]? = some v ∧ RepW K ω v w := by
  induction r with
  | nil => intro i w e; simp at e
  | @cons v0 vs0 w0 ws0 h1 _ ih =>
    intro i w e
    cases i with
    | zero => simp at e; subst e; exact ⟨v0, rfl, h1⟩
    | succ i =>
      simp at e
      obtain ⟨u, q1, q2⟩ := ih e
      exact ⟨u, by simpa using q1, q2⟩
theorem atI_repW {K : Frag} {ω : Wo} {vs : List V} {ds : List Wv} {i : Int} {d : Wv} (r : RepWs K ω vs ds) (e : atI ds i = some d) : ∃ v, atI vs i = some v ∧ RepW K ω v d := by
  unfold atI at e ⊢
  rw [r.len]
  cases h : ixN ds.length i with
  | none => rw [h] at e; cases e
  | some j =>
    rw [h] at e
    obtain ⟨v, e1, e2⟩ := r.get e
    exact ⟨v, e1, e2⟩
theorem RepK.val {K : Frag} {H : Hp} : ∀ {vs : List (Key × V)} {ds : List (Key × Dt)} {k : Key} {d : Dt}, RepK K H vs ds → valK ds k = some d → ∃ v, valV vs k = some v ∧ RepD K H v d
  | [], _, k, d, h, e => by cases h; simp [valK] at e
  | (k0, v0) :: vs, _, k, d, h, e => by
    cases h with
    | @cons _ _ _ d0 ds0 h1 h2 =>
      unfold valK at e
      rw [List.find?_cons] at e
      by_cases hk : k0 = k
      · simp [hk] at e
        subst e
        exact ⟨v0, valV_pos hk, h1⟩
      · simp [hk] at e
        obtain ⟨v, e1, e2⟩ := RepK.val (k := k) (d := d) h2 (by unfold valK; simpa using e)
        exact ⟨v, by rw [valV_neg hk]; exact e1, e2⟩
theorem RepWk.val {K : Frag} {ω : Wo} : ∀ {vs : List (Key × V)} {ds : List (Key × Wv)} {k : Key} {d : Wv}, RepWk K ω vs ds → valK ds k = some d → ∃ v, valV vs k = some v ∧ RepW K ω v d
  | [], _, k, d, h, e => by cases h; simp [valK] at e
  | (k0, v0) :: vs, _, k, d, h, e => by
    cases h with
    | @cons _ _ _ d0 ds0 h1 h2 =>
      unfold valK at e
      rw [List.find?_cons] at e
      by_cases hk : k0 = k
      · simp [hk] at e
        subst e
        exact ⟨v0, valV_pos hk, h1⟩
      · simp [hk] at e
        obtain ⟨v, e1, e2⟩ := RepWk.val (k := k) (d := d) h2 (by unfold valK; simpa using e)
        exact ⟨v, by rw [valV_neg hk]; exact e1, e2⟩
theorem RepT.val {K : Frag} {H : Hp} : ∀ {vs : List (List Key × V)} {ds : List (List Key × Dt)} {k : List Key} {d : Dt}, RepT K H vs ds → valT ds k = some d → ∃ v, valV vs k = some v ∧ RepD K H v d
  | [], _, k, d, h, e => by cases h; simp [valT] at e
  | (k0, v0) :: vs, _, k, d, h, e => by
    cases h with
    | @cons _ _ _ d0 ds0 h1 h2 =>
      unfold valT at e
      rw [List.find?_cons] at e
      by_cases hk : k0 = k
      · simp [hk] at e
        subst e
        exact ⟨v0, valV_pos hk, h1⟩
      · simp [hk] at e
        obtain ⟨v, e1, e2⟩ := RepT.val (k := k) (d := d) h2 (by unfold valT; simpa using e)
        exact ⟨v, by rw [valV_neg hk]; exact e1, e2⟩
theorem RepWt.val {K : Frag} {ω : Wo} : ∀ {vs : List (List Key × V)} {ds : List (List Key × Wv)} {k : List Key} {d : Wv}, RepWt K ω vs ds → valT ds k = some d → ∃ v, valV vs k = some v ∧ RepW K ω v d
  | [], _, k, d, h, e => by cases h; simp [valT] at e
  | (k0, v0) :: vs, _, k, d, h, e => by
    cases h with
    | @cons _ _ _ d0 ds0 h1 h2 =>
      unfold valT at e
      rw [List.find?_cons] at e
      by_cases hk : k0 = k
      · simp [hk] at e
        subst e
        exact ⟨v0, valV_pos hk, h1⟩
      · simp [hk] at e
        obtain ⟨v, e1, e2⟩ := RepWt.val (k := k) (d := d) h2 (by unfold valT; simpa using e)
        exact ⟨v, by rw [valV_neg hk]; exact e1, e2⟩
def cDic : Option Cell → Bool
  | some (.dic _) => true
  | some (.lck _) => true
  | some (.dit _ _) => true
  | _ => false
def isDic (x : Wv) (cs : List Cell) : Bool := match x with
  | .dat (.dic _) => true
  | .dat (.dit _) => true
  | .cel k => cDic cs[k]?
  | _ => false
theorem ix_seq_of {K : Frag} {ω : Wo} {H : Hp} {cs : List Cell} {u v : V} {x y z : Wv} (k : Ok K ω H cs) (ru : RepW K ω u x) (rv : RepW K ω v y) (e : wIx x y cs = some z) (hd : isDic x cs = false) {Q : VK} (q : ∀ v', RepW K ω v' z → Q v' H) : rIx K u v H Q := by
  cases y with
  | cel j => cases x <;> cases e
  | dat y =>
    cases x with
    | dat x =>
      have e : (dIx x y).map Wv.dat = some z := e
      cases h : dIx x y with
      | none => rw [h] at e; cases e
      | some w =>
        rw [h] at e
        cases e
        have ru : RepD K ω.Hs u x := ru
        have rv : RepD K ω.Hs v y := rv
        cases x with
        | tup l =>
          obtain ⟨i, rfl, h⟩ := ixI_of (show ixI l y = some w from h)
          cases ru with
          | tup h1 h2 =>
            cases rv
            obtain ⟨v', e1, r1⟩ := atI_rep h2 h
            exact .inr (.inl ⟨_, _, i, v', rfl, rfl, (ex_t k.ex h1).sq, e1, q v' r1⟩)
        | lst l =>
          obtain ⟨i, rfl, h⟩ := ixI_of (show ixI l y = some w from h)
          cases ru with
          | lst h1 h2 =>
            cases rv
            obtain ⟨v', e1, r1⟩ := atI_rep h2 h
            exact .inl ⟨_, _, i, v', rfl, rfl, SqL.of (k.ex _ _ h1), e1, q v' r1⟩
        | str s =>
          cases y with
          | int i =>
            cases ru; cases rv
            have h : strIx s i = some w := h
            unfold strIx at h
            split at h
            · rename_i hz
              cases hc : atI s.cps.toList i with
              | none => rw [hc] at h; cases h
              | some c =>
                rw [hc] at h
                cases h
                exact .inr (.inr ⟨s, i, c, rfl, rfl, szOk_of hz, hc, q _ (RepD.str _)⟩)
            · cases h
          | _ => cases h
        | dic l => cases hd
        | dit l => cases hd
        | _ => cases h
    | cel j =>
      obtain ⟨a, e1, rfl⟩ := ru
      have e : cIx cs[j]? y = some z := e
      have hd : cDic cs[j]? = false := hd
      cases hc : cs[j]? with
      | none => rw [hc] at e; cases e
      | some c =>
        rw [hc] at e hd
        have qc := k.cell e1 hc
        cases c with
        | lst l =>
          obtain ⟨i, rfl, h⟩ := ixI_of (show ixI l y = some z from e)
          cases (show RepD K ω.Hs v (.int i) from rv)
          obtain ⟨_, vs, h1, h2⟩ := qc
          obtain ⟨v', e2, r1⟩ := atI_repW h2 h
          exact .inl ⟨_, _, i, v', rfl, rfl, SqL.of h1, e2, q v' r1⟩
        | dic l => cases hd
        | lck l => cases hd
        | dit b l => cases hd
        | ins C l => cases e
        | dead => cases e
theorem ix_dic_of {K : Frag} {ω : Wo} {H : Hp} {cs : List Cell} {u v : V} {x y z : Wv} (k : Ok K ω H cs) (ru : RepW K ω u x) (rv : RepW K ω v y) (e : wIx x y cs = some z) (hd : isDic x cs = true) {Q : VK} (q : ∀ v', RepW K ω v' z → Q v' H) :
    ∃ a v', u = .ref a ∧ DGet H a v (some v') ∧ Q v' H := by
  cases y with
  | cel j => cases x <;> cases e
  | dat y =>
    cases x with
    | dat x =>
      cases x with
      | dic l =>
        have e : (dIx (.dic l) y).map Wv.dat = some z := e
        cases h : dIx (.dic l) y with
        | none => rw [h] at e; cases e
        | some w =>
          rw [h] at e
          cases e
          have h : ((keyOf y).bind fun k => valK l k) = some w := h
          cases hk : keyOf y with
          | none => rw [hk] at h; cases h
          | some key =>
            rw [hk] at h
            cases (show RepD K ω.Hs u (.dic l) from ru) with
            | dic h1 h2 =>
              obtain ⟨v', e1, r1⟩ := h2.val h
              refine ⟨_, v', rfl, ?_, q v' r1⟩
              rw [keyOf_rep rv hk, ← e1]
              exact DGet.k (k.ex _ _ h1)
      | dit l =>
        have e : (dIx (.dit l) y).map Wv.dat = some z := e
        cases h : dIx (.dit l) y with
        | none => rw [h] at e; cases e
        | some w =>
          rw [h] at e
          cases e
          have h : ((keyT y).bind fun k => valT l k) = some w := h
          cases hk : keyT y with
          | none => rw [hk] at h; cases h
          | some key =>
            rw [hk] at h
            cases (show RepD K ω.Hs u (.dit l) from ru) with
            | dit h1 h2 =>
              obtain ⟨v', e1, r1⟩ := h2.val h
              obtain ⟨b, e3, e4⟩ := keyT_rep (show RepD K ω.Hs v y from rv) hk
              refine ⟨_, v', rfl, ?_, q v' r1⟩
              rw [e3, ← e1]
              exact .inr ⟨_, key, b, .inl (k.ex _ _ h1), rfl, k.ex _ _ e4, rfl⟩
      | _ => cases hd
    | cel j =>
      obtain ⟨a, e1, rfl⟩ := ru
      have e : cIx cs[j]? y = some z := e
      have hd : cDic cs[j]? = true := hd
      cases hc : cs[j]? with
      | none => rw [hc] at e; cases e
      | some c =>
        rw [hc] at e hd
        have qc := k.cell e1 hc
        cases c with
        | dic l =>
          obtain ⟨_, vs, h1, h2⟩ := qc
          have e : ((keyOf y).bind fun k => valK l k) = some z := e
          cases hk : keyOf y with
          | none => rw [hk] at e; cases e
          | some key =>
            rw [hk] at e
            obtain ⟨v', e2, r1⟩ := h2.val e
            refine ⟨_, v', rfl, ?_, q v' r1⟩
            rw [keyOf_rep rv hk, ← e2]
            exact DGet.k h1
        | lck l =>
          obtain ⟨_, o, vs, _, h1, h2⟩ := qc
          have e : ((keyOf y).bind fun k => valK l k) = some z := e
          cases hk : keyOf y with
          | none => rw [hk] at e; cases e
          | some key =>
            rw [hk] at e
            obtain ⟨v', e2, r1⟩ := h2.val e
            refine ⟨_, v', rfl, ?_, q v' r1⟩
            rw [keyOf_rep rv hk, ← e2]
            exact .inl ⟨vs, key, .inr ⟨o, h1⟩, rfl, rfl⟩
        | dit bb l =>
          obtain ⟨_, vs, h1, h2⟩ := qc
          have e : ((keyT y).bind fun k => valT l k) = some z := e
          cases hk : keyT y with
          | none => rw [hk] at e; cases e
          | some key =>
            rw [hk] at e
            obtain ⟨v', e2, r1⟩ := h2.val e
            obtain ⟨b, e3, e4⟩ := keyT_rep (show RepD K ω.Hs v y from rv) hk
            refine ⟨_, v', rfl, ?_, q v' r1⟩
            rw [e3, ← e2]
            exact .inr ⟨vs, key, b, h1.at, rfl, k.ex _ _ e4, rfl⟩
        | _ => cases hd
theorem Out.mIx {K : Frag} {mg : MG} {ω : Wo} {x y : Wv} {cs : List Cell} {F : Wv → Wo → List Cell → Hp → Prop} (h : Out K mg E ω (mIx x y cs) F) : ∃ z, wIx x y cs = some z ∧ Out K mg E ω (.ok z cs) F := Out.opt h
theorem Out.impE {K : Frag} {mg : MG} {α : Type} {ω : Wo} {F F' : α → Wo → List Cell → Hp → Prop} {r : R α} (h : Out K mg E ω r F) (f : ∀ a ω' cs' H', r = .ok a cs' → Le ω ω' → Ok K ω' H' cs' → F a ω' cs' H' → F' a ω' cs' H') : Out K mg E ω r F' := by
  cases r with
  | ok a cs => exact fun ω2 H2 l2 k2 => f a ω2 cs H2 rfl l2 k2 (h ω2 H2 l2 k2)
  | exc x cs => exact h
  | bad => exact h
/-- which rule a subscript takes is told by what it computes -/
def goesDic (f g : Ev) (env : En) (cs : List Cell) : Bool := match f env cs with
  | .ok x cs1 => match g env cs1 with
    | .ok _ cs2 => isDic x cs2
    | _ => false
  | _ => false
theorem goesDic_of {env : En} {cs cs1 cs2 : List Cell} {x y : Wv} (e1 : f env cs = .ok x cs1) (e2 : g env cs1 = .ok y cs2) : goesDic f g env cs = isDic x cs2 := by
  unfold goesDic
  rw [e1]
  show (match g env cs1 with
    | .ok _ cs2 => isDic x cs2
    | _ => false) = _
  rw [e2]
theorem ix_use {σ : L2.St} {H : Hp} {Q : VK} (h : tEv X.K X.mg E (eIx f g) σ H Q) : tOp (rIx X.K) (tEv X.K X.mg E f) (tEv X.K X.mg E g) σ H Q ∨ tDGet (tEv X.K X.mg E f) (tEv X.K X.mg E g) σ H Q := by
  obtain ⟨env, cs, ω, hs, hk, h⟩ := h
  cases hd : goesDic f g env cs with
  | false =>
    refine .inl ⟨env, cs, ω, hs, hk, h.bind.impE fun x ω1 cs1 H1 e1 l1 k1 h1 u ru => ⟨env, cs1, ω1, hs.mono l1, k1, h1.bind.impE fun y ω2 cs2 H2 e2 l2 k2 h2 v rv => ?_⟩⟩
    rw [goesDic_of e1 e2] at hd
    obtain ⟨z, ez, h3⟩ := h2.mIx
    exact ix_seq_of k2 (ru.mono l2) rv ez hd fun v' r' => h3.now k2 v' r'
  | true =>
    refine .inr ⟨env, cs, ω, hs, hk, h.bind.impE fun x ω1 cs1 H1 e1 l1 k1 h1 u ru => ⟨env, cs1, ω1, hs.mono l1, k1, h1.bind.impE fun y ω2 cs2 H2 e2 l2 k2 h2 v rv => ?_⟩⟩
    rw [goesDic_of e1 e2] at hd
    obtain ⟨z, ez, h3⟩ := h2.mIx
    exact ix_dic_of k2 (ru.mono l2) rv ez hd fun v' r' => h3.now k2 v' r'
theorem ev_ix (hu : X.A.units + 1 < cLine) (ha : EV X E a f) (hb : EV X E b g) (hs : PlainIx b := by exact fun _ _ => rfl) (hn : NoSl b := by exact fun _ _ => rfl) : EV X E (.Subscript a b pos) (eIx f g) :=
  PE.imp (PE.orr (pe_ix ix_seq ha hb hs) (pe_dget hu ha hb hn)) fun _ _ _ h => ix_use h
def cutL {α : Type} (xs : List α) (lo hi : Option Int) : List α := (xs.drop (HT.sIx xs.length 0 lo)).take (HT.sIx xs.length xs.length hi - HT.sIx xs.length 0 lo)
theorem RepL.cut {K : Frag} {H : Hp} {vs : List V} {ds : List Dt} (r : RepL K H vs ds) (lo hi : Option Int) : RepL K H (cutV vs lo hi) (cutL ds lo hi) := by
  unfold cutV cutL
  rw [r.len]
  exact (r.drop _).take _
theorem RepWs.take {K : Frag} {ω : Wo} {vs : List V} {ws : List Wv} (r : RepWs K ω vs ws) : ∀ n : Nat, RepWs K ω (vs.take n) (ws.take n) := by
  induction r with
  | nil => intro n; simp; exact .nil
  | cons h1 _ ih =>
    intro n
    cases n with
    | zero => exact .nil
    | succ n => exact .cons h1 (ih n)
theorem RepWs.drop {K : Frag} {ω : Wo} {vs : List V} {ws : List Wv} (r : RepWs K ω vs ws) : ∀ n : Nat, RepWs K ω (vs.drop n) (ws.drop n) := by
  induction r with
  | nil => intro n; simp; exact .nil
  | cons h1 h2 ih =>
    intro n
    cases n with
    | zero => exact .cons h1 h2
    | succ n => exact ih n
theorem RepWs.cut {K : Frag} {ω : Wo} {vs : List V} {ds : List Wv} (r : RepWs K ω vs ds) (lo hi : Option Int) : RepWs K ω (cutV vs lo hi) (cutL ds lo hi) := by
  unfold cutV cutL
  rw [r.len]
  exact (r.drop _).take _
abbrev EvO := En → M (Option Int)
def tEvO (K : Frag) (mg : MG) (E : XK) (f : EvO) : TO := fun σ H Q => ∃ env cs ω, StRep K ω σ env ∧ Ok K ω H cs ∧ Out K mg E ω (f env cs) fun o _ _ H' => Q o H'
def EVO (X : Cx) (E : XK) (e : Option Expr) (f : EvO) : Prop := PO X e (tEvO X.K X.mg E f)
theorem PO.imp {e : Option Expr} {t u : TO} (h : PO X e t) (i : ∀ σ H Q, u σ H Q → t σ H Q) : PO X e u := ⟨fun pins s σ H Q I z => h.run pins s σ H Q I (i σ H Q z)⟩
def oNone : EvO := fun _ => M.ret none
def asI : Wv → M (Option Int)
  | .dat (.int i) => M.ret (some i)
  | _ => M.bad
def oSome (f : Ev) : EvO := fun env => M.bind (f env) asI
theorem eo_none : EVO X E none oNone := PO.imp po_none fun σ H Q ⟨env, cs, ω, hs, hk, h⟩ => h.now hk
theorem eo_some (ha : EV X E a f) : EVO X E (some a) (oSome f) := PO.imp (po_some ha) fun σ H Q ⟨env, cs, ω, hs, hk, h⟩ => ⟨env, cs, ω, hs, hk, h.bind.imp fun x ω1 cs1 H1 l1 k1 h1 v rv => by
    cases x with
    | cel k => exact (show False from h1).elim
    | dat d =>
      cases d with
      | int i =>
        cases (show RepD X.K ω1.Hs v (.int i) from rv)
        exact ⟨i, rfl, h1.now k1⟩
      | _ => exact (show False from h1).elim⟩
def strSl (s : Str) (lo hi : Option Int) : Option Dt := if szOk s.length = true then some (.str (cutS s lo hi)) else none
def dSl (x : Dt) (lo hi : Option Int) : Option Dt := match x with
  | .lst l => some (.lst (cutL l lo hi))
  | .tup l => some (.tup (cutL l lo hi))
  | .str s => strSl s lo hi
  | _ => none
def cSl (c : Option Cell) (lo hi : Option Int) : Option Dt := match c with
  | some (.lst l) => (dats (cutL l lo hi)).map .lst
  | _ => none
def wSl (x : Wv) (lo hi : Option Int) (cs : List Cell) : Option Dt := match x with
  | .dat x => dSl x lo hi
  | .cel k => cSl cs[k]? lo hi
def mSl (x : Wv) (lo hi : Option Int) : M Wv := fun cs => M.opt ((wSl x lo hi cs).map .dat) cs
def eSl (f : Ev) (lo hi : EvO) : Ev := fun env => M.bind (f env) fun x => M.bind (lo env) fun l => M.bind (hi env) fun u => mSl x l u
def rSl3 (K : Frag) : V → Option Int → Option Int → Hp → VK → Prop := fun x lo hi H Q => rSlL K x lo hi H Q ∨ (rSlA K x lo hi H Q ∨ rSlS x lo hi H Q)
theorem sl_3 : SlR X (rSl3 X.K) := SlR.or sl_list (SlR.or sl_tupA sl_str)
theorem cutL_all {α : Type} (xs : List α) (lo hi : Option Int) (h : HT.sIx xs.length 0 lo = 0 ∧ HT.sIx xs.length xs.length hi = xs.length) : cutL xs lo hi = xs := by
  unfold cutL
  rw [h.1, h.2]
  simp
theorem sl_of {K : Frag} {ω : Wo} {H : Hp} {cs : List Cell} {u : V} {x : Wv} {z : Dt} {lo hi : Option Int} (k : Ok K ω H cs) (ru : RepW K ω u x) (e : wSl x lo hi cs = some z) {Q : VK} (q : ∀ ω' H' v', Le ω ω' → Ok K ω' H' cs → RepD K ω'.Hs v' z → Q v' H') : rSl3 K u lo hi H Q := by
  cases x with
  | dat x =>
    have ru : RepD K ω.Hs u x := ru
    have e : dSl x lo hi = some z := e
    cases ru with
    | lst h1 h2 =>
      cases e
      exact .inl ⟨_, _, rfl, SqL.of (k.ex _ _ h1), froze_use k q fun p hp => rep_lst k hp (h2.cut lo hi)⟩
    | @tup a xs ds h1 h2 =>
      cases e
      refine .inr (.inl ⟨_, _, rfl, (ex_t k.ex h1).sq, fun hw => ?_, fun hw => froze_use k q fun p hp => rep_tup k hp (h2.cut lo hi)⟩)
      rw [h2.len] at hw
      rw [cutL_all ds lo hi hw] at q
      exact q ω H _ (Le.refl _) k (.tup h1 h2)
    | str s =>
      have e : strSl s lo hi = some z := e
      unfold strSl at e
      split at e
      · cases e
        exact .inr (.inr ⟨s, rfl, szOk_of (by assumption), q ω H _ (Le.refl _) k (.str _)⟩)
      · cases e
    | _ => cases e
  | cel j =>
    obtain ⟨a, e1, rfl⟩ := ru
    have e : cSl cs[j]? lo hi = some z := e
    cases hc : cs[j]? with
    | none => rw [hc] at e; cases e
    | some c =>
      rw [hc] at e
      have qc := k.cell e1 hc
      cases c with
      | lst l =>
        obtain ⟨_, vs, h1, h2⟩ := qc
        have e : (dats (cutL l lo hi)).map Dt.lst = some z := e
        cases hd : dats (cutL l lo hi) with
        | none => rw [hd] at e; cases e
        | some ds =>
          rw [hd] at e
          cases e
          exact .inl ⟨_, _, rfl, SqL.of h1, froze_use k q fun p hp => rep_lst k hp ((h2.cut lo hi).dats hd)⟩
      | _ => cases e
theorem ev_sl {lo hi : Option Expr} {fl fh : EvO} {p2 : Pos} (ha : EV X E a f) (hl : EVO X E lo fl) (hh : EVO X E hi fh) : EV X E (.Subscript a (.Slice lo hi none p2) pos) (eSl f fl fh) :=
  PE.imp (pe_slice sl_3 ha hl hh) fun σ H Q ⟨env, cs, ω, hs, hk, h⟩ => ⟨env, cs, ω, hs, hk, h.bind.imp fun x ω1 cs1 H1 l1 k1 h1 v rv => ⟨env, cs1, ω1, hs.mono l1, k1, h1.bind.imp fun o1 ω2 cs2 H2 l2 k2 h2 =>
    ⟨env, cs2, ω2, hs.mono (l1.trans l2), k2, h2.bind.imp fun o2 ω3 cs3 H3 l3 k3 h3 => by
      have h3 : Out X.K X.mg E ω3 (M.opt ((wSl x o1 o2 cs3).map Wv.dat) cs3) _ := h3
      obtain ⟨z, e, h4⟩ := Out.map_some h3
      exact sl_of k3 (rv.mono (l2.trans l3)) e fun ω' H' v' l k r => h4 ω' H' l k v' r⟩⟩⟩
end
end DX
namespace DX
variable [TabT]
open PySem L2
section
variable {X : Cx} {E : XK} {a b c e : Expr} {es : List Expr} {pos p : Pos} {f : Ev} {g : EvA}
def CallO (K : Frag) (r : List V → Hp → VK → Prop) (o : List Wv → List Cell → Option Dt) : Prop := ∀ (ω : Wo) (H : Hp) (cs : List Cell) (vs : List V) (ws : List Wv) (z : Dt), Ok K ω H cs → RepWs K ω vs ws → o ws cs = some z →
  ∀ Q : VK, (∀ ω' H' v', Le ω ω' → Ok K ω' H' cs → RepD K ω'.Hs v' z → Q v' H') → r vs H Q
def eCall (o : List Wv → List Cell → Option Dt) (g : EvA) : Ev := fun env => M.bind (g env) fun ws => fun cs => M.opt ((o ws cs).map .dat) cs
theorem call_use {r : List V → Hp → VK → Prop} {o : List Wv → List Cell → Option Dt} (hr : CallO X.K r o) {σ : L2.St} {H : Hp} {Q : VK} (h : tEv X.K X.mg E (eCall o g) σ H Q) : tCB r (tEvA X.K X.mg E g) σ H Q := by
  obtain ⟨env, cs, ω, hs, hk, h⟩ := h
  refine ⟨env, cs, ω, hs, hk, h.bind.imp fun ws ω1 cs1 H1 l1 k1 h1 vs rv => ?_⟩
  have h1 : Out X.K X.mg E ω1 (M.opt ((o ws cs1).map Wv.dat) cs1) _ := h1
  obtain ⟨z, e, h2⟩ := Out.map_some h1
  exact hr ω1 H1 cs1 vs ws z k1 rv e Q fun ω' H' v' l k r => h2 ω' H' l k v' r
theorem ev_callB {id : String} {x : Str} {r : List V → Hp → VK → Prop} {o : List Wv → List Cell → Option Dt} (hc : CallR X (.builtin id) r) (hr : CallO X.K r o) (hg : Gl X x) (hm : X.mg x = none) (hv : bootBuiltins x = some (.builtin id)) (ha : EVA X E (e :: es) g) (hn : x ≠ "__name__" := by decide) (hdb : (x == ("__debug__" : Str)) = false := by decide)
    (he : starEach (e :: es) X.env = (false, eval e X.env) :: starEach es X.env := by rfl) (hpl : (backTo pos (starEach es X.env)).any (·.1) = false := by rfl) : EV X E (.Call (.Name x p) (e :: es) [] pos) (eCall o g) :=
  PE.imp (pe_callB hc hg hm hv ha hn hdb he hpl) fun _ _ _ h => call_use hr h
theorem ev_callTy {T : String} {x : Str} {r : List V → Hp → VK → Prop} {o : List Wv → List Cell → Option Dt} (hc : CallR X (.type T) r) (hr : CallO X.K r o) (hg : Gl X x) (hm : X.mg x = none) (hv : bootBuiltins x = some (.type T)) (ha : EVA X E (e :: es) g) (hn : x ≠ "__name__" := by decide) (hdb : (x == ("__debug__" : Str)) = false := by decide)
    (he : starEach (e :: es) X.env = (false, eval e X.env) :: starEach es X.env := by rfl) (hpl : (backTo pos (starEach es X.env)).any (·.1) = false := by rfl) : EV X E (.Call (.Name x p) (e :: es) [] pos) (eCall o g) :=
  PE.imp (pe_callTy hc hg hm hv ha hn hdb he hpl) fun _ _ _ h => call_use hr h
theorem CallO.or {K : Frag} {r s : List V → Hp → VK → Prop} {o q : List Wv → List Cell → Option Dt} (h1 : CallO K r o) (h2 : CallO K s q) : CallO K (fun xs H Q => r xs H Q ∨ s xs H Q) (fun ws cs => (o ws cs).or (q ws cs)) := fun ω H cs vs ws z k rv e Q qq => by
  have e : (o ws cs).or (q ws cs) = some z := e
  cases h : o ws cs with
  | some w =>
    rw [h] at e
    exact .inl (h1 ω H cs vs ws z k rv (h.trans e) Q qq)
  | none =>
    rw [h] at e
    exact .inr (h2 ω H cs vs ws z k rv e Q qq)
/-- one datum in, one out -/
def o1 (o : Dt → Option Dt) : List Wv → List Cell → Option Dt
  | [.dat d], _ => o d
  | _, _ => none
def o2 (o : Dt → Dt → Option Dt) : List Wv → List Cell → Option Dt
  | [.dat d, .dat e], _ => o d e
  | _, _ => none
theorem o1_of {o : Dt → Option Dt} {ws : List Wv} {cs : List Cell} {z : Dt} (h : o1 o ws cs = some z) : ∃ d, ws = [.dat d] ∧ o d = some z := by
  unfold o1 at h
  split at h
  · exact ⟨_, rfl, h⟩
  · cases h
theorem o2_of {o : Dt → Dt → Option Dt} {ws : List Wv} {cs : List Cell} {z : Dt} (h : o2 o ws cs = some z) : ∃ d e, ws = [.dat d, .dat e] ∧ o d e = some z := by
  unfold o2 at h
  split at h
  · exact ⟨_, _, rfl, h⟩
  · cases h
theorem RepWs.one {K : Frag} {ω : Wo} {vs : List V} {d : Dt} (h : RepWs K ω vs [.dat d]) : ∃ v, vs = [v] ∧ RepD K ω.Hs v d := by
  cases h with
  | cons h1 h2 => cases h2; exact ⟨_, rfl, h1⟩
theorem RepWs.two {K : Frag} {ω : Wo} {vs : List V} {d e : Dt} (h : RepWs K ω vs [.dat d, .dat e]) : ∃ v u, vs = [v, u] ∧ RepD K ω.Hs v d ∧ RepD K ω.Hs u e := by
  cases h with
  | cons h1 h2 =>
    cases h2 with
    | cons h2 h3 => cases h3; exact ⟨_, _, rfl, h1, h2⟩
def dLen : Dt → Option Dt
  | .tup l => some (.int l.length)
  | .lst l => some (.int l.length)
  | .str s => if szOk s.length = true then some (.int s.length) else none
  | .dic l => some (.int l.length)
  | .scr l => some (.int l.length)
  | _ => none
def cLen : Option Cell → Option Dt
  | some (.lst l) => some (.int l.length)
  | some (.dic l) => some (.int l.length)
  | _ => none
def oLen : List Wv → List Cell → Option Dt
  | [.dat d], _ => dLen d
  | [.cel k], cs => cLen cs[k]?
  | _, _ => none
theorem RepK.len {K : Frag} {H : Hp} : ∀ {vs : List (Key × V)} {ds : List (Key × Dt)}, RepK K H vs ds → vs.length = ds.length
  | [], _, h => by cases h; rfl
  | v :: vs, _, h => by
    cases h with
    | cons h1 h2 => simp [RepK.len h2]
theorem RepWk.len {K : Frag} {ω : Wo} {vs : List (Key × V)} {ws : List (Key × Wv)} (h : RepWk K ω vs ws) : vs.length = ws.length := by
  induction h with
  | nil => rfl
  | cons _ _ ih => simp [ih]
theorem call_len3 : CallR X (.builtin "len") (fun xs H Q => (∃ p ys, xs = [V.ref p] ∧ (SqL X.K H p ys ∨ SqT X.K H p ys) ∧ Q (.int ys.length) H) ∨ ((∃ z, xs = [V.str z] ∧ z.length ≤ sizeLine ∧ Q (.int z.length) H) ∨ (∃ a kvs, xs = [V.ref a] ∧ H a = some (.dK kvs) ∧ Q (.int kvs.length) H))) :=
  CallR.or call_len_seq (CallR.or call_len_str call_lenD)
theorem co_len {K : Frag} : CallO K (fun xs H Q => (∃ p ys, xs = [V.ref p] ∧ (SqL K H p ys ∨ SqT K H p ys) ∧ Q (.int ys.length) H) ∨ ((∃ z, xs = [V.str z] ∧ z.length ≤ sizeLine ∧ Q (.int z.length) H) ∨ (∃ a kvs, xs = [V.ref a] ∧ H a = some (.dK kvs) ∧ Q (.int kvs.length) H))) oLen := fun ω H cs vs ws z k rv e Q q => by
  unfold oLen at e
  split at e
  · obtain ⟨v, rfl, r⟩ := rv.one
    cases r with
    | tup h1 h2 => cases e; exact .inl ⟨_, _, rfl, .inr ((ex_t k.ex h1).sq), by rw [h2.len]; exact q ω H _ (Le.refl _) k (.int _)⟩
    | lst h1 h2 => cases e; exact .inl ⟨_, _, rfl, .inl (SqL.of (k.ex _ _ h1)), by rw [h2.len]; exact q ω H _ (Le.refl _) k (.int _)⟩
    | str s =>
      have e : (if szOk s.length = true then some (Dt.int s.length) else none) = some z := e
      split at e
      · cases e; exact .inr (.inl ⟨s, rfl, szOk_of (by assumption), q ω H _ (Le.refl _) k (.int _)⟩)
      · cases e
    | dic h1 h2 => cases e; exact .inr (.inr ⟨_, _, rfl, k.ex _ _ h1, by rw [h2.len]; exact q ω H _ (Le.refl _) k (.int _)⟩)
    | scr h1 => cases e; exact .inl ⟨_, _, rfl, .inl (ex_l k.ex h1), by rw [List.length_map]; exact q ω H _ (Le.refl _) k (.int _)⟩
    | _ => cases e
  · rename_i cs' j
    cases rv with
    | cons r1 r2 =>
      cases r2
      obtain ⟨a, e1, rfl⟩ := r1
      cases hc : cs[j]? with
      | none => rw [hc] at e; cases e
      | some c =>
        rw [hc] at e
        have qc := k.cell e1 hc
        cases c with
        | lst l => obtain ⟨_, vs, h1, h2⟩ := qc; cases e; exact .inl ⟨_, _, rfl, .inl (SqL.of h1), by rw [h2.len]; exact q ω H _ (Le.refl _) k (.int _)⟩
        | dic l => obtain ⟨_, vs, h1, h2⟩ := qc; cases e; exact .inr (.inr ⟨_, _, rfl, h1, by rw [h2.len]; exact q ω H _ (Le.refl _) k (.int _)⟩)
        | ins C l => cases e
        | dead => cases e
        | lck l => cases e
        | dit b l => cases e
  · cases e
theorem ev_len {x : Str} (hx : x = "len") (hg : Gl X x) (hm : X.mg x = none) (ha : EVA X E (e :: es) g)
    (he : starEach (e :: es) X.env = (false, eval e X.env) :: starEach es X.env := by rfl) (hpl : (backTo pos (starEach es X.env)).any (·.1) = false := by rfl) : EV X E (.Call (.Name x p) (e :: es) [] pos) (eCall oLen g) := by
  subst hx
  exact ev_callB call_len3 co_len hg hm boot_len ha (by decide) (by decide) he hpl
def dAbs : Dt → Option Dt
  | .int i => some (.int (if i < 0 then -i else i))
  | _ => none
def dMax2 : Dt → Dt → Option Dt
  | .int i, .int j => some (.int (if j > i then j else i))
  | _, _ => none
def dMin2 : Dt → Dt → Option Dt
  | .int i, .int j => some (.int (if j < i then j else i))
  | _, _ => none
theorem co_abs {K : Frag} : CallO K (fun xs H Q => ∃ i, xs = [V.int i] ∧ Q (.int (if i < 0 then -i else i)) H) (o1 dAbs) := fun ω H cs vs ws z k rv e Q q => by
  obtain ⟨d, rfl, e⟩ := o1_of e
  obtain ⟨v, rfl, r⟩ := rv.one
  cases d with
  | int i => cases r; cases e; exact ⟨i, rfl, q ω H _ (Le.refl _) k (.int _)⟩
  | _ => cases e
theorem co_max2 {K : Frag} : CallO K (fun xs H Q => ∃ i j, xs = [V.int i, V.int j] ∧ Q (.int (if j > i then j else i)) H) (o2 dMax2) := fun ω H cs vs ws z k rv e Q q => by
  obtain ⟨d, d', rfl, e1⟩ := o2_of e
  obtain ⟨v, u, rfl, r, r'⟩ := rv.two
  unfold dMax2 at e1
  split at e1
  · cases r; cases r'; cases e1; exact ⟨_, _, rfl, q ω H _ (Le.refl _) k (.int _)⟩
  · cases e1
theorem co_min2 {K : Frag} : CallO K (fun xs H Q => ∃ i j, xs = [V.int i, V.int j] ∧ Q (.int (if j < i then j else i)) H) (o2 dMin2) := fun ω H cs vs ws z k rv e Q q => by
  obtain ⟨d, d', rfl, e1⟩ := o2_of e
  obtain ⟨v, u, rfl, r, r'⟩ := rv.two
  unfold dMin2 at e1
  split at e1
  · cases r; cases r'; cases e1; exact ⟨_, _, rfl, q ω H _ (Le.refl _) k (.int _)⟩
  · cases e1
def dInt1 : Dt → Option Dt
  | .int i => some (.int i)
  | .bl k => some (.int (if k then 1 else 0))
  | _ => none
theorem co_int1 {K : Frag} : CallO K (fun xs H Q => (∃ i, xs = [V.int i] ∧ Q (.int i) H) ∨ ∃ k, xs = [V.bl k] ∧ Q (.int (if k then 1 else 0)) H) (o1 dInt1) := fun ω H cs vs ws z k rv e Q q => by
  obtain ⟨d, rfl, e⟩ := o1_of e
  obtain ⟨v, rfl, r⟩ := rv.one
  cases d with
  | int i => cases r; cases e; exact .inl ⟨i, rfl, q ω H _ (Le.refl _) k (.int _)⟩
  | bl i => cases r; cases e; exact .inr ⟨i, rfl, q ω H _ (Le.refl _) k (.int _)⟩
  | _ => cases e
def intsOf : List Dt → Option (List Int)
  | [] => some []
  | .int i :: l => (intsOf l).map (i :: ·)
  | _ :: _ => none
def blsOf : List Dt → Option (List Bool)
  | [] => some []
  | .bl i :: l => (blsOf l).map (i :: ·)
  | _ :: _ => none
theorem RepL.ints {K : Frag} {H : Hp} : ∀ {vs : List V} {ds : List Dt} {ns : List Int}, RepL K H vs ds → intsOf ds = some ns → vs = ns.map V.int
  | [], _, ns, h, e => by cases h; simp [intsOf] at e; subst e; rfl
  | v :: vs, _, ns, h, e => by
    cases h with
    | @cons _ _ d ds h1 h2 =>
      cases d with
      | int i =>
        simp [intsOf] at e
        obtain ⟨ms, e1, rfl⟩ := e
        cases h1
        rw [RepL.ints h2 e1]
        rfl
      | _ => simp [intsOf] at e
theorem RepL.bls {K : Frag} {H : Hp} : ∀ {vs : List V} {ds : List Dt} {ns : List Bool}, RepL K H vs ds → blsOf ds = some ns → vs = ns.map V.bl
  | [], _, ns, h, e => by cases h; simp [blsOf] at e; subst e; rfl
  | v :: vs, _, ns, h, e => by
    cases h with
    | @cons _ _ d ds h1 h2 =>
      cases d with
      | bl i =>
        simp [blsOf] at e
        obtain ⟨ms, e1, rfl⟩ := e
        cases h1
        rw [RepL.bls h2 e1]
        rfl
      | _ => simp [blsOf] at e
def dSum : Dt → Option Dt
  | .lst l => (intsOf l).map fun ns => .int ns.sum
  | _ => none
def dAll : Dt → Option Dt
  | .lst l => (blsOf l).map fun bs => .bl (bs.all id)
  | _ => none
def dAny : Dt → Option Dt
  | .lst l => (blsOf l).map fun bs => .bl (bs.any id)
  | _ => none
theorem co_sum {K : Frag} : CallO K (rSum K) (o1 dSum) := fun ω H cs vs ws z k rv e Q q => by
  obtain ⟨d, rfl, e⟩ := o1_of e
  obtain ⟨v, rfl, r⟩ := rv.one
  cases d with
  | lst l =>
    have e : (intsOf l).map (fun ns => Dt.int ns.sum) = some z := e
    cases h : intsOf l with
    | none => rw [h] at e; cases e
    | some ns =>
      rw [h] at e
      cases e
      cases r with
      | lst h1 h2 => exact ⟨_, ns, rfl, by rw [← h2.ints h]; exact SqL.of (k.ex _ _ h1), q ω H _ (Le.refl _) k (.int _)⟩
  | _ => cases e
theorem co_all {K : Frag} : CallO K (rAll K) (o1 dAll) := fun ω H cs vs ws z k rv e Q q => by
  obtain ⟨d, rfl, e⟩ := o1_of e
  obtain ⟨v, rfl, r⟩ := rv.one
  cases d with
  | lst l =>
    have e : (blsOf l).map (fun bs => Dt.bl (bs.all id)) = some z := e
    cases h : blsOf l with
    | none => rw [h] at e; cases e
    | some ns =>
      rw [h] at e
      cases e
      cases r with
      | lst h1 h2 => exact ⟨_, ns, rfl, by rw [← h2.bls h]; exact SqL.of (k.ex _ _ h1), q ω H _ (Le.refl _) k (.bl _)⟩
  | _ => cases e
theorem co_any {K : Frag} : CallO K (rAny K) (o1 dAny) := fun ω H cs vs ws z k rv e Q q => by
  obtain ⟨d, rfl, e⟩ := o1_of e
  obtain ⟨v, rfl, r⟩ := rv.one
  cases d with
  | lst l =>
    have e : (blsOf l).map (fun bs => Dt.bl (bs.any id)) = some z := e
    cases h : blsOf l with
    | none => rw [h] at e; cases e
    | some ns =>
      rw [h] at e
      cases e
      cases r with
      | lst h1 h2 => exact ⟨_, ns, rfl, by rw [← h2.bls h]; exact SqL.of (k.ex _ _ h1), q ω H _ (Le.refl _) k (.bl _)⟩
  | _ => cases e
def dListOf : Dt → Option Dt
  | .tup l => some (.lst l)
  | .lst l => some (.lst l)
  | _ => none
def dTupOf : Dt → Option Dt
  | .tup l => some (.tup l)
  | .lst l => some (.tup l)
  | _ => none
def cSeq (f : List Dt → Dt) : Option Cell → Option Dt
  | some (.lst l) => (dats l).map f
  | _ => none
def oSeq (o : Dt → Option Dt) (f : List Dt → Dt) : List Wv → List Cell → Option Dt
  | [.dat d], _ => o d
  | [.cel k], cs => cSeq f cs[k]?
  | _, _ => none
theorem oSeq_of {K : Frag} {ω : Wo} {H : Hp} {cs : List Cell} {vs : List V} {ws : List Wv} {z : Dt} {o : Dt → Option Dt} {f : List Dt → Dt} (k : Ok K ω H cs) (rv : RepWs K ω vs ws) (h : oSeq o f ws cs = some z) :
    (∃ v d, vs = [v] ∧ RepD K ω.Hs v d ∧ o d = some z) ∨ ∃ a us ds, vs = [V.ref a] ∧ H a = some (.lst us) ∧ RepL K ω.Hs us ds ∧ z = f ds := by
  unfold oSeq at h
  split at h
  · obtain ⟨v, rfl, r⟩ := rv.one
    exact .inl ⟨v, _, rfl, r, h⟩
  · rename_i cs' j
    cases rv with
    | cons r1 r2 =>
      cases r2
      obtain ⟨a, e1, rfl⟩ := r1
      cases hc : cs[j]? with
      | none => rw [hc] at h; cases h
      | some c =>
        rw [hc] at h
        have qc := k.cell e1 hc
        cases c with
        | lst l =>
          obtain ⟨_, us, h1, h2⟩ := qc
          have h : (dats l).map f = some z := h
          cases hd : dats l with
          | none => rw [hd] at h; cases h
          | some ds =>
            rw [hd] at h
            cases h
            exact .inr ⟨a, us, ds, rfl, h1, h2.dats hd, rfl⟩
        | _ => cases h
  · cases h
theorem co_list {K : Frag} : CallO K (fun xs H Q => ∃ p ys, xs = [V.ref p] ∧ (SqL K H p ys ∨ SqT K H p ys) ∧ ∀ l, H l = none → Q (.ref l) (upd H l (.lst ys))) (oSeq dListOf .lst) := fun ω H cs vs ws z k rv e Q q => by
  rcases oSeq_of k rv e with ⟨v, d, rfl, r, e⟩ | ⟨a, us, ds, rfl, h1, h2, rfl⟩
  · cases r with
    | tup h1 h2 => cases e; exact ⟨_, _, rfl, .inr ((ex_t k.ex h1).sq), froze_use k q fun p hp => rep_lst k hp h2⟩
    | lst h1 h2 => cases e; exact ⟨_, _, rfl, .inl (SqL.of (k.ex _ _ h1)), froze_use k q fun p hp => rep_lst k hp h2⟩
    | _ => cases e
  · exact ⟨_, _, rfl, .inl (SqL.of h1), froze_use k q fun p hp => rep_lst k hp h2⟩
mutual
theorem noDict_of {K : Frag} {H : Hp} : ∀ (d : PyData) (v : V), Dp K H v d → d.hasDict = false
  | .none, _, _ => rfl
  | .bool _, _, _ => rfl
  | .int _, _, _ => rfl
  | .str _, _, _ => rfl
  | .list xs, _, h => by
    cases h with
    | lst _ h2 => exact noDicts_of xs _ h2
  | .tuple xs, _, h => by
    cases h with
    | tup _ h2 => exact noDicts_of xs _ h2
  | .dict _, _, h => by cases h
theorem noDicts_of {K : Frag} {H : Hp} : ∀ (ds : List PyData) (vs : List V), DpAll K H vs ds → PyData.hasDictAll ds = false
  | [], _, _ => rfl
  | d :: ds, _, h => by
    cases h with
    | cons h1 h2 =>
      show (d.hasDict || PyData.hasDictAll ds) = false
      rw [noDict_of d _ h1, noDicts_of ds _ h2]
      rfl
end
def rRepr (K : Frag) : List V → Hp → VK → Prop := fun xs H Q => ∃ (a : Addr) (d : PyData), xs = [V.ref a] ∧ Dp K H (.ref a) d ∧ d.showable = true ∧ d.depth ≤ 64 ∧ d.shown.length ≤ sizeLine ∧ Q (.str d.shown) H
theorem cr_repr (hg : X.A.guards = some []) (hu : X.A.units + 66 < cLine) : CallR X (.builtin "repr") (rRepr X.K) := by
  intro pins s σ H xs us Q I rx h
  obtain ⟨a, d, rfl, hd, h1, h2, h3, q⟩ := h
  cases rx with
  | cons r0 r1 =>
    cases r1
    obtain rfl := r0
    obtain ⟨as, hr⟩ := Dp.reads I d (.ref a) (.ref a) hd rfl
    refine PySem.repr_of_reads' hr h1 (fun z => ?_) hg (by omega) (fun _ _ e => e) (fun h' u tk hk => ⟨.str d.shown, H, I.kept hk, ⟨u, rfl⟩, q⟩) h3
    rw [noDict_of d _ hd] at z
    cases z
def dRepr0 (x : Dt) : Option Dt := match seqOf x, py x with
  | some _, some d => if (d.showable && decide (d.depth ≤ 64) && szOk d.shown.length) = true then some (.str d.shown) else none
  | _, _ => none
theorem co_repr0 {K : Frag} : CallO K (rRepr K) (o1 dRepr0) := fun ω H cs vs ws z k rv e Q q => by
  obtain ⟨d, rfl, e0⟩ := o1_of e
  obtain ⟨v, rfl, r⟩ := rv.one
  unfold dRepr0 at e0
  split at e0
  · rename_i l d' e1 e2
    split at e0
    · rename_i hh
      simp only [Bool.and_eq_true, decide_eq_true_eq] at hh
      cases e0
      have hd := dp_of d v d' (r.up k) e2
      have ha : ∃ a, v = .ref a := by
        cases d with
        | tup l => cases r with | tup h1 h2 => exact ⟨_, rfl⟩
        | lst l => cases r with | lst h1 h2 => exact ⟨_, rfl⟩
        | _ => cases e1
      obtain ⟨a, rfl⟩ := ha
      exact ⟨a, d', rfl, hd, hh.1.1, hh.1.2, szOk_of hh.2, q ω H _ (Le.refl _) k (.str _)⟩
    · cases e0
  · cases e0
def dReprI : Dt → Option Dt
  | .int i => if decide (i.natAbs.log2 < 1920) = true then some (.str (toString i)) else none
  | _ => none
theorem co_reprI {K : Frag} : CallO K (fun xs H Q => ∃ i, xs = [V.int i] ∧ i.natAbs.log2 < 1920 ∧ Q (.str (toString i)) H) (o1 dReprI) := fun ω H cs vs ws z k rv e Q q => by
  obtain ⟨d, rfl, e⟩ := o1_of e
  obtain ⟨v, rfl, r⟩ := rv.one
  cases d with
  | int i =>
    cases r
    have e : (if decide (i.natAbs.log2 < 1920) = true then some (Dt.str (toString i)) else none) = some z := e
    split at e
    · rename_i h
      cases e
      exact ⟨i, rfl, of_decide_eq_true h, q ω H _ (Le.refl _) k (.str _)⟩
    · cases e
  | _ => cases e
def dRepr (x : Dt) : Option Dt := (dRepr0 x).or (dReprI x)
theorem co_repr {K : Frag} : CallO K (fun xs H Q => rRepr K xs H Q ∨ ∃ i, xs = [V.int i] ∧ i.natAbs.log2 < 1920 ∧ Q (.str (toString i)) H) (o1 dRepr) := by
  have e : o1 dRepr = fun ws cs => (o1 dRepr0 ws cs).or (o1 dReprI ws cs) := by
    funext ws cs
    match ws with
    | [] => rfl
    | [.dat d] => rfl
    | [.cel _] => rfl
    | .dat _ :: _ :: _ => rfl
    | .cel _ :: _ :: _ => rfl
  rw [e]
  exact CallO.or co_repr0 co_reprI
def tyN : Dt → Option String
  | .non => some "NoneType"
  | .bl _ => some "bool"
  | .int _ => some "int"
  | .str _ => some "str"
  | .tup _ => some "tuple"
  | .lst _ => some "list"
  | .dic _ => some "dict"
  | _ => none
def allTy : List String := ["NoneType", "bool", "int", "str", "tuple", "list", "dict"]
def subTy (x y : String) : Bool := x == y || (x == "bool" && y == "int")
theorem subTy_ok : ∀ x ∈ allTy, ∀ y ∈ allTy, kitB x y = some (subTy x y) := by decide +kernel
def isaB (x y : Dt) : Option Bool := match tyN x, y with
  | some n, .op (.ty m) => if allTy.contains m = true then some (subTy n m) else none
  | _, _ => none
def isaL (x : Dt) : List Dt → Option Bool
  | [] => some false
  | y :: l => match isaB x y, isaL x l with
    | some a, some b => some (a || b)
    | _, _ => none
def dIsi : Dt → Dt → Option Dt
  | x, .tup l => match tyN x with
    | some _ => (isaL x l).map .bl
    | none => none
  | x, y => (isaB x y).map .bl
theorem tyX_of {K : Frag} {ω : Wo} {H : Hp} {cs : List Cell} {v : V} {d : Dt} {n : String} (k : Ok K ω H cs) (r : RepD K ω.Hs v d) (e : tyN d = some n) : TyX K H v (.type n) ∧ n ∈ allTy := by
  cases r with
  | non => cases e; exact ⟨.base .non, by decide⟩
  | bl b => cases e; exact ⟨.base (.bl b), by decide⟩
  | int b => cases e; exact ⟨.base (.int b), by decide⟩
  | str b => cases e; exact ⟨.base (.str b), by decide⟩
  | tup h1 h2 =>
    cases e
    refine ⟨?_, by decide⟩
    exact .base (.tup (ex_t k.ex h1).at_)
  | lst h1 h2 => cases e; exact ⟨.base (.lst (k.ex _ _ h1)), by decide⟩
  | dic h1 h2 => cases e; exact ⟨.base (.dK (k.ex _ _ h1)), by decide⟩
  | obj h1 hc h2 => cases e
  | op v => cases e
  | scr h1 => cases e
  | exn h1 => cases e
  | dit h1 => cases e
  | lam h1 h2 => cases e
theorem isaB_of {K : Frag} {ω : Wo} {H : Hp} {cs : List Cell} {v u : V} {x y : Dt} {b : Bool} (k : Ok K ω H cs) (r : RepD K ω.Hs v x) (r' : RepD K ω.Hs u y) (e : isaB x y = some b) : ∃ t c, ClsV u c ∧ TyX K H v t ∧ PySem.W.kitOne K t c = some b := by
  unfold isaB at e
  split at e
  · rename_i n m e1
    split at e
    · rename_i hm
      cases e
      obtain ⟨t1, t2⟩ := tyX_of k r e1
      cases r'
      exact ⟨_, _, .ty m, t1, kit_ty (subTy_ok n t2 m (by simpa using hm))⟩
    · cases e
  · cases e
theorem isaL_of {K : Frag} {ω : Wo} {H : Hp} {cs : List Cell} {v : V} {x : Dt} {n : String} (k : Ok K ω H cs) (r : RepD K ω.Hs v x) (en : tyN x = some n) : ∀ {us : List V} {ys : List Dt} {b : Bool}, RepL K ω.Hs us ys → isaL x ys = some b → ∃ cls, Paired ClsV us cls ∧ PySem.W.kitAny K (.type n) cls = some b
  | [], _, b, h, e => by cases h; cases e; exact ⟨[], .nil, rfl⟩
  | u :: us, _, b, h, e => by
    cases h with
    | @cons _ _ y ys h1 h2 =>
      have one : ∀ b', isaB x y = some b' → ∃ c, ClsV u c ∧ PySem.W.kitOne K (.type n) c = some b' := fun b' e' => by
        unfold isaB at e'
        rw [en] at e'
        split at e'
        · rename_i n' m e1
          cases e1
          split at e'
          · rename_i hm
            cases e'
            cases h1
            exact ⟨_, .ty m, kit_ty (subTy_ok n (tyX_of k r en).2 m (by simpa using hm))⟩
          · cases e'
        · cases e'
      unfold isaL at e
      split at e
      · rename_i b1 b2 hb hl
        cases e
        obtain ⟨c, c1, c2⟩ := one b1 hb
        obtain ⟨cls, q1, q2⟩ := isaL_of k r en h2 hl
        refine ⟨c :: cls, .cons c1 q1, kitAny_cons c2 (fun z => ?_) fun z => ?_⟩
        · subst z
          exact q2
        · subst z
          rfl
      · cases e
theorem call_isi3 : CallR X (.builtin "isinstance") (fun xs H Q => rIsi X.K xs H Q ∨ (rIsiT X.K xs H Q ∨ rIsiK X.K xs H Q)) := CallR.or call_isi (CallR.or call_isiT call_isiK)
theorem co_isi {K : Frag} : CallO K (fun xs H Q => rIsi K xs H Q ∨ (rIsiT K xs H Q ∨ rIsiK K xs H Q)) (o2 dIsi) := fun ω H cs vs ws z k rv e Q q => by
  obtain ⟨x, y, rfl, e1⟩ := o2_of e
  obtain ⟨v, u, rfl, r, r'⟩ := rv.two
  unfold dIsi at e1
  split at e1
  · rename_i l
    split at e1
    · rename_i n en
      cases hb : isaL x l with
      | none => rw [hb] at e1; cases e1
      | some b =>
        rw [hb] at e1
        cases e1
        cases r' with
        | tup h1 h2 =>
          obtain ⟨cls, q1, q2⟩ := isaL_of k r en h2 hb
          have ty := (tyX_of k r en).1
          have h := (ex_t k.ex h1).at_
          exact .inr (.inl ⟨v, _, _, _, cls, b, rfl, h, q1, ty, q2, q ω H _ (Le.refl _) k (.bl _)⟩)
    · cases e1
  · cases hb : isaB x y with
    | none => rw [hb] at e1; cases e1
    | some b =>
      rw [hb] at e1
      cases e1
      obtain ⟨t, c, c1, c2, c3⟩ := isaB_of k r r' hb
      exact .inl ⟨v, u, t, c, b, rfl, c1, c2, c3, q ω H _ (Le.refl _) k (.bl _)⟩
end
end DX
namespace DX
variable [TabT]
open PySem L2
def ItW (n : Nat) (Ys : Nat → List V → Prop) : It := ⟨fun i _ => i < n, fun i H x H' => ∃ T xs, x = .ref T ∧ H T = none ∧ H' = upd H T (.tup xs) ∧ Ys i xs, fun i _ => n ≤ i⟩
theorem turn_wt {P : Program} {w : World} {K : Frag} {elts : List Expr} {kk : Nat} {tpos : Pos} {I : Addr} {fp wr : List Addr} {n : Nat} {Pt : Nat → Array Value → Prop} {Sta : Nat → Heap → Prop} {Mid : Nat → Addr → Heap → Prop} {Ys : Nat → List V → Prop}
    (W : ∀ A : Around, A.handled = none → WalksT P w A I fp wr n Pt Sta Mid) (hI : I ∈ fp) (hobj : ∀ i h, Sta i h → ∀ b ∈ fp, ∃ o, h.get? b = some o ∧ ∀ v, o.data ≠ .cell v)
    (hself : ∀ (A : Around) (i : Nat) (s : Shared) (Q : Value → Shared → Prop) (E : Value → Shared → Prop), Sta i s.heap → Q (.ref I) s → wpAny (model P w) A (pyIter (.ref I)) Q E s) (hP : ∀ i vals, Pt i vals → ∃ xs us, vals = List.toArray us ∧ Vals xs us ∧ Ys i xs ∧ xs.length ≤ sizeLine) : Turn P w K (.Tuple elts kk tpos) (ItW n Ys) fp I (fun i h => Sta i h ∧ i ≤ n) where
  mem := hI
  obj := fun i h st => hobj i h st.1
  keep := fun i h h' st k => ⟨(W { } rfl).frame i h h' st.1 k, st.2⟩
  item := by
    intro X hPr hw hK hc i pins s σ H E J hf st hg
    subst hPr hw hK
    have WA := W X.A (J.ok.hd hc)
    refine WA.item i s _ _ hg st.1 fun T vals h' tk hPt hge hT hM hk => ?_
    refine ⟨_, rfl, WA.go elts kk tpos i T { s with heap := h', toks := tk } _ _ hM fun h'' st' hk' => ?_⟩
    obtain ⟨xs, us, e1, rv, hy, hz⟩ := hP i vals hPt
    obtain ⟨o, ho, oc, m, od⟩ := hT
    have hT2 : h''.get? T = some o := hk' T o (WA.apart i T _ hM) ho
    have new : ObjOk X.prog X.w (upd H T (.tup xs)) h'' T (.tup xs) := ⟨hz, us, rv, o, hT2, oc, m, by rw [od, e1]⟩
    have sub : ∀ b ∈ wr, b ∈ fp := WA.sub
    refine ⟨.ref T, _, J.turnedNew (t' := tk) (ch := wr) (fun b ob hb q => hk' b ob hb (hk b ob hb q)) (fun b hb => hf b (sub b hb)) hge new, rfl, ⟨T, xs, rfl, J.hok.fresh hge, rfl, hy⟩, ⟨st', hg⟩, fun b hb => ?_⟩
    obtain ⟨ob, q, _⟩ := hobj i _ st.1 b hb
    rw [upd_ne (Nat.ne_of_lt (Nat.lt_of_lt_of_le (Heap.lt_size q) hge))]
    exact (hf b hb).1
  done := by
    intro X hPr hw hK hc i pins s σ H E J hf st hg
    subst hPr hw hK
    have WA := W X.A (J.ok.hd hc)
    have e : i = n := Nat.le_antisymm st.2 hg
    subst e
    exact WA.done s _ _ st.1 fun h' tk hk => ⟨rfl, J.turnedL (ch := wr) (t' := tk) hk fun b hb => hf b (WA.sub b hb)⟩
  self := fun A i s Q E st h => hself A i s Q E st.1 h
def signY (z : Str) (i : Nat) (v : V) : Prop := ∃ c, z.cps[i]? = some c ∧ v = .str ⟨#[c]⟩
theorem striter_obj {h : Heap} {it : Addr} {ty : String} {x : Str} {t : Tok} {i : Nat} (st : h.IsStrIter it ty x t i) : ∃ o, h.get? it = some o ∧ ∀ v, o.data ≠ .cell v := by
  obtain ⟨o, ho, hc, hd⟩ := st
  exact ⟨o, ho, fun v z => by rw [hd] at z; cases z⟩
section
variable {X : Cx} {e e2 : Expr} {ta : TA} {p pos tpos : Pos} {elts : List Expr} {kk : Nat}
def iEnumS (ta : TA) : TI := fun σ H R => ta σ H fun vs H1 => ∃ z, vs = [V.str z] ∧ R (ItW z.cps.size fun i xs => ∃ v, signY z i v ∧ xs = [.int (i : Nat), v]) H1
theorem pi_enumS (hg : Gl X "enumerate") (hm : X.mg "enumerate" = none) (ha : PA X [e] ta) (hs : starEach [e] X.env = [(false, eval e X.env)] := by rfl) :
    PI X (.Tuple elts kk tpos) (.Call (.Name "enumerate" p) [e] [] pos) (iEnumS ta) := by
  refine ⟨fun pins s σ H R J h => PyProof.Rows.Call_ (ld_blt J hg hm PyProof.Rows.boot_enumerate (PyProof.Rows.callWith_type1 (thn (ha.run pos pins s σ H _ J h) fun us s1 q => ?_) hs rfl))⟩
  obtain ⟨vs, H1, J1, r1, z, ez, qR⟩ := q
  subst ez
  cases r1 with
  | cons r rr =>
    cases rr
    obtain ⟨t, rfl⟩ := r
    refine call_enumerate_str fun h' he hit hsz hk => wpAny_pyIter_enum he ?_
    have J2 : L2.Inv X pins σ H1 { s1 with heap := h' } := J1.kept (t' := s1.toks) hk
    have hne : s1.heap.objs.size + 1 ≠ s1.heap.objs.size := Nat.succ_ne_self _
    refine ⟨s1.heap.objs.size + 1, [s1.heap.objs.size + 1, s1.heap.objs.size], _, _, H1, rfl, J2, turn_wt (fun A hA => WalksT.enumerateD (Draws.text (A := A.in1) hA s1.heap.objs.size z t) (s1.heap.objs.size + 1) hne (by simpa using hne) (by simp)) (by simp) (fun i h st b hb => ?_) (fun A i s Q E st h => let ⟨⟨_, hq⟩, _⟩ := st; wpAny_pyIter_enum hq h) (fun i vals hp => ?_), ⟨⟨⟨.none, he⟩, hit⟩, Nat.zero_le _⟩, fun b hb => ?_, qR⟩
    · obtain ⟨⟨old, hq⟩, hs⟩ := st
      have e' : b = s1.heap.objs.size + 1 ∨ b = s1.heap.objs.size := by simpa using hb
      rcases e' with y | y <;> rw [y]
      · exact ⟨_, hq, fun v q => nomatch q⟩
      · exact striter_obj hs
    · obtain ⟨t', x, ⟨c, u, hc, rfl⟩, rfl⟩ := hp
      exact ⟨[.int (i : Nat), .str ⟨#[c]⟩], [.int i t', .str ⟨#[c]⟩ u], rfl, .cons ⟨_, rfl⟩ (.cons ⟨_, rfl⟩ .nil), ⟨_, ⟨c, hc, rfl⟩, rfl⟩, by show 2 ≤ sizeLine; decide⟩
    · have hle : s1.heap.objs.size ≤ b := by
        have e' : b = s1.heap.objs.size + 1 ∨ b = s1.heap.objs.size := by simpa using hb
        rcases e' with y | y <;> rw [y]
        · exact Nat.le_succ _
        · exact Nat.le_refl _
      exact J1.fpOk hle (J1.hok.fresh hle)
def iZipS (ta : TA) : TI := fun σ H R => ta σ H fun vs H1 => ∃ y z, vs = [V.str y, V.str z] ∧ R (ItW (min y.cps.size z.cps.size) fun i xs => ∃ u v, signY y i u ∧ signY z i v ∧ xs = [u, v]) H1
theorem pi_zipS (hg : Gl X "zip") (hm : X.mg "zip" = none) (ha : PA X [e, e2] ta)
    (hs : starEach [e, e2] X.env = (false, eval e X.env) :: starEach [e2] X.env := by rfl) (hpl : (backTo pos (starEach [e2] X.env)).any (·.1) = false := by rfl) :
    PI X (.Tuple elts kk tpos) (.Call (.Name "zip" p) [e, e2] [] pos) (iZipS ta) := by
  refine ⟨fun pins s σ H R J h => PyProof.Rows.Call_ (ld_blt J hg hm PyProof.Rows.boot_zip (PyProof.Rows.callWith_type1 (thn (ha.run pos pins s σ H _ J h) fun us s1 q => ?_) hs hpl))⟩
  obtain ⟨vs, H1, J1, r1, y, z, ez, qR⟩ := q
  subst ez
  cases r1 with
  | cons r rr =>
    cases rr with
    | cons r' rr =>
      cases rr
      obtain ⟨t, rfl⟩ := r
      obtain ⟨t', rfl⟩ := r'
      refine zip_begins2 (begins_text y t) (begins_text z t') trivial trivial fun h' hz hTI hTO h1 h2 hsz hk => wpAny_pyIter_zip hz ?_
      have J2 : L2.Inv X pins σ H1 { s1 with heap := h' } := J1.kept (t' := s1.toks) hk
      have S : ZipSep2 (s1.heap.objs.size + 4) (s1.heap.objs.size + 2) (s1.heap.objs.size + 3) s1.heap.objs.size (s1.heap.objs.size + 1) [s1.heap.objs.size] [s1.heap.objs.size + 1] := zip_sep2 (fun b hb => nomatch hb) fun b hb => nomatch hb
      refine ⟨s1.heap.objs.size + 4, _, _, _, H1, rfl, J2, turn_wt (fun A hA => WalksT.zipD2 S (Draws.text (A := A.in1) hA _ y t) (Draws.text (A := A.in1) hA _ z t')) (by simp) (fun i h st b hb => ?_) (fun A i s Q E st h => wpAny_pyIter_zip st.1 h) (fun i vals hp => ?_),
        ⟨⟨hz, hTI, ⟨_, _, hTO⟩, ⟨_, h1, rfl, rfl⟩, ⟨_, h2, rfl, rfl⟩⟩, Nat.zero_le _⟩, fun b hb => ?_, qR⟩
      · obtain ⟨q1, q2, ⟨_, _, q3⟩, q4, q5⟩ := st
        have e' : b = s1.heap.objs.size + 4 ∨ b = s1.heap.objs.size + 2 ∨ b = s1.heap.objs.size + 3 ∨ b = s1.heap.objs.size ∨ b = s1.heap.objs.size + 1 := by simpa using hb
        rcases e' with w | w | w | w | w <;> rw [w]
        · exact ⟨_, q1, fun v q => nomatch q⟩
        · exact ⟨_, q2, fun v q => nomatch q⟩
        · exact ⟨_, q3, fun v q => nomatch q⟩
        · exact striter_obj q4
        · exact striter_obj q5
      · obtain ⟨x1, x2, ⟨c, u, hc, rfl⟩, ⟨c', u', hc', rfl⟩, rfl⟩ := hp
        exact ⟨[.str ⟨#[c]⟩, .str ⟨#[c']⟩], [.str ⟨#[c]⟩ u, .str ⟨#[c']⟩ u'], rfl, .cons ⟨_, rfl⟩ (.cons ⟨_, rfl⟩ .nil), ⟨_, _, ⟨c, hc, rfl⟩, ⟨c', hc', rfl⟩, rfl⟩, by show 2 ≤ sizeLine; decide⟩
      · have hle : s1.heap.objs.size ≤ b := by
          have e' : b = s1.heap.objs.size + 4 ∨ b = s1.heap.objs.size + 2 ∨ b = s1.heap.objs.size + 3 ∨ b = s1.heap.objs.size ∨ b = s1.heap.objs.size + 1 := by simpa using hb
          rcases e' with w | w | w | w | w <;> rw [w]
          · exact Nat.le_add_right _ _
          · exact Nat.le_add_right _ _
          · exact Nat.le_add_right _ _
          · exact Nat.le_refl _
          · exact Nat.le_add_right _ _
        exact J1.fpOk hle (J1.hok.fresh hle)
end
def SqK (k : Bool) (K : Frag) (H : Hp) (a : Addr) (xs : List V) : Prop := match k with
  | true => SqL K H a xs
  | false => SqT K H a xs
def InK (k : Bool) (h : Heap) (a : Addr) (xs : Array Value) : Prop := match k with
  | true => h.IsList a xs
  | false => h.IsTuple a xs
def ItK (k : Bool) (h : Heap) (it a : Addr) (i : Nat) : Prop := match k with
  | true => h.IsListIter it a i
  | false => h.IsTupleIter it a i
def obK (k : Bool) (a : Addr) : Obj := match k with
  | true => { cls := .type "list_iterator", data := .fields #[.ref a, .int 0 0] }
  | false => { cls := .type "tuple_iterator", data := .fields #[.ref a, .int 0 0] }
theorem drawsK {P : Program} {w : World} {A : Around} (hh : A.handled = none) (k : Bool) (it a : Addr) (hne : a ≠ it) (xs : Array Value) : Draws P w A it [it, a] xs.size (fun i v => xs[i]? = some v) (fun i h => ItK k h it a i ∧ InK k h a xs) := by
  cases k with
  | true => exact Draws.list hh it a hne xs
  | false => exact Draws.tuple hh it a hne xs
theorem beginsK (k : Bool) (a : Addr) (xs : Array Value) : Begins (.ref a) (obK k a) fun h => InK k h a xs := by
  cases k with
  | true => exact begins_list a xs
  | false => exact begins_tuple a xs
theorem itK_of {k : Bool} {h : Heap} {it a : Addr} (e : h.get? it = some (obK k a)) : ItK k h it a 0 := by
  cases k <;> exact ⟨_, e, rfl, rfl⟩
theorem itK_obj {k : Bool} {h : Heap} {it a : Addr} {i : Nat} (st : ItK k h it a i) : ∃ o, h.get? it = some o ∧ ∀ v, o.data ≠ .cell v := by
  cases k <;> exact let ⟨o, e, _, d⟩ := st; ⟨o, e, fun v z => by rw [d] at z; cases z⟩
theorem itK_keep {k : Bool} {h h' : Heap} {it a : Addr} {i : Nat} (st : ItK k h it a i) (e : ∀ o, h.get? it = some o → h'.get? it = some o) : ItK k h' it a i := by
  cases k <;> exact let ⟨o, q, r⟩ := st; ⟨o, e o q, r⟩
theorem invK {X : Cx} {pins : List (Addr × Obj)} {σ : L2.St} {H : Hp} {s : Shared} {k : Bool} {a : Addr} {xs : List V} (J : L2.Inv X pins σ H s) (h : SqK k X.K H a xs) : ∃ us : List Value, Vals xs us ∧ InK k s.heap a us.toArray ∧ a < s.heap.objs.size := by
  cases k with
  | true =>
    obtain ⟨us, rv, p, _⟩ := J.list h
    exact ⟨us, rv, p.isList, p.lt⟩
  | false =>
    obtain ⟨us, rv, p, _⟩ := J.tuple h
    obtain ⟨o, ho, _⟩ := id p
    exact ⟨us, rv, p, Heap.lt_size ho⟩
def Itz2 (K : Frag) (k1 k2 : Bool) (a b : Addr) (xs ys : List V) : It :=
  ⟨fun i H => SqK k1 K H a xs ∧ SqK k2 K H b ys ∧ i < min xs.length ys.length, fun i H v H' => ∃ T x y, v = .ref T ∧ H T = none ∧ H' = upd H T (.tup [x, y]) ∧ xs[i]? = some x ∧ ys[i]? = some y, fun i H => SqK k1 K H a xs ∧ SqK k2 K H b ys ∧ i = min xs.length ys.length⟩
theorem turn_zipK {P : Program} {w : World} {K : Frag} {elts : List Expr} {kk : Nat} {tpos : Pos} {k1 k2 : Bool} {a b z TI TO i1 i2 : Addr} {xs ys : List V} (S : ZipSep2 z TI TO i1 i2 [i1, a] [i2, b]) (na : a ≠ i1) (nb : b ≠ i2) :
    Turn P w K (.Tuple elts kk tpos) (Itz2 K k1 k2 a b xs ys) [z, TI, TO, i1, i2] z (fun i h => IsZip h z TI TO .none ∧ IsTupOf2 h TI (.ref i1) (.ref i2) ∧ (∃ p q, IsTupOf2 h TO p q) ∧ ItK k1 h i1 a i ∧ ItK k2 h i2 b i) where
  mem := List.mem_cons_self
  obj := fun i h st c hc => by
    obtain ⟨q1, q2, ⟨_, _, q3⟩, q4, q5⟩ := st
    simp only [List.mem_cons, List.not_mem_nil, or_false] at hc
    rcases hc with e | e | e | e | e <;> rw [e]
    · exact ⟨_, q1, fun v y => nomatch y⟩
    · exact ⟨_, q2, fun v y => nomatch y⟩
    · exact ⟨_, q3, fun v y => nomatch y⟩
    · exact itK_obj q4
    · exact itK_obj q5
  keep := fun i h h' st e => by
    obtain ⟨q1, q2, ⟨p, q, q3⟩, q4, q5⟩ := st
    exact ⟨e z (by simp) _ q1, e TI (by simp) _ q2, ⟨p, q, e TO (by simp) _ q3⟩, itK_keep q4 fun o y => e i1 (by simp) o y, itK_keep q5 fun o y => e i2 (by simp) o y⟩
  item := by
    intro X hPr hw hK hc i pins s σ H E J hf st hg
    subst hPr hw hK
    obtain ⟨q1, q2, q3, q4, q5⟩ := st
    obtain ⟨g1, g2, hi⟩ := hg
    obtain ⟨us, rv, p1, _⟩ := invK J g1
    obtain ⟨us2, rv2, p2, _⟩ := invK J g2
    have hA : X.A.in1.handled = none := J.ok.hd hc
    have W := GoesN.zip2 (elts := elts) (x1 := kk) (pos := tpos) S (drawsK (P := X.prog) (w := X.w) hA k1 i1 a na us.toArray) (drawsK hA k2 i2 b nb us2.toArray)
    have s1 := rv.length
    have s2 := rv2.length
    refine W.goes i s _ _ (by simp only [List.size_toArray]; omega) ⟨q1, q2, q3, ⟨q4, p1⟩, ⟨q5, p2⟩⟩ fun v h' tk Y st' k htk => ?_
    obtain ⟨T, u, u2, rfl, hge, e1, e2, o, ho, oc, m, od⟩ := Y
    obtain ⟨t1, t2, t3, ⟨t4, _⟩, ⟨t5, _⟩⟩ := st'
    have b1 : i < xs.length := by omega
    have b2 : i < ys.length := by omega
    obtain ⟨v1, c1, r1⟩ := rv.get (List.getElem?_eq_getElem b1)
    obtain ⟨v2, c2, r2⟩ := rv2.get (List.getElem?_eq_getElem b2)
    have e1 : us[i]? = some u := by simpa using e1
    have e2 : us2[i]? = some u2 := by simpa using e2
    rw [c1] at e1
    rw [c2] at e2
    cases e1
    cases e2
    have new : ObjOk X.prog X.w (upd H T (.tup [xs[i], ys[i]])) h' T (.tup [xs[i], ys[i]]) := ⟨by show 2 ≤ sizeLine; decide, [u, u2], .cons r1 (.cons r2 .nil), o, ho, oc, m, od⟩
    refine ⟨.ref T, _, J.turnedNew (t' := tk) (ch := [z, TO, i1, i2]) k (fun c hc' => hf c (by simp only [List.mem_cons, List.not_mem_nil, or_false] at hc' ⊢; rcases hc' with y | y | y | y <;> simp [y])) hge new, rfl, ⟨T, xs[i], ys[i], rfl, J.hok.fresh hge, rfl, List.getElem?_eq_getElem b1, List.getElem?_eq_getElem b2⟩, ⟨t1, t2, t3, t4, t5⟩, fun c hc' => ?_⟩
    have old : c < s.heap.objs.size := by
      obtain ⟨_, _, q3⟩ := q3
      obtain ⟨_, q4, _⟩ := itK_obj q4
      obtain ⟨_, q5, _⟩ := itK_obj q5
      simp only [List.mem_cons, List.not_mem_nil, or_false] at hc'
      rcases hc' with y | y | y | y | y <;> rw [y]
      · exact Heap.lt_size q1
      · exact Heap.lt_size q2
      · exact Heap.lt_size q3
      · exact Heap.lt_size q4
      · exact Heap.lt_size q5
    rw [upd_ne (Nat.ne_of_lt (Nat.lt_of_lt_of_le old hge))]
    exact (hf c hc').1
  done := by
    intro X hPr hw hK hc i pins s σ H E J hf st hg
    subst hPr hw hK
    obtain ⟨q1, q2, q3, q4, q5⟩ := st
    obtain ⟨g1, g2, hi⟩ := hg
    obtain ⟨us, rv, p1, _⟩ := invK J g1
    obtain ⟨us2, rv2, p2, _⟩ := invK J g2
    have hA : X.A.in1.handled = none := J.ok.hd hc
    have W := GoesN.zip2 (elts := elts) (x1 := kk) (pos := tpos) S (drawsK (P := X.prog) (w := X.w) hA k1 i1 a na us.toArray) (drawsK hA k2 i2 b nb us2.toArray)
    have s1 := rv.length
    have s2 := rv2.length
    have ei : i = min us.toArray.size us2.toArray.size := by simp only [List.size_toArray]; omega
    subst ei
    exact wpAny_mono (W.stops s (fun s' => L2.Inv X pins σ H s') _ ⟨q1, q2, q3, ⟨q4, p1⟩, ⟨q5, p2⟩⟩ fun h' tk k _ => J.turnedL (ch := [z, TO, i1, i2]) (t' := tk) k fun c hc' => hf c (by simp only [List.mem_cons, List.not_mem_nil, or_false] at hc' ⊢; rcases hc' with y | y | y | y <;> simp [y])) (fun _ _ y => y) fun _ _ y => y
  self := fun A i s Q E st h => wpAny_pyIter_zip st.1 h
section
variable {X : Cx} {e e2 : Expr} {ta : TA} {p pos tpos : Pos} {elts : List Expr} {kk : Nat}
def iZipK (K : Frag) (ta : TA) : TI := fun σ H R => ta σ H fun vs H1 => ∃ k1 k2 a b xs ys, vs = [.ref a, .ref b] ∧ SqK k1 K H1 a xs ∧ SqK k2 K H1 b ys ∧ R (Itz2 K k1 k2 a b xs ys) H1
theorem pi_zipK (hg : Gl X "zip") (hm : X.mg "zip" = none) (ha : PA X [e, e2] ta)
    (hs : starEach [e, e2] X.env = (false, eval e X.env) :: starEach [e2] X.env := by rfl) (hpl : (backTo pos (starEach [e2] X.env)).any (·.1) = false := by rfl) :
    PI X (.Tuple elts kk tpos) (.Call (.Name "zip" p) [e, e2] [] pos) (iZipK X.K ta) := by
  refine ⟨fun pins s σ H R J h => PyProof.Rows.Call_ (ld_blt J hg hm PyProof.Rows.boot_zip (PyProof.Rows.callWith_type1 (thn (ha.run pos pins s σ H _ J h) fun us s1 q => ?_) hs hpl))⟩
  obtain ⟨vs, H1, J1, r1, k1, k2, a, b, xs, ys, ev, g1, g2, qR⟩ := q
  subst ev
  cases r1 with
  | cons r rr =>
    cases rr with
    | cons r' rr =>
      cases rr
      cases r
      cases r'
      obtain ⟨us, rv, p1, l1⟩ := invK J1 g1
      obtain ⟨us2, rv2, p2, l2⟩ := invK J1 g2
      refine zip_begins2 (beginsK k1 a us.toArray) (beginsK k2 b us2.toArray) p1 p2 fun h' hz hTI hTO h1 h2 hsz hk => wpAny_pyIter_zip hz ?_
      have J2 : L2.Inv X pins σ H1 { s1 with heap := h' } := J1.kept (t' := s1.toks) hk
      have S : ZipSep2 (s1.heap.objs.size + 4) (s1.heap.objs.size + 2) (s1.heap.objs.size + 3) s1.heap.objs.size (s1.heap.objs.size + 1) [s1.heap.objs.size, a] [s1.heap.objs.size + 1, b] := zip_sep2 (fun c hc => by rw [List.mem_singleton.mp hc]; exact l1) fun c hc => by rw [List.mem_singleton.mp hc]; exact l2
      refine ⟨s1.heap.objs.size + 4, _, _, _, H1, rfl, J2, turn_zipK (k1 := k1) (k2 := k2) (xs := xs) (ys := ys) S (Nat.ne_of_lt l1) (Nat.ne_of_lt (Nat.lt_succ_of_lt l2)), ⟨hz, hTI, ⟨_, _, hTO⟩, itK_of h1, itK_of h2⟩, fun c hc => ?_, qR⟩
      have hle : s1.heap.objs.size ≤ c := by
        simp only [List.mem_cons, List.not_mem_nil, or_false] at hc
        rcases hc with y | y | y | y | y <;> rw [y]
        · exact Nat.le_add_right _ _
        · exact Nat.le_add_right _ _
        · exact Nat.le_add_right _ _
        · exact Nat.le_refl _
        · exact Nat.le_add_right _ _
      exact J1.fpOk hle (J1.hok.fresh hle)
end
/-- as Le, whatever else is kept -/
structure Lf (ω ω' : Wo) : Prop where
  ex : Ex ω.Hs ω'.Hs
  ad : ω.ad <+: ω'.ad
  tb : ω'.T = ω.T
theorem Le.lf {ω ω' : Wo} (l : Le ω ω') : Lf ω ω' := ⟨l.ex, l.ad, l.tb⟩
structure WOk (K : Frag) (J : It) (ω : Wo) (ws : List Wv) : Prop where
  goes : ∀ i ω' H cs, i < ws.length → Lf ω ω' → Ok K ω' H cs → J.go i H
  stops : ∀ ω' H cs, Lf ω ω' → Ok K ω' H cs → J.stop ws.length H
  yields : ∀ i ω' H cs x H', i < ws.length → Lf ω ω' → Ok K ω' H cs → J.yld i H x H' → ∃ ω'', Le ω' ω'' ∧ Ok K ω'' H' cs ∧ ∃ w, ws[i]? = some w ∧ RepW K ω'' x w
abbrev EvI := En → M (List Wv)
def tEvI (K : Frag) (mg : MG) (E : XK) (f : EvI) : TI := fun σ H R => ∃ env cs ω, StRep K ω σ env ∧ Ok K ω H cs ∧ Out K mg E ω (f env cs) fun ws ω' _ H' => ∀ J, WOk K J ω' ws → R J H'
def EVI (X : Cx) (E : XK) (tg e : Expr) (f : EvI) : Prop := PI X tg e (tEvI X.K X.mg E f)
theorem PI.imp {X : Cx} {tg e : Expr} {t u : TI} (h : PI X tg e t) (i : ∀ σ H R, u σ H R → t σ H R) : PI X tg e u := ⟨fun pins s σ H R I q => h.run pins s σ H R I (i σ H R q)⟩
theorem PI.orr {X : Cx} {tg e : Expr} {t u : TI} (h : PI X tg e t) (g : PI X tg e u) : PI X tg e (fun σ H R => t σ H R ∨ u σ H R) := ⟨fun pins s σ H R I z => z.elim (h.run pins s σ H R I) (g.run pins s σ H R I)⟩
section
variable {K : Frag} {ω : Wo} {a b : Addr} {vs us : List V} {ds es : List Dt}
theorem wok_of {J : It} {n : Nat} {G : Hp → Prop} {Y : Nat → Hp → V → Hp → Prop} {ws : List Wv} (W : Walk J n G Y) (hn : ws.length = n) (hG : ∀ ω' H cs, Lf ω ω' → Ok K ω' H cs → G H)
    (hY : ∀ i ω' H cs x H', i < n → Lf ω ω' → Ok K ω' H cs → Y i H x H' → ∃ ω'', Le ω' ω'' ∧ Ok K ω'' H' cs ∧ ∃ w, ws[i]? = some w ∧ RepW K ω'' x w) : WOk K J ω ws := by
  subst hn
  exact ⟨fun i ω' H cs hi l k => W.goes i H hi (hG ω' H cs l k), fun ω' H cs l k => W.stops H (hG ω' H cs l k), fun i ω' H cs x H' hi l k y => hY i ω' H cs x H' hi l k (W.yields i H x H' hi (hG ω' H cs l k) y)⟩
theorem map_dat_get {ds : List Dt} {i : Nat} {d : Dt} (h : ds[i]? = some d) : (ds.map Wv.dat)[i]? = some (.dat d) := by simp [h]
theorem RepL.at {H : Hp} (r : RepL K H vs ds) {i : Nat} {x : V} (h : vs[i]? = some x) : ∃ d, ds[i]? = some d ∧ RepD K H x d := by
  have hi : i < ds.length := by
    rw [← r.len]
    exact (List.getElem?_eq_some_iff.mp h).1
  obtain ⟨v, e1, r1⟩ := r.get (List.getElem?_eq_getElem hi)
  rw [h] at e1
  cases e1
  exact ⟨_, List.getElem?_eq_getElem hi, r1⟩
theorem wok_list (h : ω.Hs a = some (.lst vs)) (r : RepL K ω.Hs vs ds) : WOk K (Itl K a) ω (ds.map .dat) :=
  wok_of walk_list (by simp [r.len]) (fun ω' H cs l k => SqL.of (k.ex _ _ (l.ex _ _ h))) fun i ω' H cs x H' hi l k y => by
    obtain ⟨rfl, y⟩ := y
    obtain ⟨d, e1, r1⟩ := r.at y
    exact ⟨ω', Le.refl _, k, _, map_dat_get e1, RepD.mono l.ex _ _ r1⟩
theorem wok_scr {ns : List Int} (h : SqL K ω.Hs a (ns.map V.int)) : WOk K (Itl K a) ω (ns.map fun i => .dat (.int i)) :=
  wok_of walk_list (by simp) (fun ω' H cs l k => ex_l k.ex (ex_l l.ex h)) fun i ω' H cs x H' hi l k y => by
    obtain ⟨rfl, y⟩ := y
    rw [List.getElem?_map] at y
    cases e : ns[i]? with
    | none => rw [e] at y; cases y
    | some z =>
      rw [e] at y
      cases y
      exact ⟨ω', Le.refl _, k, .dat (.int z), by simp [e], .int z⟩
theorem wok_tup (h : TupAt K ω.Hs a vs) (r : RepL K ω.Hs vs ds) : WOk K (Itt K a) ω (ds.map .dat) :=
  wok_of walk_tup (by simp [r.len]) (fun ω' H cs l k => (ex_t k.ex (ex_t l.ex h)).sq) fun i ω' H cs x H' hi l k y => by
    obtain ⟨rfl, y⟩ := y
    obtain ⟨d, e1, r1⟩ := r.at y
    exact ⟨ω', Le.refl _, k, _, map_dat_get e1, RepD.mono l.ex _ _ r1⟩
def signs (z : Str) : List Wv := z.cps.toList.map fun c => .dat (.str ⟨#[c]⟩)
theorem signs_get {z : Str} {i c : Nat} (h : z.cps[i]? = some c) : (signs z)[i]? = some (.dat (.str ⟨#[c]⟩)) := by
  unfold signs
  rw [List.getElem?_map, Array.getElem?_toList, h]
  rfl
theorem wok_str {z : Str} : WOk K (Its z) ω (signs z) :=
  wok_of walk_str (by simp [signs]) (fun _ _ _ _ _ => trivial) fun i ω' H cs x H' hi l k y => by
    obtain ⟨rfl, c, e1, rfl⟩ := y
    exact ⟨ω', Le.refl _, k, _, signs_get e1, RepD.str _⟩
def rangeW (lo : Int) (n : Nat) : List Wv := (List.range n).map fun (i : Nat) => .dat (.int (lo + i))
theorem wok_range {lo : Int} {n : Nat} : WOk K (Itr lo n) ω (rangeW lo n) :=
  wok_of walk_range (by simp [rangeW]) (fun _ _ _ _ _ => trivial) fun i ω' H cs x H' hi l k y => by
    obtain ⟨rfl, rfl⟩ := y
    exact ⟨ω', Le.refl _, k, .dat (.int (lo + (i : Nat))), by simp [rangeW, hi], RepD.int _⟩
/-- new pairs -/
theorem pair_use {ω' : Wo} {H : Hp} {cs : List Cell} {T : Addr} {xs : List V} {zs : List Dt} (k : Ok K ω' H cs) (hT : H T = none) (r : RepL K ω'.Hs xs zs) : ∃ ω'', Le ω' ω'' ∧ Ok K ω'' (upd H T (.tup xs)) cs ∧ RepW K ω'' (.ref T) (.dat (.tup zs)) :=
  ⟨ω'.froze T (.tup xs), Le.froze k hT, k.froze hT, rep_tup k hT r⟩
theorem RepL.two {H : Hp} {x y : V} {d e : Dt} (h1 : RepD K H x d) (h2 : RepD K H y e) : RepL K H [x, y] [d, e] := .cons h1 (.cons h2 .nil)
def enumW (ds : List Dt) : List Wv := ds.mapIdx fun i d => .dat (.tup [.int (i : Nat), d])
theorem wok_enum (h : ω.Hs a = some (.lst vs)) (r : RepL K ω.Hs vs ds) : WOk K (Ite K a) ω (enumW ds) :=
  wok_of (walk_enum (xs := vs)) (by simp [enumW, r.len]) (fun ω' H cs l k => SqL.of (k.ex _ _ (l.ex _ _ h))) fun i ω' H cs x H' hi l k y => by
    obtain ⟨T, x, z, rfl, hT, rfl, e1, e2⟩ := y
    cases e1
    obtain ⟨d, e3, r1⟩ := r.at e2
    obtain ⟨ω'', l1, k1, r2⟩ := pair_use k hT (RepL.two (RepD.int (i : Nat)) (RepD.mono l.ex _ _ r1))
    exact ⟨ω'', l1, k1, _, by simp [enumW, e3], r2⟩
def signD (z : Str) : List Dt := z.cps.toList.map fun c => .str ⟨#[c]⟩
theorem signD_get {z : Str} {i c : Nat} (h : z.cps[i]? = some c) : (signD z)[i]? = some (.str ⟨#[c]⟩) := by
  unfold signD
  rw [List.getElem?_map, Array.getElem?_toList, h]
  rfl
theorem wok_enumS {z : Str} : WOk K (ItW z.cps.size fun i xs => ∃ v, signY z i v ∧ xs = [.int (i : Nat), v]) ω (enumW (signD z)) := by
  have e : (enumW (signD z)).length = z.cps.size := by simp [enumW, signD]
  refine ⟨fun i ω' H cs hi l k => by rw [e] at hi; exact hi, fun ω' H cs l k => by rw [e]; exact Nat.le_refl _, fun i ω' H cs x H' hi l k y => ?_⟩
  obtain ⟨T, xs, rfl, hT, rfl, v, ⟨c, hc, rfl⟩, rfl⟩ := y
  obtain ⟨ω'', l1, k1, r2⟩ := pair_use k hT (RepL.two (RepD.int (i : Nat)) (RepD.str (⟨#[c]⟩ : Str)))
  exact ⟨ω'', l1, k1, _, by simp [enumW, signD_get hc], r2⟩
def zipW (ds es : List Dt) : List Wv := List.zipWith (fun d e => .dat (.tup [d, e])) ds es
theorem zipW_get {i : Nat} {d e : Dt} (h1 : ds[i]? = some d) (h2 : es[i]? = some e) : (zipW ds es)[i]? = some (.dat (.tup [d, e])) := by
  unfold zipW
  rw [List.getElem?_zipWith, h1, h2]
theorem wok_zipK {k1 k2 : Bool} (h : ∀ ω' H cs, Lf ω ω' → Ok K ω' H cs → SqK k1 K H a vs) (r : RepL K ω.Hs vs ds) (h' : ∀ ω' H cs, Lf ω ω' → Ok K ω' H cs → SqK k2 K H b us) (r' : RepL K ω.Hs us es) : WOk K (Itz2 K k1 k2 a b vs us) ω (zipW ds es) := by
  have e : (zipW ds es).length = min vs.length us.length := by simp [zipW, r.len, r'.len]
  refine ⟨fun i ω' H cs hi l k => ?_, fun ω' H cs l k => ?_, fun i ω' H cs x H' hi l k y => ?_⟩
  · rw [e] at hi
    exact ⟨h _ _ _ l k, h' _ _ _ l k, hi⟩
  · rw [e]
    exact ⟨h _ _ _ l k, h' _ _ _ l k, rfl⟩
  · obtain ⟨T, x, z, rfl, hT, rfl, e1, e2⟩ := y
    obtain ⟨d, e3, r1⟩ := r.at e1
    obtain ⟨e, e4, r2⟩ := r'.at e2
    obtain ⟨ω'', l1, k1, r3⟩ := pair_use k hT (RepL.two (RepD.mono l.ex _ _ r1) (RepD.mono l.ex _ _ r2))
    exact ⟨ω'', l1, k1, _, zipW_get e3 e4, r3⟩
theorem wok_zipS {y z : Str} : WOk K (ItW (min y.cps.size z.cps.size) fun i xs => ∃ u v, signY y i u ∧ signY z i v ∧ xs = [u, v]) ω (zipW (signD y) (signD z)) := by
  have e : (zipW (signD y) (signD z)).length = min y.cps.size z.cps.size := by simp [zipW, signD]
  refine ⟨fun i ω' H cs hi l k => by rw [e] at hi; exact hi, fun ω' H cs l k => by rw [e]; exact Nat.le_refl _, fun i ω' H cs x H' hi l k q => ?_⟩
  obtain ⟨T, xs, rfl, hT, rfl, u, v, ⟨c, hc, rfl⟩, ⟨c', hc', rfl⟩, rfl⟩ := q
  obtain ⟨ω'', l1, k1, r2⟩ := pair_use k hT (RepL.two (RepD.str (⟨#[c]⟩ : Str)) (RepD.str (⟨#[c']⟩ : Str)))
  exact ⟨ω'', l1, k1, _, zipW_get (signD_get hc) (signD_get hc'), r2⟩
end
section
variable {X : Cx} {E : XK} {tg e e2 : Expr} {f : Ev} {g : EvA} {p pos tpos : Pos} {elts : List Expr} {kk : Nat}
def asSeq : Wv → M (List Wv)
  | .dat (.lst l) => M.ret (l.map .dat)
  | .dat (.tup l) => M.ret (l.map .dat)
  | .dat (.str s) => M.ret (signs s)
  | .dat (.scr l) => M.ret (l.map fun i => .dat (.int i))
  | _ => M.bad
def iSeq (f : Ev) : EvI := fun env => M.bind (f env) asSeq
def kindS : Wv → Nat
  | .dat (.lst _) => 0
  | .dat (.scr _) => 0
  | .dat (.tup _) => 1
  | _ => 2
def kindR : R Wv → Nat
  | .ok w _ => kindS w
  | _ => 0
theorem ei_seq (ha : EV X E e f) : EVI X E tg e (iSeq f) :=
  PI.imp (PI.orr (pi_list ha) (PI.orr (pi_tup ha) (pi_str ha))) fun σ H R ⟨env, cs, ω, hs, hk, h⟩ => by
    have hb := h.bind
    have key : ∀ (kd : Nat), kindR (f env cs) = kd → ∀ {w cs1}, f env cs = .ok w cs1 → kindS w = kd := fun kd q w cs1 e => by
      rw [e] at q
      exact q
    match hkd : kindR (f env cs) with
    | 0 =>
      refine .inl ⟨env, cs, ω, hs, hk, hb.impE fun w ω1 cs1 H1 e1 l1 k1 h1 v rv => ?_⟩
      have q := key 0 hkd e1
      cases w with
      | cel k => cases q
      | dat d =>
        cases d with
        | lst l =>
          cases (show RepD X.K ω1.Hs v (.lst l) from rv) with
          | lst h2 h3 => exact ⟨_, rfl, ⟨_, SqL.of (k1.ex _ _ h2)⟩, h1.now k1 _ (wok_list h2 h3)⟩
        | scr l =>
          cases (show RepD X.K ω1.Hs v (.scr l) from rv) with
          | scr h2 => exact ⟨_, rfl, ⟨_, ex_l k1.ex h2⟩, h1.now k1 _ (wok_scr h2)⟩
        | _ => cases q
    | 1 =>
      refine .inr (.inl ⟨env, cs, ω, hs, hk, hb.impE fun w ω1 cs1 H1 e1 l1 k1 h1 v rv => ?_⟩)
      have q := key 1 hkd e1
      cases w with
      | cel k => cases q
      | dat d =>
        cases d with
        | tup l =>
          cases (show RepD X.K ω1.Hs v (.tup l) from rv) with
          | tup h2 h3 => exact ⟨_, rfl, ⟨_, (ex_t k1.ex h2).sq⟩, h1.now k1 _ (wok_tup h2 h3)⟩
        | _ => cases q
    | n + 2 =>
      refine .inr (.inr ⟨env, cs, ω, hs, hk, hb.impE fun w ω1 cs1 H1 e1 l1 k1 h1 v rv => ?_⟩)
      have q := key (n + 2) hkd e1
      cases w with
      | cel k => exact (show False from h1).elim
      | dat d =>
        cases d with
        | str s =>
          cases (show RepD X.K ω1.Hs v (.str s) from rv)
          exact ⟨s, rfl, h1.now k1 _ wok_str⟩
        | lst l => cases q
        | tup l => cases q
        | scr l => cases q
        | _ => exact (show False from h1).elim
def okR (i : Int) : Bool := decide (-4611686018427387904 ≤ i) && decide (i < 4611686018427387904)
theorem okR_of {i : Int} (h : okR i = true) : -(2 ^ 62) ≤ i ∧ i < 2 ^ 62 := by
  unfold okR at h
  simp only [Bool.and_eq_true, decide_eq_true_eq] at h
  exact ⟨by omega, by omega⟩
def asR1 : List Wv → M (List Wv)
  | [.dat (.int j)] => if okR j = true then M.ret (rangeW 0 j.toNat) else M.bad
  | _ => M.bad
def asR2 : List Wv → M (List Wv)
  | [.dat (.int i), .dat (.int j)] => if (okR i && okR j) = true then M.ret (rangeW i (j - i).toNat) else M.bad
  | _ => M.bad
def iRg1 (g : EvA) : EvI := fun env => M.bind (g env) asR1
def iRg2 (g : EvA) : EvI := fun env => M.bind (g env) asR2
theorem ei_range1 (hg : Gl X "range") (hm : X.mg "range" = none) (ha : EVA X E [e] g) (hs : starEach [e] X.env = [(false, eval e X.env)] := by rfl) : EVI X E tg (.Call (.Name "range" p) [e] [] pos) (iRg1 g) :=
  PI.imp (pi_range1 hg hm ha hs) fun σ H R ⟨env, cs, ω, hs, hk, h⟩ => ⟨env, cs, ω, hs, hk, h.bind.imp fun ws ω1 cs1 H1 l1 k1 h1 vs rv => by
    unfold asR1 at h1
    split at h1
    · obtain ⟨v, rfl, r⟩ := rv.one
      cases r
      split at h1
      · rename_i j hj
        exact ⟨_, rfl, (okR_of hj).1, (okR_of hj).2, h1.now k1 _ wok_range⟩
      · exact (show False from h1).elim
    · exact (show False from h1).elim⟩
def asEnum : List Wv → M (List Wv)
  | [.dat (.lst l)] => M.ret (enumW l)
  | [.dat (.str s)] => M.ret (enumW (signD s))
  | _ => M.bad
def asZip : List Wv → M (List Wv)
  | [.dat (.lst l), .dat (.lst m)] => M.ret (zipW l m)
  | [.dat (.tup l), .dat (.tup m)] => M.ret (zipW l m)
  | [.dat (.lst l), .dat (.tup m)] => M.ret (zipW l m)
  | [.dat (.tup l), .dat (.lst m)] => M.ret (zipW l m)
  | [.dat (.str l), .dat (.str m)] => M.ret (zipW (signD l) (signD m))
  | _ => M.bad
def iEnumE (g : EvA) : EvI := fun env => M.bind (g env) asEnum
def iZipE (g : EvA) : EvI := fun env => M.bind (g env) asZip
def fstStr : List Wv → Bool
  | .dat (.str _) :: _ => true
  | _ => false
def fstStrR : R (List Wv) → Bool
  | .ok w _ => fstStr w
  | _ => false
theorem ei_enum (hg : Gl X "enumerate") (hm : X.mg "enumerate" = none) (ha : EVA X E [e] g) (hs : starEach [e] X.env = [(false, eval e X.env)] := by rfl) : EVI X E (.Tuple elts kk tpos) (.Call (.Name "enumerate" p) [e] [] pos) (iEnumE g) :=
  PI.imp (PI.orr (pi_enum hg hm ha hs) (pi_enumS hg hm ha hs)) fun σ H R ⟨env, cs, ω, hs, hk, h⟩ => by
    have hb := h.bind
    cases hkd : fstStrR (g env cs) with
    | false =>
      refine .inl ⟨env, cs, ω, hs, hk, hb.impE fun ws ω1 cs1 H1 e1 l1 k1 h1 vs rv => ?_⟩
      rw [e1] at hkd
      unfold asEnum at h1
      split at h1
      · obtain ⟨v, rfl, r⟩ := rv.one
        cases r with
        | lst h2 h3 => exact ⟨_, _, rfl, SqL.of (k1.ex _ _ h2), h1.now k1 _ (wok_enum h2 h3)⟩
      · cases hkd
      · exact (show False from h1).elim
    | true =>
      refine .inr ⟨env, cs, ω, hs, hk, hb.impE fun ws ω1 cs1 H1 e1 l1 k1 h1 vs rv => ?_⟩
      rw [e1] at hkd
      unfold asEnum at h1
      split at h1
      · cases hkd
      · obtain ⟨v, rfl, r⟩ := rv.one
        cases r
        exact ⟨_, rfl, h1.now k1 _ wok_enumS⟩
      · exact (show False from h1).elim
theorem ei_zip (hg : Gl X "zip") (hm : X.mg "zip" = none) (ha : EVA X E [e, e2] g) (hs : starEach [e, e2] X.env = (false, eval e X.env) :: starEach [e2] X.env := by rfl) (hpl : (backTo pos (starEach [e2] X.env)).any (·.1) = false := by rfl) :
    EVI X E (.Tuple elts kk tpos) (.Call (.Name "zip" p) [e, e2] [] pos) (iZipE g) :=
  PI.imp (PI.orr (pi_zipK hg hm ha hs hpl) (pi_zipS hg hm ha hs hpl)) fun σ H R ⟨env, cs, ω, hs, hk, h⟩ => by
    have hb := h.bind
    cases hkd : fstStrR (g env cs) with
    | false =>
      refine .inl ⟨env, cs, ω, hs, hk, hb.impE fun ws ω1 cs1 H1 e1 l1 k1 h1 vs rv => ?_⟩
      rw [e1] at hkd
      unfold asZip at h1
      split at h1
      · obtain ⟨v, u, rfl, r, r'⟩ := rv.two
        cases r with
        | lst h2 h3 =>
          cases r' with
          | lst h4 h5 => exact ⟨true, true, _, _, _, _, rfl, SqL.of (k1.ex _ _ h2), SqL.of (k1.ex _ _ h4), h1.now k1 _ (wok_zipK (fun _ _ _ l k => SqL.of (k.ex _ _ (l.ex _ _ h2))) h3 (fun _ _ _ l k => SqL.of (k.ex _ _ (l.ex _ _ h4))) h5)⟩
      · obtain ⟨v, u, rfl, r, r'⟩ := rv.two
        cases r with
        | tup h2 h3 =>
          cases r' with
          | tup h4 h5 => exact ⟨false, false, _, _, _, _, rfl, (ex_t k1.ex h2).sq, (ex_t k1.ex h4).sq, h1.now k1 _ (wok_zipK (fun _ _ _ l k => (ex_t k.ex (ex_t l.ex h2)).sq) h3 (fun _ _ _ l k => (ex_t k.ex (ex_t l.ex h4)).sq) h5)⟩
      · obtain ⟨v, u, rfl, r, r'⟩ := rv.two
        cases r with
        | lst h2 h3 =>
          cases r' with
          | tup h4 h5 => exact ⟨true, false, _, _, _, _, rfl, SqL.of (k1.ex _ _ h2), (ex_t k1.ex h4).sq, h1.now k1 _ (wok_zipK (fun _ _ _ l k => SqL.of (k.ex _ _ (l.ex _ _ h2))) h3 (fun _ _ _ l k => (ex_t k.ex (ex_t l.ex h4)).sq) h5)⟩
      · obtain ⟨v, u, rfl, r, r'⟩ := rv.two
        cases r with
        | tup h2 h3 =>
          cases r' with
          | lst h4 h5 => exact ⟨false, true, _, _, _, _, rfl, (ex_t k1.ex h2).sq, SqL.of (k1.ex _ _ h4), h1.now k1 _ (wok_zipK (fun _ _ _ l k => (ex_t k.ex (ex_t l.ex h2)).sq) h3 (fun _ _ _ l k => SqL.of (k.ex _ _ (l.ex _ _ h4))) h5)⟩
      · cases hkd
      · exact (show False from h1).elim
    | true =>
      refine .inr ⟨env, cs, ω, hs, hk, hb.impE fun ws ω1 cs1 H1 e1 l1 k1 h1 vs rv => ?_⟩
      rw [e1] at hkd
      unfold asZip at h1
      split at h1
      · cases hkd
      · cases hkd
      · cases hkd
      · cases hkd
      · obtain ⟨v, u, rfl, r, r'⟩ := rv.two
        cases r; cases r'
        exact ⟨_, _, rfl, h1.now k1 _ wok_zipS⟩
      · exact (show False from h1).elim
end
end DX
namespace DX
variable [TabT]
open PySem L2
section
variable {X : Cx} {E : XK} {tg e : Expr} {pos : Pos}
abbrev Tg := Wv → En → Option En
abbrev Tgs := List Dt → En → Option En
/-- alike but at the slots ts -/
def Agr (ts : List Nat) (σ σ' : L2.St) : Prop := σ'.length = σ.length ∧ ∀ i, i ∉ ts → σ'[i]? = σ[i]?
def tEvG (K : Frag) (t : Tg) (ts : List Nat) : TG := fun v σ H Q => ∃ env cs ω w env', StRep K ω σ env ∧ Ok K ω H cs ∧ RepW K ω v w ∧ t w env = some env' ∧ ∀ σ', StRep K ω σ' env' → Agr ts σ σ' → Q σ' H
def tEvGs (K : Frag) (t : Tgs) (ts : List Nat) : TGs := fun vs σ H Q => ∃ env cs ω ds env', StRep K ω σ env ∧ Ok K ω H cs ∧ RepL K ω.Hs vs ds ∧ t ds env = some env' ∧ ∀ σ', StRep K ω σ' env' → Agr ts σ σ' → Q σ' H
def GV (X : Cx) (tg : Expr) (t : Tg) (ts : List Nat) : Prop := PG X tg (tEvG X.K t ts)
def GVs (X : Cx) (es : List Expr) (t : Tgs) (ts : List Nat) : Prop := PGs X es (tEvGs X.K t ts)
theorem PG.imp {t u : TG} (h : PG X tg t) (i : ∀ v σ H Q, u v σ H Q → t v σ H Q) : PG X tg u := ⟨fun pins s σ H v w Q I r q => h.run pins s σ H v w Q I r (i v σ H Q q)⟩
theorem PGs.imp {es : List Expr} {t u : TGs} (h : PGs X es t) (i : ∀ v σ H Q, u v σ H Q → t v σ H Q) : PGs X es u := ⟨fun pins s σ H v w Q I r q => h.run pins s σ H v w Q I r (i v σ H Q q)⟩
def tName (i : Nat) : Tg := fun w env => some (env.set i (some w))
theorem gv_name {i : Nat} {x : Str} (hN : X.N.Nodup) (hi : X.N[i]? = some x) (hx : Loc X.env.scope x) (hf : X.fn x = true ∨ X.env.scope.names.lookup x = some .local := by first | exact .inl rfl | exact .inr rfl | assumption) : GV X (.Name x pos) (tName i) [i] :=
  PG.imp (pg_name hN hi hx hf) fun v σ H Q ⟨env, cs, ω, w, env', hs, hk, hr, e, q⟩ => by
    cases e
    exact q _ (hs.set i hr) ⟨by simp, fun j hj => List.getElem?_set_ne (fun z => hj (by simp [z]))⟩
def tgNil : Tgs := fun ds env => match ds with
  | [] => some env
  | _ => none
def tgCons (t : Tg) (u : Tgs) : Tgs := fun ds env => match ds with
  | d :: ds => (t (.dat d) env).bind fun env' => u ds env'
  | [] => none
theorem gvs_nil : GVs X [] tgNil [] := PGs.imp pgs_nil fun v σ H Q ⟨env, cs, ω, ds, env', hs, hk, hr, e, q⟩ => by
  cases ds with
  | nil =>
    cases hr
    cases e
    exact ⟨rfl, q σ hs ⟨rfl, fun _ _ => rfl⟩⟩
  | cons _ _ => cases e
theorem gvs_cons {es : List Expr} {t : Tg} {u : Tgs} {ts us : List Nat} (h1 : GV X e t ts) (h2 : GVs X es u us) (hs : (assignEach (e :: es) X.env).map (·.2) = assign e X.env :: (assignEach es X.env).map (·.2) := by rfl) : GVs X (e :: es) (tgCons t u) (ts ++ us) :=
  PGs.imp (pgs_cons h1 h2 hs) fun v σ H Q ⟨env, cs, ω, ds, env', hs, hk, hr, e, q⟩ => by
    cases ds with
    | nil => cases e
    | cons d ds =>
      cases hr with
      | cons r1 r2 =>
        have e : (t (.dat d) env).bind (fun env' => u ds env') = some env' := e
        cases e1 : t (.dat d) env with
        | none => rw [e1] at e; cases e
        | some env1 =>
          rw [e1] at e
          exact ⟨_, _, rfl, env, cs, ω, .dat d, env1, hs, hk, r1, e1, fun σ1 hs1 a1 => ⟨env1, cs, ω, ds, env', hs1, hk, r2, e, fun σ2 hs2 a2 => q σ2 hs2 ⟨a2.1.trans a1.1, fun i hi => (a2.2 i fun z => hi (List.mem_append_right _ z)).trans (a1.2 i fun z => hi (List.mem_append_left _ z))⟩⟩⟩
def tTupG (n : Nat) (u : Tgs) : Tg := fun w env => match w with
  | .dat (.tup ds) => if ds.length = n then u ds env else none
  | _ => none
theorem gv_tup {es : List Expr} {k : Nat} {u : Tgs} {n : Nat} {ts : List Nat} (hc : X.calm = true) (h : GVs X es u ts) (hn : (assignEach es X.env).length = n := by rfl) (hst : (assignEach es X.env).findIdx? (·.1) = none := by rfl) : GV X (.Tuple es k pos) (tTupG n u) ts :=
  PG.imp (pg_tup hc h hn hst) fun v σ H Q ⟨env, cs, ω, w, env', hs, hk, hr, e, q⟩ => by
    cases w with
    | cel j => cases e
    | dat d =>
      cases d with
      | tup ds =>
        have e : (if ds.length = n then u ds env else none) = some env' := e
        split at e
        · rename_i hl
          cases (show RepD X.K ω.Hs v (.tup ds) from hr) with
          | tup h1 h2 => exact ⟨_, _, rfl, (ex_t hk.ex h1).sq, h2.len.trans hl, env, cs, ω, ds, env', hs, hk, h2, e, q⟩
        · cases e
      | _ => cases e
def wipeE (env : En) : List Nat → En
  | [] => env
  | v :: vs => (wipeE env vs).set v none
theorem StRep.wipe {K : Frag} {ω : Wo} {σ : St} {env : En} (h : StRep K ω σ env) : ∀ vs : List Nat, StRep K ω (wipe σ vs) (wipeE env vs)
  | [] => h
  | v :: vs => by
    have ih := StRep.wipe h vs
    refine ⟨by simp [L2.wipe, wipeE, ih.len], fun i w e => ?_⟩
    unfold wipeE at e
    unfold L2.wipe
    by_cases hv : v = i
    · subst hv
      by_cases hl : v < (wipeE env vs).length
      · rw [List.getElem?_set_self hl] at e; cases e
      · rw [List.getElem?_eq_none (by simpa using hl)] at e; cases e
    · rw [List.getElem?_set_ne hv] at e ⊢
      exact ih.get i w e
/-- what raises is of no use within a comprehension -/
def M.nx {α : Type} (m : M α) : M α := fun cs => match m cs with
  | .ok a cs' => .ok a cs'
  | _ => .bad
theorem Out.nx {K : Frag} {mg : MG} {α : Type} {ω : Wo} {m : M α} {cs : List Cell} {F : α → Wo → List Cell → Hp → Prop} (h : Out K mg E ω (M.nx m cs) F) : Out K mg E0 ω (m cs) F := by
  unfold M.nx at h
  cases e : m cs with
  | ok a cs' => rw [e] at h; exact h
  | exc x cs' => rw [e] at h; exact (show False from h).elim
  | bad => rw [e] at h; exact (show False from h).elim
def loopC (t : Tg) (p : EvT) (f : Ev) (env : En) : List Wv → M (List Wv)
  | [] => M.ret []
  | w :: ws => M.bind (M.opt (t w env)) fun env' => M.bind (M.nx (p env')) fun b => if b = true then M.bind (M.nx (f env')) fun y => M.bind (loopC t p f env ws) fun ys => M.ret (y :: ys) else loopC t p f env ws
def fLc (g : EvI) (t : Tg) (p : EvT) (f : Ev) (vs : List Nat) : EvF := fun env => M.bind (g env) fun ws => if szOk ws.length = true then loopC t p f (wipeE env vs) ws else M.bad
def EVTs (X : Cx) (E : XK) (ifs : List Expr) (f : EvT) : Prop := PTs X ifs (tEvT X.K X.mg E f)
theorem PTs.imp {ifs : List Expr} {t u : TT} (h : PTs X ifs t) (i : ∀ σ H Q, u σ H Q → t σ H Q) : PTs X ifs u := ⟨fun pins s σ H Q I q => h.run pins s σ H Q I (i σ H Q q)⟩
def tYesE : EvT := fun _ => M.ret true
theorem ets_nil : EVTs X E [] tYesE := PTs.imp pts_nil fun σ H Q ⟨env, cs, ω, hs, hk, h⟩ => h.now hk
theorem ets_one {c : Expr} {p : EvT} (h : EVT X E c p) : EVTs X E [c] p := pts_one h
/-- the world with one more object that stays -/
def Wo.keep (ω : Wo) (p : Addr) (o : HO) : Wo := ⟨ω.Hs, ω.ad, ω.T, upd ω.fr p o⟩
def Wo.back (ω : Wo) (fr : Hp) : Wo := ⟨ω.Hs, ω.ad, ω.T, fr⟩
theorem RepW.fr {K : Frag} {ω : Wo} {v : V} {w : Wv} (r : RepW K ω v w) (fr : Hp) : RepW K (ω.back fr) v w := by cases w <;> exact r
theorem RepWs.fr {K : Frag} {ω : Wo} {vs : List V} {ws : List Wv} (r : RepWs K ω vs ws) (fr : Hp) : RepWs K (ω.back fr) vs ws := by
  induction r with
  | nil => exact .nil
  | cons h1 _ ih => exact .cons (h1.fr fr) ih
theorem RepWk.fr {K : Frag} {ω : Wo} {vs : List (Key × V)} {ws : List (Key × Wv)} (r : RepWk K ω vs ws) (fr : Hp) : RepWk K (ω.back fr) vs ws := by
  induction r with
  | nil => exact .nil
  | cons h1 _ ih => exact .cons (h1.fr fr) ih
theorem RepWt.fr {K : Frag} {ω : Wo} {vs : List (List Key × V)} {ws : List (List Key × Wv)} (r : RepWt K ω vs ws) (fr : Hp) : RepWt K (ω.back fr) vs ws := by
  induction r with
  | nil => exact .nil
  | cons h1 _ ih => exact .cons (h1.fr fr) ih
theorem RepWf.fr {K : Frag} {ω : Wo} {vs : List (Str × V)} {ws : List (Str × Wv)} (r : RepWf K ω vs ws) (fr : Hp) : RepWf K (ω.back fr) vs ws := by
  induction r with
  | nil => exact .nil
  | cons h1 _ ih => exact .cons (h1.fr fr) ih
theorem StRep.fr {K : Frag} {ω : Wo} {σ : St} {env : En} (h : StRep K ω σ env) (fr : Hp) : StRep K (ω.back fr) σ env := ⟨h.len, fun i w e => let ⟨v, e1, r⟩ := h.get i w e; ⟨v, e1, r.fr fr⟩⟩
theorem wipe_get {σ : L2.St} {i : Nat} : ∀ {vs : List Nat}, i ∈ vs → i < σ.length → (L2.wipe σ vs)[i]? = some none
  | [], h, _ => absurd h (by simp)
  | v :: vs, h, hl => by
    unfold L2.wipe
    by_cases hv : v = i
    · subst hv
      exact List.getElem?_set_self (by rw [L2.wipe_length]; exact hl)
    · rw [List.getElem?_set_ne hv]
      exact wipe_get ((List.mem_cons.mp h).resolve_left (Ne.symm hv)) hl
theorem wipe_agr {σ σ' : L2.St} {ts vs : List Nat} (a : Agr ts (L2.wipe σ vs) σ') (h : ∀ i ∈ ts, i ∈ vs) : L2.wipe σ' vs = L2.wipe σ vs := by
  have hl : σ'.length = σ.length := a.1.trans (L2.wipe_length _ _)
  apply List.ext_getElem?
  intro i
  by_cases hi : i ∈ vs
  · by_cases hlt : i < σ.length
    · rw [wipe_get hi hlt, wipe_get hi (by rw [hl]; exact hlt)]
    · rw [List.getElem?_eq_none (by rw [L2.wipe_length, hl]; omega), List.getElem?_eq_none (by rw [L2.wipe_length]; omega)]
  · rw [L2.wipe_out hi]
    exact a.2 i fun z => hi (h i z)
section
variable {K : Frag} {mg : MG} {ω ω2 : Wo} {H : Hp} {cs : List Cell} {p : Addr} {o o' : HO} {fr0 : Hp}
theorem Ok.keep (k : Ok K ω H cs) (hp : H p = none) (hpl : FrO o := by exact True.intro) : Ok K (ω.keep p o) (upd H p o) cs := by
  refine ⟨k.ex.out (k.ex.back hp), k.len, k.nd, fun i a c e1 e2 => ?_, k.tab.ext (Ex.new hp), k.frx.both, fun a u e => ?_, k.nt, fun a u e => ?_, fun a oo vs e => Ex.new hp _ _ (k.lk a oo vs e)⟩
  · have q := k.cel i a c e1 e2
    obtain ⟨u, hu⟩ := k.there (List.mem_of_getElem? e1)
    have ne : a ≠ p := ne_of_none hu hp
    cases c with
    | lst ws => obtain ⟨⟨h0, h3⟩, vs, h1, h2⟩ := q; exact ⟨⟨h0, by show upd _ _ _ a = none; rw [upd_ne ne]; exact h3⟩, vs, by rw [upd_ne ne]; exact h1, h2.fr _⟩
    | dic ws =>
      obtain ⟨⟨h0, h3⟩, vs, h1, h2⟩ := q
      refine ⟨⟨h0, by show upd _ _ _ a = none; rw [upd_ne ne]; exact h3⟩, vs, by rw [upd_ne ne]; exact h1, ?_⟩
      exact RepWk.fr h2 _
    | ins C ws =>
      obtain ⟨⟨⟨h0, h3⟩, hc⟩, dx, vs, h1, h2⟩ := q
      refine ⟨⟨⟨h0, by show upd _ _ _ a = none; rw [upd_ne ne]; exact h3⟩, hc⟩, dx, vs, by rw [upd_ne ne]; exact h1, ?_⟩
      exact RepWf.fr h2 _
    | dead => exact q
    | lck ws =>
      obtain ⟨⟨h0, h3⟩, oo, vs, ht, h1, h2⟩ := q
      refine ⟨⟨h0, by show upd _ _ _ a = none; rw [upd_ne ne]; exact h3⟩, oo, vs, ht, by rw [upd_ne ne]; exact h1, ?_⟩
      exact RepWk.fr h2 _
    | dit b ws =>
      obtain ⟨⟨h0, h3⟩, vs, h1, h2⟩ := q
      exact ⟨⟨h0, by show upd _ _ _ a = none; rw [upd_ne ne]; exact h3⟩, vs, h1.mono (fun _ z => z) (fun u z => by rw [upd_ne ne]; exact z), RepWt.fr h2 _⟩
  · by_cases h : a = p
    · rw [h]
      exact k.ex.back hp
    · have e : upd ω.fr p o a = some u := e
      rw [upd_ne h] at e
      exact k.dj a u e
  · have e : upd ω.fr p o a = some u := e
    by_cases h : a = p
    · rw [h, upd_same] at e
      cases e
      exact hpl
    · rw [upd_ne h] at e
      exact k.nf a u e
theorem Ok.back (k : Ok K ω2 H cs) (sub : ∀ a o, fr0 a = some o → ω2.fr a = some o) : Ok K (ω2.back fr0) H cs := by
  refine ⟨k.ex, k.len, k.nd, fun i a c e1 e2 => ?_, k.tab, fun a o e => k.frx a o (sub a o e), fun a o e => k.dj a o (sub a o e), k.nt, fun a o e => k.nf a o (sub a o e), k.lk⟩
  have q := k.cel i a c e1 e2
  have none' : ω2.fr a = none → fr0 a = none := fun z => by
    cases e : fr0 a with
    | none => rfl
    | some u => rw [sub a u e] at z; cases z
  cases c with
  | lst ws => obtain ⟨⟨h0, h3⟩, vs, h1, h2⟩ := q; exact ⟨⟨h0, none' h3⟩, vs, h1, h2.fr _⟩
  | dic ws => obtain ⟨⟨h0, h3⟩, vs, h1, h2⟩ := q; exact ⟨⟨h0, none' h3⟩, vs, h1, RepWk.fr h2 _⟩
  | ins C ws => obtain ⟨⟨⟨h0, h3⟩, hc⟩, dx, vs, h1, h2⟩ := q; exact ⟨⟨⟨h0, none' h3⟩, hc⟩, dx, vs, h1, RepWf.fr h2 _⟩
  | dead => exact q
  | lck ws => obtain ⟨⟨h0, h3⟩, oo, vs, ht, h1, h2⟩ := q; exact ⟨⟨h0, none' h3⟩, oo, vs, ht, h1, RepWk.fr h2 _⟩
  | dit b ws => obtain ⟨⟨h0, h3⟩, vs, h1, h2⟩ := q; exact ⟨⟨h0, none' h3⟩, vs, h1.mono (fun _ z => z) (fun _ z => z), RepWt.fr h2 _⟩
/-- the kept object at p is changed -/
theorem tabs_swap {T : List (Addr × Str)} {xs : List V} (t : LamX.Tabs T H) (hp : H p = some (.lst xs)) : LamX.Tabs T (upd H p o') := fun q hq => by
  obtain ⟨ps, h1, h2, h3⟩ := t q hq
  have ne : ∀ {b u}, H b = some u → HO.lst xs ≠ u → b ≠ p := fun {b u} e d z => by
    rw [z, hp] at e
    exact d (Option.some.inj e)
  refine ⟨ps, by rw [upd_ne (ne h1 (fun z => by cases z))]; exact h1, h2, fun pos cv hc => ?_⟩
  obtain ⟨c, e1, e2⟩ := h3 pos cv hc
  exact ⟨c, e1, by rw [upd_ne (ne e2 (fun z => by unfold LamX.CodeO at z; cases z))]; exact e2⟩
theorem Ok.swap {xs : List V} (k : Ok K ω H cs) (hp : ω.fr p = some (.lst xs)) (hf : ω.fr = upd fr0 p (.lst xs)) (hpl : FrO o' := by exact True.intro) : Ok K (ω.back (upd fr0 p o')) (upd H p o') cs := by
  have hs := k.dj p _ hp
  have hH := k.frx p _ hp
  refine ⟨k.ex.out hs, k.len, k.nd, fun i a c e1 e2 => ?_, tabs_swap k.tab hH, fun a u e => ?_, fun a u e => ?_, k.nt, fun a u e => ?_, fun a oo vs e => by
    have ne : a ≠ p := fun z => by
      have q := k.lk a oo vs e
      rw [z, hH] at q
      cases q
    rw [upd_ne ne]
    exact k.lk a oo vs e⟩
  · have q := k.cel i a c e1 e2
    have ne : a ≠ p := fun z => by
      subst z
      cases c with
      | lst ws => obtain ⟨⟨h0, h3⟩, _⟩ := q; rw [hp] at h3; cases h3
      | dic ws => obtain ⟨⟨h0, h3⟩, _⟩ := q; rw [hp] at h3; cases h3
      | ins C ws => obtain ⟨⟨⟨h0, h3⟩, _⟩, _⟩ := q; rw [hp] at h3; cases h3
      | dead => obtain ⟨u, hu⟩ := q; rw [hs] at hu; cases hu
      | lck ws => obtain ⟨⟨h0, h3⟩, _⟩ := q; rw [hp] at h3; cases h3
      | dit b ws => obtain ⟨⟨h0, h3⟩, _⟩ := q; rw [hp] at h3; cases h3
    have e : upd fr0 p o' a = ω.fr a := by rw [upd_ne ne, hf, upd_ne ne]
    cases c with
    | lst ws => obtain ⟨⟨h0, h3⟩, vs, h1, h2⟩ := q; exact ⟨⟨h0, e.trans h3⟩, vs, by rw [upd_ne ne]; exact h1, h2.fr _⟩
    | dic ws => obtain ⟨⟨h0, h3⟩, vs, h1, h2⟩ := q; exact ⟨⟨h0, e.trans h3⟩, vs, by rw [upd_ne ne]; exact h1, RepWk.fr h2 _⟩
    | ins C ws => obtain ⟨⟨⟨h0, h3⟩, hc⟩, dx, vs, h1, h2⟩ := q; exact ⟨⟨⟨h0, e.trans h3⟩, hc⟩, dx, vs, by rw [upd_ne ne]; exact h1, RepWf.fr h2 _⟩
    | dead => exact q
    | lck ws => obtain ⟨⟨h0, h3⟩, oo, vs, ht, h1, h2⟩ := q; exact ⟨⟨h0, e.trans h3⟩, oo, vs, ht, by rw [upd_ne ne]; exact h1, RepWk.fr h2 _⟩
    | dit b ws => obtain ⟨⟨h0, h3⟩, vs, h1, h2⟩ := q; exact ⟨⟨h0, e.trans h3⟩, vs, h1.mono (fun _ z => z) (fun u z => by rw [upd_ne ne]; exact z), RepWt.fr h2 _⟩
  · by_cases h : a = p
    · subst h
      have e : upd fr0 a o' a = some u := e
      rw [upd_same] at e ⊢
      exact e
    · have e : upd fr0 p o' a = some u := e
      rw [upd_ne h] at e ⊢
      exact k.frx a u (by rw [hf, upd_ne h]; exact e)
  · by_cases h : a = p
    · rw [h]; exact hs
    · have e : upd fr0 p o' a = some u := e
      rw [upd_ne h] at e
      exact k.dj a u (by rw [hf, upd_ne h]; exact e)
  · have e : upd fr0 p o' a = some u := e
    by_cases h : a = p
    · rw [h, upd_same] at e
      cases e
      exact hpl
    · rw [upd_ne h] at e
      exact k.nf a u (by rw [hf, upd_ne h]; exact e)
def hide (H : Hp) (p : Addr) : Hp := fun b => if b = p then none else H b
theorem hide_ne {H : Hp} {p b : Addr} (h : b ≠ p) : hide H p b = H b := if_neg h
theorem hide_same {H : Hp} {p : Addr} : hide H p p = none := if_pos rfl
theorem upd_hide {H : Hp} {p : Addr} {o : HO} (h : H p = some o) : upd (hide H p) p o = H := by
  funext b
  by_cases hb : b = p
  · rw [hb, upd_same, h]
  · rw [upd_ne hb, hide_ne hb]
/-- the kept object at p is no longer looked at -/
def Plain : HO → Prop
  | .tbl _ => False
  | .ext _ => False
  | .frz _ _ => False
  | _ => True
theorem Ok.drop {o : HO} (k : Ok K ω H cs) (hp : ω.fr p = some o) (hf : ω.fr = upd fr0 p o) (h0 : fr0 p = none) (hpl : Plain o := by exact True.intro) : Ok K (ω.back fr0) (hide H p) cs := by
  have hs := k.dj p _ hp
  have hH := k.frx p _ hp
  have fe : ∀ {a}, a ≠ p → fr0 a = ω.fr a := fun {a} h => by rw [hf, upd_ne h]
  refine ⟨fun a u e => ?_, k.len, k.nd, fun i a c e1 e2 => ?_, fun q hq => ?_, fun a u e => ?_, fun a u e => ?_, k.nt, fun a u e => ?_, fun a oo vs e => by
    have ne : a ≠ p := fun z => by
      have q := k.lk a oo vs e
      rw [z, hH] at q
      cases q
      exact hpl
    rw [hide_ne ne]
    exact k.lk a oo vs e⟩
  · rw [hide_ne (fun z => by rw [z, show (ω.back fr0).Hs p = none from hs] at e; cases e)]
    exact k.ex a u e
  · have q := k.cel i a c e1 e2
    have ne : a ≠ p := fun z => by
      subst z
      cases c with
      | lst ws => obtain ⟨⟨h0, h3⟩, _⟩ := q; rw [hp] at h3; cases h3
      | dic ws => obtain ⟨⟨h0, h3⟩, _⟩ := q; rw [hp] at h3; cases h3
      | ins C ws => obtain ⟨⟨⟨h0, h3⟩, _⟩, _⟩ := q; rw [hp] at h3; cases h3
      | dead => obtain ⟨u, hu⟩ := q; rw [hs] at hu; cases hu
      | lck ws => obtain ⟨⟨h0, h3⟩, _⟩ := q; rw [hp] at h3; cases h3
      | dit b ws => obtain ⟨⟨h0, h3⟩, _⟩ := q; rw [hp] at h3; cases h3
    cases c with
    | lst ws => obtain ⟨⟨h0, h3⟩, vs, h1, h2⟩ := q; exact ⟨⟨h0, (fe ne).trans h3⟩, vs, by rw [hide_ne ne]; exact h1, h2.fr _⟩
    | dic ws => obtain ⟨⟨h0, h3⟩, vs, h1, h2⟩ := q; exact ⟨⟨h0, (fe ne).trans h3⟩, vs, by rw [hide_ne ne]; exact h1, RepWk.fr h2 _⟩
    | ins C ws => obtain ⟨⟨⟨h0, h3⟩, hc⟩, dx, vs, h1, h2⟩ := q; exact ⟨⟨⟨h0, (fe ne).trans h3⟩, hc⟩, dx, vs, by rw [hide_ne ne]; exact h1, RepWf.fr h2 _⟩
    | dead => exact q
    | lck ws => obtain ⟨⟨h0, h3⟩, oo, vs, ht, h1, h2⟩ := q; exact ⟨⟨h0, (fe ne).trans h3⟩, oo, vs, ht, by rw [hide_ne ne]; exact h1, RepWk.fr h2 _⟩
    | dit b ws => obtain ⟨⟨h0, h3⟩, vs, h1, h2⟩ := q; exact ⟨⟨h0, (fe ne).trans h3⟩, vs, h1.mono (fun _ z => z) (fun u z => by rw [hide_ne ne]; exact z), RepWt.fr h2 _⟩
  · obtain ⟨ps, h1, h2, h3⟩ := k.tab q hq
    have ne : ∀ {b u}, H b = some u → o ≠ u → b ≠ p := fun {b u} e d z => by
      rw [z, hH] at e
      exact d (Option.some.inj e)
    refine ⟨ps, by rw [hide_ne (ne h1 (fun z => by rw [z] at hpl; exact hpl))]; exact h1, h2, fun pos cv hc => ?_⟩
    obtain ⟨c, e1, e2⟩ := h3 pos cv hc
    exact ⟨c, e1, by rw [hide_ne (ne e2 (fun z => by rw [z] at hpl; unfold LamX.CodeO at hpl; exact hpl))]; exact e2⟩
  · have ne : a ≠ p := fun z => by
      have e : fr0 a = some u := e
      rw [z, h0] at e
      cases e
    rw [hide_ne ne]
    exact k.frx a u (by rw [← fe ne]; exact e)
  · have ne : a ≠ p := fun z => by
      have e : fr0 a = some u := e
      rw [z, h0] at e
      cases e
    exact k.dj a u (by rw [← fe ne]; exact e)
  · have ne : a ≠ p := fun z => by
      have e : fr0 a = some u := e
      rw [z, h0] at e
      cases e
    exact k.nf a u (by rw [← fe ne]; exact e)
theorem Out.under {α : Type} {r : R α} {F : α → Wo → List Cell → Hp → Prop} (h : Out K mg E ω r F) (l : Le ω (ω2.back fr0)) (sub : ∀ a o, fr0 a = some o → ω2.fr a = some o) : Out K mg E ω2 r (fun a ω' cs' H' => F a (ω'.back fr0) cs' H') := by
  have le : ∀ {ω'}, Le ω2 ω' → Le ω (ω'.back fr0) := fun {ω'} l2 => ⟨l.ex.trans l2.ex, l.ad.trans l2.ad, l2.tb.trans l.tb, l.fr⟩
  cases r with
  | ok a cs => exact fun ω' H' l2 k2 => h _ H' (le l2) (k2.back fun a o e => by rw [l2.fr]; exact sub a o e)
  | exc x cs => exact fun C ω' H' m l2 k2 => h C (ω'.back fr0) H' m (le l2) (k2.back fun a o e => by rw [l2.fr]; exact sub a o e)
  | bad => exact h
end
/-- a comprehension with one clause: what it computes is what its reading asks -/
theorem lc_use {fi : EvI} {t : Tg} {ts : List Nat} {p : EvT} {f : Ev} {own : List (Str × Nat)} (hsub : ∀ i ∈ ts, i ∈ own.map (·.2)) {σ : L2.St} {H : Hp} {Q : VK} (hh : tEvF X.K X.mg E (fLc fi t p f (own.map (·.2))) σ H Q) :
    tLc (tEvI X.K X.mg E fi) (tEvG X.K t ts) (tEvT X.K X.mg E0 p) (tEv X.K X.mg E0 f) (own.map (·.2)) σ H Q := by
  obtain ⟨env, cs, ω, hst, hk, h⟩ := hh
  refine ⟨env, cs, ω, hst, hk, h.bind.imp fun ws ω1 cs1 H1 l1 k1 h1 J wk D hD => ?_⟩
  split at h1
  · rename_i hz
    have hz := szOk_of hz
    have frD : ω1.fr D = none := k1.frx.back hD
    have hw : StRep X.K ω1 (L2.wipe σ (own.map (·.2))) (wipeE env (own.map (·.2))) := (hst.mono l1).wipe _
    refine ⟨fun i m Hx => m = ws.length - i ∧ i ≤ ws.length ∧ ∃ (ωi : Wo) (csi : List Cell) (aV : List V) (aW : List Wv), ωi.fr = upd ω1.fr D (.lst aV) ∧ Le ω1 (ωi.back ω1.fr) ∧ Ok X.K ωi Hx csi ∧ RepWs X.K ωi aV aW ∧ aW.length ≤ i ∧
        Out X.K X.mg E (ωi.back ω1.fr) (loopC t p f (wipeE env (own.map (·.2))) (ws.drop i) csi) (fun ys ω' _ H' => ∀ q vs, H' q = none → RepWs X.K ω' vs (aW ++ ys) → Q (.ref q) (upd H' q (.lst vs))),
      ⟨_, rfl, Nat.zero_le _, ω1.keep D (.lst []), cs1, [], [], rfl, Le.refl _, k1.keep hD, .nil, Nat.le_refl _, by rw [List.drop_zero]; exact h1⟩, ?_⟩
    rintro i m Hx ⟨rfl, hi, ωi, csi, aV, aW, hfr, lb, kI, rA, hal, hO⟩
    have sub : ∀ {ω' : Wo}, Le ωi ω' → ∀ a o, ω1.fr a = some o → ω'.fr a = some o := fun {ω'} l a o e => by
      rw [l.fr, hfr, upd_ne (ne_of_none e frD)]
      exact e
    have lf : Lf ω1 ωi := ⟨lb.ex, lb.ad, lb.tb⟩
    by_cases hlt : i < ws.length
    · refine .inr ⟨wk.goes i ωi Hx csi hlt lf kI, fun Hn => ∃ m', m' < ws.length - i ∧ (m' = ws.length - (i + 1) ∧ i + 1 ≤ ws.length ∧ ∃ (ωj : Wo) (csj : List Cell) (bV : List V) (bW : List Wv), ωj.fr = upd ω1.fr D (.lst bV) ∧ Le ω1 (ωj.back ω1.fr) ∧ Ok X.K ωj Hn csj ∧ RepWs X.K ωj bV bW ∧ bW.length ≤ i + 1 ∧
          Out X.K X.mg E (ωj.back ω1.fr) (loopC t p f (wipeE env (own.map (·.2))) (ws.drop (i + 1)) csj) (fun ys ω' _ H' => ∀ q vs, H' q = none → RepWs X.K ω' vs (bW ++ ys) → Q (.ref q) (upd H' q (.lst vs)))), fun Hn h => h, fun x Hy y => ?_⟩
      obtain ⟨ω2, l2, k2, w, ew, rw'⟩ := wk.yields i ωi Hx csi x Hy hlt lf kI y
      have ed : ws.drop i = w :: ws.drop (i + 1) := by
        obtain ⟨_, e⟩ := List.getElem?_eq_some_iff.mp ew
        rw [← e]
        exact List.drop_eq_getElem_cons hlt
      rw [ed] at hO
      have hO2 := Out.le (ω := ωi.back ω1.fr) (ω' := ω2.back ω1.fr) ⟨l2.ex, l2.ad, l2.tb, rfl⟩ hO
      obtain ⟨env', et, hO3⟩ := Out.opt hO2.bind
      have k2b : Ok X.K (ω2.back ω1.fr) Hy csi := k2.back (sub l2)
      have hO4 := hO3.now k2b
      have l12 : Le ω1 (ω2.back ω1.fr) := ⟨lb.ex.trans l2.ex, lb.ad.trans l2.ad, l2.tb.trans lb.tb, rfl⟩
      have hw2 : StRep X.K ω2 (L2.wipe σ (own.map (·.2))) (wipeE env (own.map (·.2))) := (hw.mono l12).fr ω2.fr
      refine ⟨_, csi, ω2, w, env', hw2, k2, rw', et, fun σ2 hs2 ag => ⟨wipe_agr ag hsub, ?_⟩⟩
      refine ⟨env', csi, ω2, hs2, k2, (Out.nx (hO4.bind.under (Le.refl _) (sub l2))).imp fun b ω3 cs3 H3 l3 k3 hO5 => ?_⟩
      have l23 := l2.trans l3
      have adv : ∀ {ωj : Wo}, Le ωi ωj → Le ω1 (ωj.back ω1.fr) := fun {ωj} l => ⟨lb.ex.trans l.ex, lb.ad.trans l.ad, l.tb.trans lb.tb, rfl⟩
      cases b with
      | false =>
        refine ⟨_, by omega, rfl, hlt, ω3, cs3, aV, aW, l23.fr.trans hfr, adv l23, k3, ?_, by omega, hO5⟩
        exact (rA.mono l23)
      | true =>
        refine ⟨env', cs3, ω3, hs2.mono l3, k3, (Out.nx (Out.under (ω2 := ω3) (Out.bind hO5) (Le.refl _) (sub l23))).imp fun yv ω4 cs4 H4 l4 k4 hO6 v rv => ?_⟩
        have l24 := l23.trans l4
        have frE : ω4.fr = upd ω1.fr D (.lst aV) := l24.fr.trans hfr
        have hD4 : ω4.fr D = some (.lst aV) := by rw [frE, upd_same]
        have rA4 := rA.mono l24
        refine ⟨aV, k4.frx _ _ hD4, by rw [rA.len]; omega, _, by omega, rfl, hlt, ω4.back (upd ω1.fr D (.lst (aV ++ [v]))), cs4, aV ++ [v], aW ++ [yv], rfl, (show Le ω1 (ω4.back ω1.fr) from adv l24), k4.swap hD4 frE, (rA4.app (.cons rv .nil)).fr _, by simp; omega, ?_⟩
        refine (Out.bind (show Out X.K X.mg E (ω4.back ω1.fr) (M.bind _ _ cs4) _ from hO6)).imp fun ys ω5 cs5 H5 l5 k5 hO7 => ?_
        intro q vs hq rv'
        exact hO7.now k5 q vs hq (by simpa using rv')
    · have e : i = ws.length := by omega
      subst e
      refine .inl ⟨wk.stops ωi Hx csi lf kI, ?_⟩
      rw [List.drop_length] at hO
      have hfD : ωi.fr D = some (.lst aV) := by rw [hfr, upd_same]
      have hDx : Hx D = some (.lst aV) := kI.frx D _ hfD
      have kd : Ok X.K (ωi.back ω1.fr) (hide Hx D) csi := kI.drop hfD hfr frD
      have z := hO.now kd D aV hide_same (by simpa using rA.fr ω1.fr)
      rw [upd_hide hDx] at z
      exact z
  · exact (show False from h1).elim
/-- THE RULE of a comprehension with one clause -/
theorem ef_lc {elt iter : Expr} {ifs : List Expr} {scope : Scope} {own : List (Str × Nat)} {fi : EvI} {t : Tg} {ts : List Nat} {p : EvT} {f : Ev} (hc : X.calm = true) (hN : X.N.Nodup) (hi : EVI X E tg iter fi) (ok : BlkOk X.N X.env.scope scope own)
    (hg : ∀ (s : Shared) (H : Hp) (C : Addr) (cl : List (Str × Addr)) (fp : List Addr), GV (X.blk s H scope (compEnvC scope cl C X.env) fp) tg t ts)
    (ht : ∀ (s : Shared) (H : Hp) (C : Addr) (cl : List (Str × Addr)) (fp : List Addr), EVTs (X.blk s H scope (compEnvC scope cl C X.env) fp) E0 ifs p)
    (he : ∀ (s : Shared) (H : Hp) (C : Addr) (cl : List (Str × Addr)) (fp : List Addr), EV (X.blk s H scope (compEnvC scope cl C X.env) fp) E0 elt f)
    (hsub : ∀ i ∈ ts, i ∈ own.map (·.2)) (hs : ∀ x, foldedSetIterable iter X.env x = pure x := by intro _; rfl) :
    EVF X E (.ListComp elt [⟨tg, iter, ifs, 0⟩] scope pos) (fLc fi t p f (own.map (·.2))) := by
  exact PE.imp (pe_lc (g := tEvG X.K t ts) (tt := tEvT X.K X.mg E0 p) (te := tEv X.K X.mg E0 f) hc hN hi ok hg ht he hs) fun _ _ _ h => lc_use hsub h
/-- a new list, frozen at once | made a cell -/
def eOfF (f : EvF) : Ev := fun env => M.bind (f env) fun ws => M.bind (mDats ws) fun ds => M.ret (.dat (.lst ds))
def mCell (c : Cell) : M Wv := fun cs => .ok (.cel cs.length) (cs ++ [c])
def eCelF (f : EvF) : Ev := fun env => M.bind (f env) fun ws => mCell (.lst ws)
theorem data_use {f : EvF} {σ : L2.St} {H : Hp} {Q : VK} (h : tEv X.K X.mg E (eOfF f) σ H Q) : tEvF X.K X.mg E f σ H Q := by
  obtain ⟨env, cs, ω, hs, hk, h⟩ := h
  refine ⟨env, cs, ω, hs, hk, h.bind.imp fun ws ω1 cs1 H1 l1 k1 h1 p vs hp rv => ?_⟩
  obtain ⟨ds, e, h2⟩ := h1.mDats
  exact h2 _ _ (Le.froze k1 hp) (k1.froze hp) _ (rep_lst k1 hp (rv.dats e))
theorem cell_use {f : EvF} {σ : L2.St} {H : Hp} {Q : VK} (h : tEv X.K X.mg E (eCelF f) σ H Q) : tEvF X.K X.mg E f σ H Q := by
  obtain ⟨env, cs, ω, hs, hk, h⟩ := h
  refine ⟨env, cs, ω, hs, hk, h.bind.imp fun ws ω1 cs1 H1 l1 k1 h1 p vs hp rv => ?_⟩
  have h1 : Out X.K X.mg E ω1 (.ok (Wv.cel cs1.length) (cs1 ++ [Cell.lst ws])) _ := h1
  have hc : CellAt X.K (ω1.more p) (upd H1 p (.lst vs)) p (.lst ws) := ⟨⟨k1.ex.back hp, k1.frx.back hp⟩, vs, upd_same, rv.mono Le.more⟩
  refine h1 _ _ Le.more (k1.more hp hc) _ ⟨p, ?_, rfl⟩
  show (ω1.ad ++ [p])[cs1.length]? = some p
  rw [k1.len, List.getElem?_append_right (Nat.le_refl _)]
  simp
theorem ev_ofF {e : Expr} {f : EvF} (h : EVF X E e f) : EV X E e (eOfF f) := PE.imp h fun _ _ _ h => data_use h
theorem ev_celF {e : Expr} {f : EvF} (h : EVF X E e f) : EV X E e (eCelF f) := PE.imp h fun _ _ _ h => cell_use h
end
end DX
namespace DX
variable [TabT]
open PySem L2
inductive Fl where
  | nx (env : En) | rt (w : Wv) | bk (env : En) | ct (env : En)
abbrev Sv := En → M Fl
def EndAt (K : Frag) (D : Ends) (fl : Fl) (ω : Wo) (H : Hp) : Prop := match fl with
  | .nx env => ∀ σ, StRep K ω σ env → D.nx σ H
  | .rt w => ∀ v, RepW K ω v w → D.rt v H
  | .bk env => ∀ σ, StRep K ω σ env → D.bk σ H
  | .ct env => ∀ σ, StRep K ω σ env → D.ct σ H
def tEvS (K : Frag) (mg : MG) (E : XK) (f : Sv) : TS := fun D σ H => ∃ env cs ω, StRep K ω σ env ∧ Ok K ω H cs ∧ Out K mg E ω (f env cs) fun fl ω' _ H' => EndAt K D fl ω' H'
def SV (X : Cx) (E : XK) (e : Stmt) (f : Sv) : Prop := PS X e (tEvS X.K X.mg E f)
def SVs (X : Cx) (E : XK) (e : List Stmt) (f : Sv) : Prop := PSs X e (tEvS X.K X.mg E f)
section
variable {X : Cx} {E : XK} {tg e : Expr} {st : Stmt} {rest : List Stmt} {pos : Pos}
def sNil : Sv := fun env => M.ret (.nx env)
def sSeq (f g : Sv) : Sv := fun env => M.bind (f env) fun fl => match fl with
  | .nx env' => g env'
  | .rt w => M.ret (.rt w)
  | .bk env' => M.ret (.bk env')
  | .ct env' => M.ret (.ct env')
theorem svs_nil : SVs X E [] sNil := PSs.imp pss_nil fun D σ H ⟨env, cs, ω, hs, hk, h⟩ => h.now hk σ hs
theorem svs_cons {f g : Sv} (h1 : SV X E st f) (h2 : SVs X E rest g) : SVs X E (st :: rest) (sSeq f g) := PSs.imp (pss_cons h1 h2) fun D σ H ⟨env, cs, ω, hs, hk, h⟩ =>
  ⟨env, cs, ω, hs, hk, h.bind.imp fun fl ω1 cs1 H1 l1 k1 h1 => by
    cases fl with
    | nx env' => exact fun σ' hs' => ⟨env', cs1, ω1, hs', k1, h1⟩
    | rt w => exact h1.now k1
    | bk env' => exact h1.now k1
    | ct env' => exact h1.now k1⟩
theorem svs_one {f : Sv} (h1 : SV X E st f) : SVs X E [st] f := pss_one h1
def sRet (f : Ev) : Sv := fun env => M.bind (f env) fun w => M.ret (.rt w)
theorem sv_ret {f : Ev} (h : EV X E e f) : SV X E (.Return (some e) pos) (sRet f) := PS.imp (ps_ret h) fun D σ H ⟨env, cs, ω, hs, hk, h⟩ =>
  ⟨env, cs, ω, hs, hk, h.bind.imp fun w ω1 cs1 H1 l1 k1 h1 v rv => h1.now k1 v rv⟩
def sRetN : Sv := fun _ => M.ret (.rt (.dat .non))
def sBreak : Sv := fun env => M.ret (.bk env)
def sCont : Sv := fun env => M.ret (.ct env)
def sExpr (f : Ev) : Sv := fun env => M.bind (f env) fun _ => M.ret (.nx env)
theorem sv_expr {f : Ev} (h : EV X E e f) (hs : swapsWith e none pos.line X.env = pure false := by rfl) : SV X E (.Expr e pos) (sExpr f) := PS.imp (ps_expr h hs) fun D σ H ⟨env, cs, ω, hs, hk, h⟩ =>
  ⟨env, cs, ω, hs, hk, h.bind.imp fun w ω1 cs1 H1 l1 k1 h1 v rv => h1.now k1 σ (hs.mono l1)⟩
def sIf (c : EvT) (f g : Sv) : Sv := fun env => M.bind (c env) fun b => if b = true then f env else g env
theorem sv_if {c : Expr} {a b : List Stmt} {fc : EvT} {f g : Sv} (hc : EVT X E c fc) (ha : SVs X E a f) (hb : SVs X E b g) : SV X E (.If c a b pos) (sIf fc f g) := PS.imp (ps_if hc ha hb) fun D σ H ⟨env, cs, ω, hs, hk, h⟩ =>
  ⟨env, cs, ω, hs, hk, h.bind.imp fun b ω1 cs1 H1 l1 k1 h1 => by
    cases b with
    | true => exact ⟨env, cs1, ω1, hs.mono l1, k1, h1⟩
    | false => exact ⟨env, cs1, ω1, hs.mono l1, k1, h1⟩⟩
def sSet (i : Nat) (f : Ev) : Sv := fun env => M.bind (f env) fun w => M.ret (.nx (env.set i (some w)))
theorem set_use {i : Nat} {f : Ev} {σ : L2.St} {H : Hp} {D : Ends} (h : tEvS X.K X.mg E (sSet i f) D σ H) : tAsg (tEv X.K X.mg E f) (gName i) D σ H :=
  let ⟨env, cs, ω, hs, hk, h⟩ := h
  ⟨env, cs, ω, hs, hk, h.bind.imp fun w ω1 cs1 H1 l1 k1 h1 v rv => h1.now k1 _ ((hs.mono l1).set i rv)⟩
theorem sv_set {i : Nat} {x : Str} {f : Ev} {pos' : Pos} (hN : X.N.Nodup) (hi : X.N[i]? = some x) (hx : Loc X.env.scope x) (he : EV X E e f) (hs : swapsWith e (some (.Name x pos')) pos.line X.env = pure false := by rfl) (hf : X.fn x = true ∨ X.env.scope.names.lookup x = some .local := by first | exact .inl rfl | exact .inr rfl | assumption) :
    SV X E (.Assign [.Name x pos'] e pos) (sSet i f) := PS.imp (ps_set hN hi hx he hs hf) fun D σ H h => set_use h
def sAsg (t : Tg) (f : Ev) : Sv := fun env => M.bind (f env) fun w => M.bind (M.opt (t w env)) fun env' => M.ret (.nx env')
theorem sv_asg {t : Tg} {ts : List Nat} {f : Ev} (he : EV X E e f) (hg : GV X tg t ts) (hs : swapsWithSole [tg] e pos.line X.env = pure false := by rfl) (hw : swappedStores [tg] e X.env = pure none := by rfl)
    (h1 : (assignEach [tg] X.env).map (·.2) = [assign tg X.env] := by rfl) : SV X E (.Assign [tg] e pos) (sAsg t f) := PS.imp (ps_asg he hg hs hw h1) fun D σ H ⟨env, cs, ω, hs, hk, h⟩ =>
  ⟨env, cs, ω, hs, hk, h.bind.imp fun w ω1 cs1 H1 l1 k1 h1 v rv => by
    obtain ⟨env', e, h2⟩ := Out.opt h1.bind
    exact ⟨env, cs1, ω1, w, env', hs.mono l1, k1, rv, e, fun σ' hs' _ => (h2.now k1).now k1 σ' hs'⟩⟩
theorem sv_setLc {elt iter : Expr} {ifs : List Expr} {scope : Scope} {own : List (Str × Nat)} {fi : EvI} {t : Tg} {ts : List Nat} {p : EvT} {f : Ev} {i : Nat} {y : Str} {py lpos : Pos} (g : EvF → Ev)
    (hgu : ∀ (f : EvF) (σ : L2.St) (H : Hp) (Q : VK), tEv X.K X.mg E (g f) σ H Q → tEvF X.K X.mg E f σ H Q)
    (hc : X.calm = true) (hN : X.N.Nodup) (hy : X.N[i]? = some y) (hyl : X.env.scope.names.lookup y = some .local) (hsw : swapsWith (.ListComp elt [⟨tg, iter, ifs, 0⟩] scope lpos) (some (.Name y py)) pos.line X.env = pure true)
    (hi : EVI X E tg iter fi) (ok : BlkOk X.N X.env.scope scope own)
    (hg : ∀ (s : Shared) (H : Hp) (C : Addr) (cl : List (Str × Addr)) (fp : List Addr), GV (X.blk s H scope (compEnvC scope cl C X.env) fp) tg t ts)
    (ht : ∀ (s : Shared) (H : Hp) (C : Addr) (cl : List (Str × Addr)) (fp : List Addr), EVTs (X.blk s H scope (compEnvC scope cl C X.env) fp) E0 ifs p)
    (he : ∀ (s : Shared) (H : Hp) (C : Addr) (cl : List (Str × Addr)) (fp : List Addr), EV (X.blk s H scope (compEnvC scope cl C X.env) fp) E0 elt f)
    (hsub : ∀ i ∈ ts, i ∈ own.map (·.2)) (hs : ∀ x, foldedSetIterable iter X.env x = pure x := by intro _; rfl) :
    SV X E (.Assign [.Name y py] (.ListComp elt [⟨tg, iter, ifs, 0⟩] scope lpos) pos) (sSet i (g (fLc fi t p f (own.map (·.2))))) :=
  PS.imp (ps_setLc (g := tEvG X.K t ts) (tt := tEvT X.K X.mg E0 p) (te := tEv X.K X.mg E0 f) hc hN hy hyl hsw hi ok hg ht he hs) fun D σ H h => by
    have h2 : tAsg (tEv X.K X.mg E (g (fLc fi t p f (own.map (·.2))))) (gName i) D σ H := set_use h
    exact lc_use hsub (hgu _ _ _ _ h2)
def sPar (i j : Nat) (g : EvA) : Sv := fun env => M.bind (g env) fun ws => match ws with
  | [a, b] => M.ret (.nx ((env.set i (some a)).set j (some b)))
  | _ => M.bad
theorem RepWs.two' {K : Frag} {ω : Wo} {vs : List V} {a b : Wv} (h : RepWs K ω vs [a, b]) : ∃ u v, vs = [u, v] ∧ RepW K ω u a ∧ RepW K ω v b := by
  cases h with
  | cons h1 h2 => cases h2 with
    | cons h2 h3 => cases h3; exact ⟨_, _, rfl, h1, h2⟩
theorem sv_par {i j : Nat} {x y : Str} {a b : Expr} {g : EvA} {px py pt : Pos} {kt k2 pt2} (hc : X.calm = true) (hN : X.N.Nodup) (hi : X.N[i]? = some x) (hj : X.N[j]? = some y) (hij : i ≠ j)
    (hx : X.env.scope.names.lookup x = some .local) (hy : X.env.scope.names.lookup y = some .local) (ha : EVA X E [a, b] g)
    (hw : swappedStores [.Tuple [.Name x px, .Name y py] kt pt] (.Tuple [a, b] k2 pt2) X.env = pure (some [x, y]))
    (hs : swapsWithSole [.Tuple [.Name x px, .Name y py] kt pt] (.Tuple [a, b] k2 pt2) pos.line X.env = pure false := by rfl) :
    SV X E (.Assign [.Tuple [.Name x px, .Name y py] kt pt] (.Tuple [a, b] k2 pt2) pos) (sPar i j g) := PS.imp (ps_par hc hN hi hj hij hx hy ha hw hs) fun D σ H ⟨env, cs, ω, hs, hk, h⟩ =>
  ⟨env, cs, ω, hs, hk, h.bind.imp fun ws ω1 cs1 H1 l1 k1 h1 vs rv => by
    match ws, h1, rv with
    | [a, b], h1, rv =>
      obtain ⟨u, v, e, q1, q2⟩ := rv.two'
      exact ⟨u, v, e, h1.now k1 _ (((hs.mono l1).set i q1).set j q2)⟩
    | [], h1, rv => exact (show False from h1).elim
    | [_], h1, rv => exact (show False from h1).elim
    | _ :: _ :: _ :: _, h1, rv => exact (show False from h1).elim⟩
def sPar3 (i j l : Nat) (g : EvA) : Sv := fun env => M.bind (g env) fun ws => match ws with
  | [a, b, c] => M.ret (.nx (((env.set i (some a)).set j (some b)).set l (some c)))
  | _ => M.bad
def sRaise (x : Str) : Sv := fun _ cs => .exc ⟨x, []⟩ cs
theorem sv_raise {x : Str} (hc : X.calm = true) (tk : Takes X fun cls d _ H => E cls d H) {C : Addr} (hm : X.mg x = some (.ref C)) (he : PMk X e fun _ H Q => Q (.ref C) none H) : SV X E (.Raise (some e) none pos) (sRaise x) :=
  PS.imp (ps_raise hc tk he) fun D σ H ⟨env, cs, ω, hs, hk, h⟩ => (show ∀ C ω' H', X.mg x = some (.ref C) → Le ω ω' → Ok X.K ω' H' cs → E (.ref C) none H' from h) C ω H hm (Le.refl ω) hk
def loopS (t : Tg) (b : Sv) : List Wv → En → M Fl
  | [], env => M.ret (.nx env)
  | w :: ws, env => M.bind (M.opt (t w env)) fun env' => M.bind (b env') fun fl => match fl with
    | .nx e => loopS t b ws e
    | .ct e => loopS t b ws e
    | .bk e => M.ret (.nx e)
    | .rt w => M.ret (.rt w)
def sFor (fi : EvI) (t : Tg) (b : Sv) : Sv := fun env => M.bind (fi env) fun ws => loopS t b ws env
theorem sv_for {iter : Expr} {body : List Stmt} {fi : EvI} {t : Tg} {ts : List Nat} {b : Sv} (hp : PassesOwn (model X.prog X.w) X.A X.env X.xe) (hc : X.calm = true) (hi : EVI X E tg iter fi) (hg : GV X tg t ts) (hb : SVs X E body b)
    (hs : ∀ x, foldedSetIterable iter X.env x = pure x := by intro _; rfl) : SV X E (.For tg iter body [] pos) (sFor fi t b) := PS.imp (ps_for hp hc hi hg hb hs) fun D σ H ⟨env, cs, ω, hst, hk, h⟩ =>
  ⟨env, cs, ω, hst, hk, h.bind.imp fun ws ω1 cs1 H1 l1 k1 h1 J wk => by
    refine ⟨fun i m σx Hx => m = ws.length - i ∧ i ≤ ws.length ∧ ∃ (ωi : Wo) (csi : List Cell) (envi : En), Lf ω1 ωi ∧ Ok X.K ωi Hx csi ∧ StRep X.K ωi σx envi ∧ Out X.K X.mg E ωi (loopS t b (ws.drop i) envi csi) fun fl ω' _ H' => EndAt X.K D fl ω' H',
      ⟨_, rfl, Nat.zero_le _, ω1, cs1, env, (Le.refl ω1).lf, k1, hst.mono l1, by rw [List.drop_zero]; exact h1⟩, ?_⟩
    rintro i m σx Hx ⟨rfl, hi, ωi, csi, envi, lf, kI, sI, hO⟩
    by_cases hlt : i < ws.length
    · refine .inr ⟨wk.goes i ωi Hx csi hlt lf kI, fun σn Hn => ∃ m', m' < ws.length - i ∧ (m' = ws.length - (i + 1) ∧ i + 1 ≤ ws.length ∧ ∃ (ωj : Wo) (csj : List Cell) (envj : En), Lf ω1 ωj ∧ Ok X.K ωj Hn csj ∧ StRep X.K ωj σn envj ∧ Out X.K X.mg E ωj (loopS t b (ws.drop (i + 1)) envj csj) fun fl ω' _ H' => EndAt X.K D fl ω' H'),
        fun σ' H' z => z, fun x Hy y => ?_⟩
      obtain ⟨ω2, l2, k2, w, ew, rw'⟩ := wk.yields i ωi Hx csi x Hy hlt lf kI y
      have ed : ws.drop i = w :: ws.drop (i + 1) := by
        obtain ⟨_, e⟩ := List.getElem?_eq_some_iff.mp ew
        rw [← e]
        exact List.drop_eq_getElem_cons hlt
      rw [ed] at hO
      obtain ⟨env', et, hO3⟩ := Out.opt (Out.le l2 hO).bind
      refine ⟨envi, csi, ω2, w, env', sI.mono l2, k2, rw', et, fun σ2 hs2 _ => ⟨env', csi, ω2, hs2, k2, (hO3.now k2).bind.imp fun fl ω3 cs3 H3 l3 k3 hO5 => ?_⟩⟩
      have lf3 : Lf ω1 ω3 := ⟨lf.ex.trans (l2.trans l3).ex, lf.ad.trans (l2.trans l3).ad, (l2.trans l3).tb.trans lf.tb⟩
      cases fl with
      | nx e => exact fun σ' hs' => ⟨_, by omega, rfl, hlt, ω3, cs3, e, lf3, k3, hs', hO5⟩
      | ct e => exact fun σ' hs' => ⟨_, by omega, rfl, hlt, ω3, cs3, e, lf3, k3, hs', hO5⟩
      | bk e => exact fun σ' hs' => hO5.now k3 σ' hs'
      | rt w => exact fun v rv => hO5.now k3 v rv
    · have e : i = ws.length := by omega
      subst e
      refine .inl ⟨wk.stops ωi Hx csi lf kI, ?_⟩
      rw [List.drop_length] at hO
      exact hO.now kI σx sI⟩
def loopW (c : EvT) (b : Sv) : Nat → En → M Fl
  | 0, _ => M.bad
  | n + 1, env => M.bind (c env) fun k => if k = true then M.bind (b env) fun fl => match fl with
      | .nx e => loopW c b n e
      | .ct e => loopW c b n e
      | .bk e => M.ret (.nx e)
      | .rt w => M.ret (.rt w)
    else M.ret (.nx env)
/-- the bound is read off the slots and the cells -/
def sWhile (μ : En → List Cell → Nat) (c : EvT) (b : Sv) : Sv := fun env cs => loopW c b (μ env cs) env cs
theorem sv_while {c : Expr} {body : List Stmt} {fc : EvT} {b : Sv} (μ : En → List Cell → Nat) (hp : PassesOwn (model X.prog X.w) X.A X.env X.xe) (hc : EVT X E c fc) (hb : SVs X E body b) : SV X E (.While c body [] pos) (sWhile μ fc b) := PS.imp (ps_while hp hc hb) fun D σ H ⟨env, cs, ω, hst, hk, h⟩ => by
  refine ⟨fun m σx Hx => ∃ (ωi : Wo) (csi : List Cell) (envi : En), Ok X.K ωi Hx csi ∧ StRep X.K ωi σx envi ∧ Out X.K X.mg E ωi (loopW fc b m envi csi) fun fl ω' _ H' => EndAt X.K D fl ω' H', ⟨μ env cs, ω, cs, env, hk, hst, h⟩, ?_⟩
  rintro m σx Hx ⟨ωi, csi, envi, kI, sI, hO⟩
  cases m with
  | zero => exact (show False from hO).elim
  | succ n =>
    refine ⟨envi, csi, ωi, sI, kI, (Out.bind hO).imp fun k ω1 cs1 H1 l1 k1 h1 => ?_⟩
    cases k with
    | false => exact h1.now k1 σx (sI.mono l1)
    | true =>
      refine ⟨fun σn Hn => ∃ (ωi : Wo) (csi : List Cell) (envi : En), Ok X.K ωi Hn csi ∧ StRep X.K ωi σn envi ∧ Out X.K X.mg E ωi (loopW fc b n envi csi) fun fl ω' _ H' => EndAt X.K D fl ω' H', fun σ' H' z => ⟨n, Nat.lt_succ_self _, z⟩, ?_⟩
      refine ⟨envi, cs1, ω1, sI.mono l1, k1, (Out.bind h1).imp fun fl ω2 cs2 H2 l2 k2 h2 => ?_⟩
      cases fl with
      | nx e => exact fun σ' hs' => ⟨ω2, cs2, e, k2, hs', h2⟩
      | ct e => exact fun σ' hs' => ⟨ω2, cs2, e, k2, hs', h2⟩
      | bk e => exact fun σ' hs' => h2.now k2 σ' hs'
      | rt w => exact fun v rv => h2.now k2 v rv
end
end DX
namespace DX
variable [TabT]
open PySem PySem.Spec PyProof.Rows L2
abbrev Fn := List Wv → M Wv
def startE (n : Nat) (ws : List Wv) : En := ws.map some ++ List.replicate (n - ws.length) none
def fin : Fl → M Wv
  | .rt w => M.ret w
  | .nx _ => M.ret (.dat .non)
  | _ => M.bad
def fnOf (n : Nat) (b : Sv) : Fn := fun ws => M.bind (b (startE n ws)) fin
theorem RepWs.at {K : Frag} {ω : Wo} {vs : List V} {ws : List Wv} (r : RepWs K ω vs ws) : ∀ {i : Nat} {w : Wv}, ws[i]? = some w → ∃ v, vs[i]? = some v ∧ RepW K ω v w := by
  induction r with
  | nil => intro i w e; simp at e
  | cons h1 _ ih =>
    intro i w e
    cases i with
    | zero => simp at e; subst e; exact ⟨_, rfl, h1⟩
    | succ i => simp at e; simpa using ih e
theorem startRep {K : Frag} {ω : Wo} {N : List Str} {vs : List V} {ws : List Wv} (r : RepWs K ω vs ws) : StRep K ω (L2.start N vs) (startE N.length ws) := by
  have hl := r.len
  refine ⟨by simp [L2.start, startE, hl], fun i w e => ?_⟩
  unfold startE at e
  unfold L2.start
  by_cases hi : i < ws.length
  · rw [List.getElem?_append_left (by simpa using hi), List.getElem?_map] at e
    cases q : ws[i]? with
    | none => rw [q] at e; cases e
    | some w' =>
      rw [q] at e
      cases e
      obtain ⟨v, e1, r1⟩ := r.at q
      exact ⟨v, by rw [List.getElem?_append_left (by simp; omega), List.getElem?_map, e1]; rfl, r1⟩
  · rw [List.getElem?_append_right (by simp; omega), List.getElem?_replicate] at e
    split at e <;> cases e
structure FnG (P : Program) (w : World) (K : Frag) (mg : MG) (base : Heap) (gd : Bool) (k : Nat) (f : Addr) (fd : FuncData) (ps : List Str) (m : Fn) : Prop where
  run : ∀ (A : Around) (outer : List Env) (s : Shared) (H : Hp) (args : Args) (us : List Value) (vs : List V) (Q : VK) (E : XK) (ω : Wo) (cs : List Cell) (ws : List Wv), Room k A → (gd = true → A.guards = some []) → Env0 P w K mg base A outer s H → BindsTo s fd args (ps.zip us) → Vals vs us →
    ws.length = ps.length → Ok K ω H cs → RepWs K ω vs ws → Out K mg E ω (m ws cs) (fun w ω' _ H' => ∀ v, RepW K ω' v w → Q v H') → codeAny (model P w) A (.call (.ref f) args) (CR (L2.CX P w) outer P w H s Q E) s
theorem FnG.mono {P : Program} {w : World} {K : Frag} {mg : MG} {base : Heap} {gd : Bool} {j k : Nat} {f : Addr} {fd : FuncData} {ps : List Str} {m : Fn} (F : FnG P w K mg base gd j f fd ps m) (h : j ≤ k) : FnG P w K mg base gd k f fd ps m :=
  ⟨fun A outer s H args us vs Q E ω cs ws hr => F.run A outer s H args us vs Q E ω cs ws (hr.mono h)⟩
theorem fng_of {P : Program} {w : World} {K : Frag} {mg : MG} {base : Heap} {gd : Bool} {k : Nat} {x qual : Str} {st : Stmt} {f : Addr} {fd : FuncData} {N ps : List Str} {b : Sv} (F : Fun K x qual st f fd) (S : FnScope N ps (defScope st))
    (hb : ∀ (cdv : Value) (A : Around) (outer : List Env) (s : Shared) (H : Hp) (E : XK), fd.code = cdv → Room k (A.deeper (envOfC qual (defScope st) s.heap.objs.size f cdv)) → (gd = true → A.guards = some []) → SVs (cxOf (L2.CX P w) P w K mg base N qual (defScope st) f cdv A outer s H E) E (defBody st) b) :
    FnG P w K mg base gd (k + 1) f fd ps (fnOf N.length b) := by
  refine ⟨fun A outer s H args us vs Q E ω cs ws hr hgd e0 bt r hl hk rw' hO => ?_⟩
  obtain ⟨oc, od, kV, doc, pm, an, cdv, ct, osl, rfl, lk, hcd⟩ := F.ex
  refine LamX.run_ofS (N := N) lk hcd S hr e0 bt r (rw'.len.trans hl) fun hr2 => ⟨_, hb cdv A outer s H E rfl hr2 hgd, startE N.length ws, cs, ω, startRep rw', hk, ?_⟩
  refine (Out.bind hO).imp fun fl ω1 cs1 H1 l1 k1 h1 => ?_
  cases fl with
  | nx env => exact fun _ _ => h1.now k1 .non .non
  | rt w => exact fun v rv => h1.now k1 v rv
  | bk env => exact (show False from h1).elim
  | ct env => exact (show False from h1).elim
section
variable {X : Cx} {E : XK} {gd : Bool} {k : Nat} {f : Addr} {fd : FuncData} {ps ks : List Str} {m : Fn} {x : Str} {p pos : Pos} {e : Expr} {es : List Expr} {g g2 : EvA} {kws : List Keyword}
theorem pass_never {X : Cx} : Passes (L2.CX X.prog X.w) X E0 := fun _ _ _ _ _ _ _ ⟨_, _, _, _, _, _, _, _, _, _, _, _, h⟩ => h.elim
def eFn (n : Nat) (m : Fn) (g : EvA) : Ev := fun env => M.bind (g env) fun ws => if ws.length = n then m ws else M.bad
theorem run_g {args : List Value} {kw : List (Str × Value)} {ω : Wo} {cs : List Cell} {ws : List Wv} {pins : List (Addr × Obj)} {σ : L2.St} {H : Hp} {s : Shared} {Q : VK} {us : List Value} {vs : List V} (F : FnG X.prog X.w X.K X.mg X.base gd k f fd ps m) (hr : Room k X.A) (hgd : gd = true → X.A.guards = some []) (hx : Passes (L2.CX X.prog X.w) X E)
    (hb : BindsTo s fd ⟨args, kw⟩ (ps.zip us)) (I : Inv X pins σ H s) (r : Vals vs us) (hl : ws.length = ps.length) (hk : Ok X.K ω H cs) (rw' : RepWs X.K ω vs ws) (h : Out X.K X.mg E ω (m ws cs) (fun w ω' _ H' => ∀ v, RepW X.K ω' v w → Q v H')) :
    wpAny (model X.prog X.w) X.A (call (.ref f) args kw) (EP X pins σ Q) X.xe s := by
  refine wpAny_call (codeAny_mono (F.run X.A X.stack s H ⟨args, kw⟩ us vs Q E ω cs ws hr hgd I.env0 hb r hl hk rw' h) fun r s' hq => ?_)
  cases r with
  | error e => exact hx pins σ H s e s' I hq
  | ok fl =>
    cases fl with
    | ret u => exact I.after hq
    | next => exact False.elim hq
    | brk => exact False.elim hq
    | cont => exact False.elim hq
theorem ev_callF (F : FnG X.prog X.w X.K X.mg X.base gd k f fd ps m) (hr : Room k X.A) (hgd : gd = true → X.A.guards = some []) (hx : Passes (L2.CX X.prog X.w) X E) (hg : Gl X x) (hm : X.mg x = some (.ref f)) (hkp : PySem.W.keepIn X.K (.ref f) = true) (hb : L2.Binds X.K fd ps [])
    (ha : EVA X E (e :: es) g) (hdb : (x == ("__debug__" : Str)) = false := by decide) (he : starEach (e :: es) X.env = (false, eval e X.env) :: starEach es X.env := by rfl) (hpl : (backTo pos (starEach es X.env)).any (·.1) = false := by rfl) :
    EV X E (.Call (.Name x p) (e :: es) [] pos) (eFn ps.length m g) := by
  refine ⟨fun pins s σ H Q I h => ?_⟩
  obtain ⟨env, cs, ω, hs, hk, h⟩ := h
  refine wpAny_Call_Name_kw (ld_glob I hg hm ?_ hdb)
  refine PySem.W.callWith_K (h₀ := X.base) I.ok.mod.kin hkp (thn (ha.run pos pins s σ H (fun vs H1 => ∃ ω1 cs1 ws, Ok X.K ω1 H1 cs1 ∧ RepWs X.K ω1 vs ws ∧ Out X.K X.mg E ω1 ((if ws.length = ps.length then m ws else M.bad) cs1) (fun w ω' _ H' => ∀ v, RepW X.K ω' v w → Q v H')) I ⟨env, cs, ω, hs, hk, h.bind.imp fun ws ω1 cs1 H1 l1 k1 h1 vs rv => ⟨ω1, cs1, ws, k1, rv, h1⟩⟩) fun us s1 ⟨vs, H1, I1, r, ω1, cs1, ws, k1, rv, h1⟩ => ⟨I1.kIn, ?_⟩) he hpl
  split at h1
  · rename_i hl
    exact run_g F hr hgd hx (by have q := hb s1 us I1.kIn (by rw [List.append_nil, ← r.length, rv.len]; exact hl); rwa [List.append_nil] at q) I1 r hl k1 rv h1
  · exact (show False from h1).elim
def tEvAk (X : Cx) (E : XK) (kws : List Keyword) (f : EvA) : Prop := PK X kws (tEvA X.K X.mg E f)
theorem PK.imp {kws : List Keyword} {t u : TA} (h : PK X kws t) (i : ∀ σ H Q, u σ H Q → t σ H Q) : PK X kws u := ⟨fun pos pins s σ H Q I q => h.run pos pins s σ H Q I (i σ H Q q)⟩
theorem ek_nil : tEvAk X E [] aNil := PK.imp pk_nil fun σ H Q ⟨env, cs, ω, hs, hk, h⟩ => h.now hk [] .nil
theorem ek_cons {f : Ev} {nm : Option Str} {kpos : Pos} (h1 : EV X E e f) (h2 : tEvAk X E kws g) : tEvAk X E (⟨nm, e, kpos⟩ :: kws) (aCons f g) := PK.imp (pk_cons h1 h2) fun σ H Q ⟨env, cs, ω, hs, hk, h⟩ =>
  ⟨env, cs, ω, hs, hk, h.bind.imp fun w ω1 cs1 H1 l1 k1 h1 v rv => ⟨env, cs1, ω1, hs.mono l1, k1, h1.bind.imp fun ws ω2 cs2 H2 l2 k2 h2 vs rvs => h2.now k2 (v :: vs) (.cons (rv.mono l2) rvs)⟩⟩
def pickL {α : Type} (π : List Nat) (xs : List α) : List α := π.filterMap fun i => xs[i]?
theorem RepWs.pick {K : Frag} {ω : Wo} {vs : List V} {ws : List Wv} (r : RepWs K ω vs ws) : ∀ π : List Nat, RepWs K ω (pickL π vs) (pickL π ws)
  | [] => .nil
  | i :: π => by
    have ih := r.pick π
    have hl := r.len
    unfold pickL at ih ⊢
    cases e : ws[i]? with
    | none =>
      have e2 : vs[i]? = none := by
        rw [List.getElem?_eq_none_iff] at e ⊢
        omega
      rw [List.filterMap_cons_none e, List.filterMap_cons_none e2]
      exact ih
    | some w =>
      obtain ⟨v, e2, r1⟩ := r.at e
      rw [List.filterMap_cons_some e, List.filterMap_cons_some e2]
      exact .cons r1 ih
theorem vals_pick {vs : List V} {us : List Value} (r : Vals vs us) : ∀ π : List Nat, Vals (pickL π vs) (pickL π us)
  | [] => .nil
  | i :: π => by
    have ih := vals_pick r π
    have hl := r.length
    unfold pickL at ih ⊢
    cases e : vs[i]? with
    | none =>
      have e2 : us[i]? = none := by
        rw [List.getElem?_eq_none_iff] at e ⊢
        omega
      rw [List.filterMap_cons_none e, List.filterMap_cons_none e2]
      exact ih
    | some w =>
      obtain ⟨v, e2, r1⟩ := r.get e
      rw [List.filterMap_cons_some e, List.filterMap_cons_some e2]
      exact .cons r1 ih
def eFnP (n : Nat) (π : List Nat) (m : Fn) (g : EvA) : Ev := fun env => M.bind (g env) fun ws => if ws.length = n ∧ (pickL π ws).length = n then m (pickL π ws) else M.bad
theorem ev_callK {π : List Nat} (F : FnG X.prog X.w X.K X.mg X.base gd k f fd ps m) (hr : Room k X.A) (hgd : gd = true → X.A.guards = some []) (hx : Passes (L2.CX X.prog X.w) X E) (hg : Gl X x) (hm : X.mg x = some (.ref f)) (hkp : PySem.W.keepIn X.K (.ref f) = true)
    (hb : ∀ (s : Shared) (us : List Value), us.length = ps.length → BindsTo s fd ⟨[], ks.zip us⟩ (ps.zip (pickL π us)))
    (ha : tEvAk X E kws g) (hall : (backToKw pos (keywordEach kws X.env)).all (·.1.isSome) = true := by rfl) (hks : (backToKw pos (keywordEach kws X.env)).filterMap (·.1) = ks := by rfl) (hdb : (x == ("__debug__" : Str)) = false := by decide)
    (hpl : ((backTo pos (starEach [] X.env)).any (·.1) || (backToKw pos (keywordEach kws X.env)).any (·.1.isNone)) = false := by rfl) :
    EV X E (.Call (.Name x p) [] kws pos) (eFnP ps.length π m g) := by
  refine ⟨fun pins s σ H Q I h => ?_⟩
  obtain ⟨env, cs, ω, hs, hk, h⟩ := h
  refine wpAny_Call_Name_kw (ld_glob I hg hm ?_ hdb)
  refine PySem.W.callWith_KW0 (h₀ := X.base) I.ok.mod.kin hkp hall (thn (ha.run pos pins s σ H (fun vs H1 => ∃ ω1 cs1 ws, Ok X.K ω1 H1 cs1 ∧ RepWs X.K ω1 vs ws ∧ Out X.K X.mg E ω1 ((if ws.length = ps.length ∧ (pickL π ws).length = ps.length then m (pickL π ws) else M.bad) cs1) (fun w ω' _ H' => ∀ v, RepW X.K ω' v w → Q v H')) I ⟨env, cs, ω, hs, hk, h.bind.imp fun ws ω1 cs1 H1 l1 k1 h1 vs rv => ⟨ω1, cs1, ws, k1, rv, h1⟩⟩) fun us s1 ⟨vs, H1, I1, r, ω1, cs1, ws, k1, rv, h1⟩ => ⟨I1.kIn, ?_⟩) hpl
  rw [hks]
  split at h1
  · rename_i hl
    exact run_g F hr hgd hx (hb s1 us (by rw [← r.length, rv.len]; exact hl.1)) I1 (vals_pick r π) hl.2 k1 (rv.pick π) h1
  · exact (show False from h1).elim
end
end DX
namespace DX
variable [TabT]
open PySem PySem.Spec PyProof.Rows L2
section
variable {X : Cx} {E : XK} {a b c e : Expr} {es : List Expr} {pos p apos cpos : Pos} {f g h : Ev} {ga : EvA}
def snap (cs : List Cell) : Wv → Option PyData
  | .dat d => py d
  | .cel k => match cs[k]? with
    | some (.lst ws) => ((dats ws).bind pys).map .list
    | _ => none
theorem snap_of {K : Frag} {ω : Wo} {H : Hp} {cs : List Cell} {v : V} {w : Wv} {q : PyData} (k : Ok K ω H cs) (r : RepW K ω v w) (e : snap cs w = some q) : Dp K H v q := by
  cases w with
  | dat d => exact dp_of d v q (RepD.mono k.ex d v r) e
  | cel i =>
    obtain ⟨a, e1, rfl⟩ := r
    unfold snap at e
    dsimp only at e
    cases hc : cs[i]? with
    | none => rw [hc] at e; cases e
    | some c =>
      rw [hc] at e
      have qc := k.cell e1 hc
      cases c with
      | lst ws =>
        obtain ⟨_, vs, h1, h2⟩ := qc
        have e : ((dats ws).bind pys).map PyData.list = some q := e
        cases hd : dats ws with
        | none => rw [hd] at e; cases e
        | some ds =>
          rw [hd] at e
          have e : (pys ds).map PyData.list = some q := e
          cases hp : pys ds with
          | none => rw [hp] at e; cases e
          | some ps =>
            rw [hp] at e
            cases e
            exact .lst (SqL.of h1) (dps_of ds vs ps (RepL.mono k.ex ds vs (h2.dats hd)) hp)
      | dic l => cases e
      | ins C l => cases e
      | dead => cases e
      | lck l => cases e
      | dit b l => cases e
def eqS : Wv → Wv → Option Bool
  | .dat (.int i), .dat (.int j) => some (i == j)
  | .dat (.str i), .dat (.str j) => some (i == j)
  | .dat (.bl i), .dat (.bl j) => some (i == j)
  | _, _ => none
def eqL (x y : Wv) (cs : List Cell) : Option Bool := match snap cs x, snap cs y with
  | some p, some q => if (SeqAt.shaped p && SeqAt.shaped q) = true then some (PyData.eqv p q) else none
  | _, _ => none
def eqB (x y : Wv) (cs : List Cell) : Option Bool := match eqS x y with
  | some b => some b
  | none => eqL x y cs
def eqC (neg : Bool) (x y : Wv) (cs : List Cell) : Option Dt := (eqB x y cs).map fun b => .bl (if neg then !b else b)
theorem eqL_of {x y : Wv} {cs : List Cell} {b : Bool} (h : eqL x y cs = some b) : ∃ p q, snap cs x = some p ∧ snap cs y = some q ∧ SeqAt.shaped p = true ∧ SeqAt.shaped q = true ∧ b = PyData.eqv p q := by
  unfold eqL at h
  split at h
  · rename_i p q e1 e2
    split at h
    · rename_i hh
      simp only [Bool.and_eq_true] at hh
      exact ⟨p, q, e1, e2, hh.1, hh.2, (Option.some.inj h).symm⟩
    · cases h
  · cases h
def eEqC (neg : Bool) (f g : Ev) : Ev := fun env => M.bind (f env) fun x => M.bind (g env) fun y => fun cs => M.opt ((eqC neg x y cs).map .dat) cs
def rEqN (K : Frag) (neg : Bool) : R2 := fun x y H Q => (if neg then rNe x y H Q else rEq x y H Q) ∨ (if neg then rNeD K x y H Q else rEqD K x y H Q)
theorem eqB_use {K : Frag} {ω : Wo} {H : Hp} {cs : List Cell} {neg : Bool} {u v : V} {x y : Wv} {b : Bool} {Q : VK} (k : Ok K ω H cs) (ru : RepW K ω u x) (rv : RepW K ω v y) (e : eqB x y cs = some b) (q : Q (.bl (if neg then !b else b)) H) : rEqN K neg u v H Q := by
  unfold eqB at e
  split at e
  · rename_i b' e1
    cases e
    have key : scal u v = true ∧ b = decide (u = v) := by
      unfold eqS at e1
      split at e1
      · rename_i i j
        cases (show RepD K ω.Hs u (.int i) from ru)
        cases (show RepD K ω.Hs v (.int j) from rv)
        cases e1
        exact ⟨rfl, dec_int.symm⟩
      · rename_i i j
        cases (show RepD K ω.Hs u (.str i) from ru)
        cases (show RepD K ω.Hs v (.str j) from rv)
        cases e1
        exact ⟨rfl, dec_str.symm⟩
      · rename_i i j
        cases (show RepD K ω.Hs u (.bl i) from ru)
        cases (show RepD K ω.Hs v (.bl j) from rv)
        cases e1
        exact ⟨rfl, dec_bl.symm⟩
      · cases e1
    obtain ⟨h1, rfl⟩ := key
    cases neg with
    | true => exact .inl ⟨h1, q⟩
    | false => exact .inl ⟨h1, q⟩
  · obtain ⟨p, p', e1, e2, s1, s2, rfl⟩ := eqL_of e
    cases neg with
    | true => exact .inr ⟨p, p', snap_of k ru e1, snap_of k rv e2, s1, s2, q⟩
    | false => exact .inr ⟨p, p', snap_of k ru e1, snap_of k rv e2, s1, s2, q⟩
theorem eqC_use {neg : Bool} {σ : L2.St} {H : Hp} {Q : VK} (hh : tEv X.K X.mg E (eEqC neg f g) σ H Q) : tOp (rEqN X.K neg) (tEv X.K X.mg E f) (tEv X.K X.mg E g) σ H Q := by
  obtain ⟨env, cs, ω, hs, hk, h⟩ := hh
  refine ⟨env, cs, ω, hs, hk, h.bind.imp fun x ω1 cs1 H1 l1 k1 h1 u ru => ⟨env, cs1, ω1, hs.mono l1, k1, h1.bind.imp fun y ω2 cs2 H2 l2 k2 h2 v rv => ?_⟩⟩
  obtain ⟨z, e, h3⟩ := Out.map_some (show Out X.K X.mg E ω2 (M.opt ((eqC neg x y cs2).map Wv.dat) cs2) _ from h2)
  unfold eqC at e
  cases hb : eqB x y cs2 with
  | none => rw [hb] at e; cases e
  | some b =>
    rw [hb] at e
    cases e
    exact eqB_use k2 (ru.mono l2) rv hb (h3.now k2 _ (RepD.bl _))
theorem op_eqN (hu : X.A.units + 64 < cLine) : OpR X (compareOp .Eq) (rEqN X.K false) := OpR.or op_eq (op_eqD hu)
theorem op_neN (hu : X.A.units + 64 < cLine) : OpR X (compareOp .NotEq) (rEqN X.K true) := OpR.or op_ne (op_neD hu)
theorem ev_eqC (hu : X.A.units + 64 < cLine) (ha : EV X E a f) (hb : EV X E b g) : EV X E (.Compare a [.Eq] [b] pos) (eEqC false f g) := PE.imp (pe_cmpR (op_eqN hu) ha hb (nomark _)) fun _ _ _ h => eqC_use (neg := false) h
theorem ev_neC (hu : X.A.units + 64 < cLine) (ha : EV X E a f) (hb : EV X E b g) : EV X E (.Compare a [.NotEq] [b] pos) (eEqC true f g) := PE.imp (pe_cmpR (op_neN hu) ha hb (nomark _)) fun _ _ _ h => eqC_use (neg := true) h
theorem et_eqC (hu : X.A.units + 64 < cLine) (ha : EV X E a f) (hb : EV X E b g) : EVT X E (.Compare a [.Eq] [b] pos) (tCmpE (eEqC false f g)) := PT.imp (pt_cmpR (op_eqN hu) ha hb (nomark _)) fun _ _ _ h => tEv_test (fun _ _ _ h => eqC_use (neg := false) h) h
theorem et_neC (hu : X.A.units + 64 < cLine) (ha : EV X E a f) (hb : EV X E b g) : EVT X E (.Compare a [.NotEq] [b] pos) (tCmpE (eEqC true f g)) := PT.imp (pt_cmpR (op_neN hu) ha hb (nomark _)) fun _ _ _ h => tEv_test (fun _ _ _ h => eqC_use (neg := true) h) h
theorem Ok.setCell {K : Frag} {ω : Wo} {H : Hp} {cs : List Cell} {i : Nat} {a : Addr} {o o' : HO} {c : Cell} (k : Ok K ω H cs) (e : ω.ad[i]? = some a) (hn : ω.Hs a = none ∧ ω.fr a = none) (ho : H a = some o) (hp : (∀ ps, o ≠ .tbl ps) ∧ ∀ b q, o ≠ LamX.CodeO b q) (hc : CellAt K ω (upd H a o') a c) (hz : ∀ u v, o ≠ .frz u v := by intro u v z; cases z) : Ok K ω (upd H a o') (cs.set i c) := by
  refine ⟨fun b u hb => ?_, by rw [List.length_set]; exact k.len, k.nd, fun j b c' e1 e2 => ?_, fun q hq => ?_, fun b u hb => ?_, k.dj, k.nt, k.nf, fun b oo vs e => by
    have ne : b ≠ a := fun z => by
      have q := k.lk b oo vs e
      rw [z, ho] at q
      cases q
      exact hz _ _ rfl
    rw [upd_ne ne]
    exact k.lk b oo vs e⟩
  · rw [upd_ne (ne_of_none hb hn.1)]
    exact k.ex b u hb
  · by_cases hj : i = j
    · subst hj
      rw [e] at e1
      cases e1
      have hl : i < cs.length := by
        rw [k.len]
        exact (List.getElem?_eq_some_iff.mp e).1
      rw [List.getElem?_set_self hl] at e2
      cases e2
      exact hc
    · rw [List.getElem?_set_ne hj] at e2
      have q := k.cel j b c' e1 e2
      have ne : b ≠ a := fun z => by
        subst z
        obtain ⟨h1, g1⟩ := List.getElem?_eq_some_iff.mp e
        obtain ⟨h2, g2⟩ := List.getElem?_eq_some_iff.mp e1
        exact hj ((List.getElem_inj k.nd).mp (g1.trans g2.symm))
      exact q.mono (Le.refl ω) id fun u z => by rw [upd_ne ne]; exact z
  · obtain ⟨ps, h1, h2, h3⟩ := k.tab q hq
    have ne : ∀ {b u}, H b = some u → o ≠ u → b ≠ a := fun {b u} e d z => by
      rw [z, ho] at e
      exact d (Option.some.inj e)
    refine ⟨ps, by rw [upd_ne (ne h1 (hp.1 _))]; exact h1, h2, fun pos cv hc => ?_⟩
    obtain ⟨c, e1, e2⟩ := h3 pos cv hc
    exact ⟨c, e1, by rw [upd_ne (ne e2 (hp.2 _ _))]; exact e2⟩
  · rw [upd_ne (ne_of_none hb hn.2)]
    exact k.frx b u hb
theorem lst_plain {xs : List V} : (∀ ps, HO.lst xs ≠ .tbl ps) ∧ ∀ b q, HO.lst xs ≠ LamX.CodeO b q := ⟨fun ps z => (nomatch z), fun b q z => by unfold LamX.CodeO at z; cases z⟩
theorem dK_plain {xs : List (Key × V)} : (∀ ps, HO.dK xs ≠ .tbl ps) ∧ ∀ b q, HO.dK xs ≠ LamX.CodeO b q := ⟨fun ps z => (nomatch z), fun b q z => by unfold LamX.CodeO at z; cases z⟩
def MethO (K : Frag) (mg : MG) (E : XK) (r : V → List V → Hp → VK → Prop) (o : Wv → List Wv → M Wv) : Prop := ∀ (ω : Wo) (H : Hp) (cs : List Cell) (v : V) (x : Wv) (vs : List V) (ws : List Wv), Ok K ω H cs → RepW K ω v x → RepWs K ω vs ws →
  ∀ Q : VK, Out K mg E ω (o x ws cs) (fun w ω' _ H' => ∀ v, RepW K ω' v w → Q v H') → r v vs H Q
def okStr (x : Wv) (_ : List Cell) : Bool := match x with
  | .dat (.str _) => true
  | _ => false
def okLst (x : Wv) (cs : List Cell) : Bool := match x with
  | .cel k => match cs[k]? with
    | some (.lst _) => true
    | _ => false
  | _ => false
def TyO (K : Frag) (T : String) (ok : Wv → List Cell → Bool) : Prop := ∀ (ω : Wo) (H : Hp) (cs : List Cell) (v : V) (x : Wv), Ok K ω H cs → RepW K ω v x → ok x cs = true → tyV K T v H
theorem ty_str {K : Frag} : TyO K "str" okStr := fun ω H cs v x k r e => by
  cases x with
  | cel i => cases e
  | dat d =>
    cases d with
    | str s =>
      cases (show RepD K ω.Hs v (.str s) from r)
      exact rfl
    | _ => cases e
theorem ty_lst {K : Frag} : TyO K "list" okLst := fun ω H cs v x k r e => by
  cases x with
  | dat d => cases e
  | cel i =>
    obtain ⟨a, e1, rfl⟩ := r
    unfold okLst at e
    dsimp only at e
    cases hc : cs[i]? with
    | none => rw [hc] at e; cases e
    | some c =>
      rw [hc] at e
      have q := k.cell e1 hc
      cases c with
      | lst ws => obtain ⟨_, vs, h1, _⟩ := q; exact .inl ⟨rfl, vs, SqL.of h1⟩
      | dic l => cases e
      | ins C l => cases e
      | dead => cases e
      | lck l => cases e
      | dit b l => cases e
def eMeth (ok : Wv → List Cell → Bool) (o : Wv → List Wv → M Wv) (f : Ev) (g : EvA) : Ev := fun env => M.bind (f env) fun x => fun cs => if ok x cs = true then M.bind (g env) (fun ws => o x ws) cs else .bad
theorem meth_use {T : String} {ok : Wv → List Cell → Bool} {o : Wv → List Wv → M Wv} {r : V → List V → Hp → VK → Prop} (ht : TyO X.K T ok) (hr : MethO X.K X.mg E r o) {σ : L2.St} {H : Hp} {Q : VK} (hh : tEv X.K X.mg E (eMeth ok o f ga) σ H Q) : tBM X.K T r (tEv X.K X.mg E f) (tEvA X.K X.mg E ga) σ H Q := by
  obtain ⟨env, cs, ω, hs, hk, h⟩ := hh
  refine ⟨env, cs, ω, hs, hk, h.bind.imp fun x ω1 cs1 H1 l1 k1 h1 v rv => ?_⟩
  have h1 : Out X.K X.mg E ω1 (if ok x cs1 = true then M.bind (ga env) (fun ws => o x ws) cs1 else .bad) _ := h1
  split at h1
  · rename_i hok
    exact ⟨ht ω1 H1 cs1 v x k1 rv hok, env, cs1, ω1, hs.mono l1, k1, h1.bind.imp fun ws ω2 cs2 H2 l2 k2 h2 vs rvs => hr ω2 H2 cs2 v x vs ws k2 (rv.mono l2) rvs Q h2⟩
  · exact (show False from h1).elim
theorem ev_bm {T id : String} {name : Str} {ok : Wv → List Cell → Bool} {o : Wv → List Wv → M Wv} {r : V → List V → Hp → VK → Prop} (pa : PlainAttrs T) (slot : Slot T name id) (hty : typeOf (.builtin id) = pure (.type "method_descriptor")) (hm : MtR X id r) (ht : TyO X.K T ok) (hr : MethO X.K X.mg E r o) (ho : EV X E a f) (ha : EVA X E (e :: es) ga)
    (hbase : attributeBase a name X.env (eval a X.env) = eval a X.env := by rfl)
    (hfew : ((backTo cpos (starEach (e :: es) X.env)).all (fun x => !x.1) && (backToKw cpos (keywordEach [] X.env)).all (fun x => x.1.isSome)
      && decide ((e :: es).length + ([] : List Keyword).length + (if ([] : List Keyword).isEmpty then 0 else 1) < 30)) = true := by rfl)
    (hline : (apos.endLine == cpos.line) = true := by rfl) (hs : starEach (e :: es) X.env = (false, eval e X.env) :: starEach es X.env := by rfl) (hplain : (backTo cpos (starEach es X.env)).any (·.1) = false := by rfl) :
    EV X E (.Call (.Attribute a name apos) (e :: es) [] cpos) (eMeth ok o f ga) := PE.imp (pe_bm pa slot hty hm ho ha hbase hfew hline hs hplain) fun _ _ _ h => meth_use ht hr h
theorem ev_bmS {T id : String} {name : Str} {ok : Wv → List Cell → Bool} {o : Wv → List Wv → M Wv} {r : L2.St → V → List V → Hp → VK → Prop} (pa : PlainAttrs T) (slot : Slot T name id) (hty : typeOf (.builtin id) = pure (.type "method_descriptor")) (hm : MtS X id r) (ht : TyO X.K T ok) (hr : ∀ σ, MethO X.K X.mg E (r σ) o) (ho : EV X E a f) (ha : EVA X E (e :: es) ga)
    (hbase : attributeBase a name X.env (eval a X.env) = eval a X.env := by rfl)
    (hfew : ((backTo cpos (starEach (e :: es) X.env)).all (fun x => !x.1) && (backToKw cpos (keywordEach [] X.env)).all (fun x => x.1.isSome)
      && decide ((e :: es).length + ([] : List Keyword).length + (if ([] : List Keyword).isEmpty then 0 else 1) < 30)) = true := by rfl)
    (hline : (apos.endLine == cpos.line) = true := by rfl) (hs : starEach (e :: es) X.env = (false, eval e X.env) :: starEach es X.env := by rfl) (hplain : (backTo cpos (starEach es X.env)).any (·.1) = false := by rfl) :
    EV X E (.Call (.Attribute a name apos) (e :: es) [] cpos) (eMeth ok o f ga) := PE.imp (pe_bmS pa slot hty hm ho ha hbase hfew hline hs hplain) fun σ _ _ h => meth_use ht (hr σ) h
def oStr1 (k : Str → Str → Option Dt) (x : Wv) (ws : List Wv) : M Wv := match x, ws with
  | .dat (.str a), [.dat (.str b)] => M.opt ((k a b).map .dat)
  | _, _ => M.bad
theorem mo_str1 {K : Frag} {mg : MG} {E : XK} {r : V → List V → Hp → VK → Prop} {k : Str → Str → Option Dt} (hr : ∀ a b z, k a b = some z → ∃ v, (∀ K Hs, RepD K Hs v z) ∧ ∀ H (Q : VK), Q v H → r (.str a) [.str b] H Q) : MethO K mg E r (oStr1 k) := fun ω H cs v x vs ws ok rx rs Q h => by
  unfold oStr1 at h
  split at h
  · rename_i a b
    obtain ⟨z, e, h1⟩ := Out.map_some h
    cases (show RepD K ω.Hs v (.str a) from rx)
    obtain ⟨u, rfl, r1⟩ := rs.one
    cases r1
    obtain ⟨v, r2, h2⟩ := hr a b z e
    exact h2 H Q (h1.now ok v (r2 _ _))
  · exact (show False from h).elim
def kCount (a b : Str) : Option Dt := some (.int (Txt.count a b))
def kIndex (a b : Str) : Option Dt := (Txt.index0 a b).map fun k => .int (k : Nat)
def W0 : WX := fun _ _ _ _ => False
theorem takes0 : Takes X W0 := fun u s' x => by
  obtain ⟨a, B, sI, pins, σ', H', cls, d, e, I, nb, up, sky, na, os, ag, w⟩ := x
  exact w.elim
theorem ev_count (ho : EV X E a f) (ha : EVA X E [e] ga) (hbase : attributeBase a "count" X.env (eval a X.env) = eval a X.env := by rfl)
    (hfew : ((backTo cpos (starEach [e] X.env)).all (fun x => !x.1) && (backToKw cpos (keywordEach [] X.env)).all (fun x => x.1.isSome) && decide (([e] : List Expr).length + ([] : List Keyword).length + (if ([] : List Keyword).isEmpty then 0 else 1) < 30)) = true := by rfl)
    (hline : (apos.endLine == cpos.line) = true := by rfl) (hs : starEach [e] X.env = (false, eval e X.env) :: starEach [] X.env := by rfl) :
    EV X E (.Call (.Attribute a "count" apos) [e] [] cpos) (eMeth okStr (oStr1 kCount) f ga) :=
  ev_bm PySem.F.plainAttrs_str PySem.F.slot_str_count PySem.F.type_str_count mt_count ty_str (mo_str1 fun a b z e => by cases e; exact ⟨_, fun _ _ => .int _, fun H Q q => ⟨a, b, rfl, rfl, q⟩⟩) ho ha hbase hfew hline hs rfl
theorem ev_index (hc : X.calm = true) (ho : EV X E a f) (ha : EVA X E [e] ga) (hbase : attributeBase a "index" X.env (eval a X.env) = eval a X.env := by rfl)
    (hfew : ((backTo cpos (starEach [e] X.env)).all (fun x => !x.1) && (backToKw cpos (keywordEach [] X.env)).all (fun x => x.1.isSome) && decide (([e] : List Expr).length + ([] : List Keyword).length + (if ([] : List Keyword).isEmpty then 0 else 1) < 30)) = true := by rfl)
    (hline : (apos.endLine == cpos.line) = true := by rfl) (hs : starEach [e] X.env = (false, eval e X.env) :: starEach [] X.env := by rfl) :
    EV X E (.Call (.Attribute a "index" apos) [e] [] cpos) (eMeth okStr (oStr1 kIndex) f ga) :=
  ev_bmS PySem.F.plainAttrs_str PySem.F.slot_str_index PySem.F.type_str_index (mt_indexX hc takes0) ty_str (fun σ => mo_str1 fun a b z e => by
    unfold kIndex at e
    cases h : Txt.index0 a b with
    | none => rw [h] at e; cases e
    | some k =>
      rw [h] at e
      cases e
      exact ⟨_, fun _ _ => .int _, fun H Q q => ⟨a, b, rfl, rfl, fun j ej => by rw [h] at ej; cases ej; exact q, fun ej => by rw [h] at ej; cases ej⟩⟩) ho ha hbase hfew hline hs rfl
def strsOf : List Dt → Option (List Str)
  | [] => some []
  | .str s :: l => (strsOf l).map (s :: ·)
  | _ => none
theorem RepL.strs {K : Frag} {H : Hp} : ∀ {vs : List V} {ds : List Dt} {ys : List Str}, RepL K H vs ds → strsOf ds = some ys → vs = ys.map V.str
  | _, [], _, h, e => by cases h; cases e; rfl
  | _, d :: ds, _, h, e => by
    cases h with
    | cons h1 h2 =>
      cases d with
      | str s =>
        have e : (strsOf ds).map (s :: ·) = some _ := e
        cases q : strsOf ds with
        | none => rw [q] at e; cases e
        | some zs =>
          rw [q] at e
          cases e
          cases h1
          rw [RepL.strs h2 q]
          rfl
      | _ => cases e
def kJoin (a : Str) (ds : List Dt) : Option Dt := (strsOf ds).bind fun ys => if decide ((ys.map (·.length)).sum + ys.length * a.length ≤ 16777216) = true then some (.str (Txt.join a ys)) else none
def oJoin (x : Wv) (ws : List Wv) : M Wv := match x, ws with
  | .dat (.str a), [.dat (.lst ds)] => M.opt ((kJoin a ds).map .dat)
  | .dat (.str a), [.dat (.tup ds)] => M.opt ((kJoin a ds).map .dat)
  | _, _ => M.bad
theorem kJoin_of {a : Str} {ds : List Dt} {z : Dt} (h : kJoin a ds = some z) : ∃ ys, strsOf ds = some ys ∧ (ys.map (·.length)).sum + ys.length * a.length ≤ 16777216 ∧ z = .str (Txt.join a ys) := by
  unfold kJoin at h
  cases q : strsOf ds with
  | none => rw [q] at h; cases h
  | some ys =>
    rw [q] at h
    have h : (if decide ((ys.map (·.length)).sum + ys.length * a.length ≤ 16777216) = true then some (Dt.str (Txt.join a ys)) else none) = some z := h
    split at h
    · rename_i hh
      exact ⟨ys, rfl, of_decide_eq_true hh, (Option.some.inj h).symm⟩
    · cases h
theorem mo_join : MethO X.K X.mg E (fun x xs H Q => ∃ a p, ∃ ys : List Str, x = .str a ∧ xs = [.ref p] ∧ (SqL X.K H p (ys.map V.str) ∨ SqT X.K H p (ys.map V.str)) ∧
    (ys.map (·.length)).sum + ys.length * a.length ≤ 16777216 ∧ Q (.str (Txt.join a ys)) H) oJoin := fun ω H cs v x vs ws ok rx rs Q h => by
  unfold oJoin at h
  split at h
  · rename_i a ds
    obtain ⟨z, e, h1⟩ := Out.map_some h
    obtain ⟨ys, e1, e2, rfl⟩ := kJoin_of e
    cases (show RepD X.K ω.Hs v (.str a) from rx)
    obtain ⟨u, rfl, r1⟩ := rs.one
    cases r1 with
    | lst h2 h3 => exact ⟨a, _, ys, rfl, rfl, .inl (by rw [← h3.strs e1]; exact SqL.of (ok.ex _ _ h2)), e2, h1.now ok _ (RepD.str _)⟩
  · rename_i a ds
    obtain ⟨z, e, h1⟩ := Out.map_some h
    obtain ⟨ys, e1, e2, rfl⟩ := kJoin_of e
    cases (show RepD X.K ω.Hs v (.str a) from rx)
    obtain ⟨u, rfl, r1⟩ := rs.one
    cases r1 with
    | tup h2 h3 => exact ⟨a, _, ys, rfl, rfl, .inr (by rw [← h3.strs e1]; exact (ex_t ok.ex h2).sq), e2, h1.now ok _ (RepD.str _)⟩
  · exact (show False from h).elim
theorem ev_join (ho : EV X E a f) (ha : EVA X E [e] ga) (hbase : attributeBase a "join" X.env (eval a X.env) = eval a X.env := by rfl)
    (hfew : ((backTo cpos (starEach [e] X.env)).all (fun x => !x.1) && (backToKw cpos (keywordEach [] X.env)).all (fun x => x.1.isSome) && decide (([e] : List Expr).length + ([] : List Keyword).length + (if ([] : List Keyword).isEmpty then 0 else 1) < 30)) = true := by rfl)
    (hline : (apos.endLine == cpos.line) = true := by rfl) (hs : starEach [e] X.env = (false, eval e X.env) :: starEach [] X.env := by rfl) :
    EV X E (.Call (.Attribute a "join" apos) [e] [] cpos) (eMeth okStr oJoin f ga) :=
  ev_bm PySem.F.plainAttrs_str PySem.F.slot_str_join PySem.F.type_str_join mt_join ty_str mo_join ho ha hbase hfew hline hs rfl
def oAppend (x : Wv) (ws : List Wv) : M Wv := fun cs => match x, ws with
  | .cel k, [w] => match cs[k]? with
    | some (.lst l) => if decide (l.length < 16777216) = true then .ok (.dat .non) (cs.set k (.lst (l ++ [w]))) else .bad
    | _ => .bad
  | _, _ => .bad
theorem RepWs.one' {K : Frag} {ω : Wo} {vs : List V} {w : Wv} (h : RepWs K ω vs [w]) : ∃ v, vs = [v] ∧ RepW K ω v w := by
  cases h with
  | cons h1 h2 => cases h2; exact ⟨_, rfl, h1⟩
theorem Out.okk {K : Frag} {mg : MG} {E : XK} {α : Type} {ω : Wo} {F : α → Wo → List Cell → Hp → Prop} {a : α} {cs : List Cell} {H : Hp} (h : Out K mg E ω (.ok a cs) F) (k : Ok K ω H cs) : F a ω cs H := h ω H (Le.refl ω) k
theorem mo_append : MethO X.K X.mg E rAppend oAppend := fun ω H cs v x vs ws ok rx rs Q h => by
  unfold oAppend at h
  split at h
  · rename_i x ws i w
    cases hc : cs[i]? with
    | none => rw [hc] at h; exact (show False from h).elim
    | some c =>
      rw [hc] at h
      obtain ⟨a, e1, rfl⟩ := rx
      have q := ok.cell e1 hc
      cases c with
      | lst l =>
        have h : Out X.K X.mg E ω (if decide (l.length < 16777216) = true then R.ok (Wv.dat Dt.non) (cs.set i (Cell.lst (l ++ [w]))) else R.bad) _ := h
        split at h
        · rename_i hl
          have hl := of_decide_eq_true hl
          obtain ⟨hn, xs, h1, h2⟩ := q
          obtain ⟨u, rfl, r1⟩ := rs.one'
          have r3 : RepWs X.K ω (xs ++ [u]) (l ++ [w]) := h2.app (.cons r1 .nil)
          exact ⟨a, xs, u, rfl, rfl, h1, by rw [sizeLine_eq, h2.len]; exact hl, h.okk (ok.setCell e1 hn h1 lst_plain ⟨hn, _, upd_same, r3⟩) _ (.non)⟩
        · exact (show False from h).elim
      | dic l => exact (show False from h).elim
      | ins C l => exact (show False from h).elim
      | dead => exact (show False from h).elim
      | lck l => exact (show False from h).elim
      | dit b l => exact (show False from h).elim
  · exact (show False from h).elim
def oPopAt (x : Wv) (ws : List Wv) : M Wv := fun cs => match x, ws with
  | .cel k, [.dat (.int i)] => match cs[k]? with
    | some (.lst l) => if (decide (-9223372036854775808 ≤ i) && decide (i < 9223372036854775808)) = true then match seqIndex? i l.length with
      | some j => match l[j]? with
        | some w => .ok w (cs.set k (.lst (l.eraseIdx j)))
        | none => .bad
      | none => .bad
      else .bad
    | _ => .bad
  | _, _ => .bad
theorem RepWs.erase {K : Frag} {ω : Wo} {vs : List V} {ws : List Wv} (r : RepWs K ω vs ws) : ∀ j : Nat, RepWs K ω (vs.eraseIdx j) (ws.eraseIdx j) := by
  induction r with
  | nil => intro j; exact .nil
  | cons h1 h2 ih =>
    intro j
    cases j with
    | zero => exact h2
    | succ j => exact .cons h1 (ih j)
theorem mo_popAt : MethO X.K X.mg E rPopAt oPopAt := fun ω H cs v x vs ws ok rx rs Q h => by
  unfold oPopAt at h
  split at h
  · rename_i x ws i z
    cases hc : cs[i]? with
    | none => rw [hc] at h; exact (show False from h).elim
    | some c =>
      rw [hc] at h
      obtain ⟨a, e1, rfl⟩ := rx
      have q := ok.cell e1 hc
      cases c with
      | lst l =>
        dsimp only at h
        split at h
        · rename_i hz
          simp only [Bool.and_eq_true] at hz
          obtain ⟨hn, xs, h1, h2⟩ := q
          obtain ⟨u, rfl, r1⟩ := rs.one
          cases r1
          cases hj : seqIndex? z l.length with
          | none => rw [hj] at h; exact (show False from h).elim
          | some j =>
            rw [hj] at h
            dsimp only at h
            cases hw : l[j]? with
            | none => rw [hw] at h; exact (show False from h).elim
            | some w =>
              rw [hw] at h
              obtain ⟨y, hy, r2⟩ := h2.at hw
              refine ⟨a, xs, z, j, y, rfl, rfl, h1, of_decide_eq_true hz.1, of_decide_eq_true hz.2, by rw [h2.len]; exact hj, hy, ?_⟩
              exact h.okk (ok.setCell e1 hn h1 lst_plain ⟨hn, _, upd_same, h2.erase j⟩) _ r2
        · exact (show False from h).elim
      | dic l => exact (show False from h).elim
      | ins C l => exact (show False from h).elim
      | dead => exact (show False from h).elim
      | lck l => exact (show False from h).elim
      | dit b l => exact (show False from h).elim
  · exact (show False from h).elim
theorem ev_append (ho : EV X E a f) (ha : EVA X E [e] ga) (hbase : attributeBase a "append" X.env (eval a X.env) = eval a X.env := by rfl)
    (hfew : ((backTo cpos (starEach [e] X.env)).all (fun x => !x.1) && (backToKw cpos (keywordEach [] X.env)).all (fun x => x.1.isSome) && decide (([e] : List Expr).length + ([] : List Keyword).length + (if ([] : List Keyword).isEmpty then 0 else 1) < 30)) = true := by rfl)
    (hline : (apos.endLine == cpos.line) = true := by rfl) (hs : starEach [e] X.env = (false, eval e X.env) :: starEach [] X.env := by rfl) :
    EV X E (.Call (.Attribute a "append" apos) [e] [] cpos) (eMeth okLst oAppend f ga) :=
  ev_bm PySem.F.plainAttrs_list PySem.F.slot_list_append PySem.F.type_list_append mt_append ty_lst mo_append ho ha hbase hfew hline hs rfl
theorem ev_popAt (ho : EV X E a f) (ha : EVA X E [e] ga) (hbase : attributeBase a "pop" X.env (eval a X.env) = eval a X.env := by rfl)
    (hfew : ((backTo cpos (starEach [e] X.env)).all (fun x => !x.1) && (backToKw cpos (keywordEach [] X.env)).all (fun x => x.1.isSome) && decide (([e] : List Expr).length + ([] : List Keyword).length + (if ([] : List Keyword).isEmpty then 0 else 1) < 30)) = true := by rfl)
    (hline : (apos.endLine == cpos.line) = true := by rfl) (hs : starEach [e] X.env = (false, eval e X.env) :: starEach [] X.env := by rfl) :
    EV X E (.Call (.Attribute a "pop" apos) [e] [] cpos) (eMeth okLst oPopAt f ga) :=
  ev_bm PySem.F.plainAttrs_list PySem.F.slot_list_pop PySem.F.type_list_pop mt_popAt ty_lst mo_popAt ho ha hbase hfew hline hs rfl
def putW {α : Type} (l : List (Key × α)) (k : Key) (w : α) : List (Key × α) := if (l.any fun p => decide (p.1 = k)) = true then l.map (fun p => if p.1 = k then (p.1, w) else p) else l ++ [(k, w)]
theorem RepWk.any {K : Frag} {ω : Wo} {vs : List (Key × V)} {ws : List (Key × Wv)} (r : RepWk K ω vs ws) (k : Key) : (vs.any fun p => decide (p.1 = k)) = ws.any fun p => decide (p.1 = k) := by
  induction r with
  | nil => rfl
  | cons _ _ ih => simp only [List.any_cons, ih]
theorem RepWk.map {K : Frag} {ω : Wo} {k : Key} {v : V} {w : Wv} {vs : List (Key × V)} {ws : List (Key × Wv)} (r : RepWk K ω vs ws) (h : RepW K ω v w) : RepWk K ω (vs.map fun p => if p.1 = k then (p.1, v) else p) (ws.map fun p => if p.1 = k then (p.1, w) else p) := by
  induction r with
  | nil => exact .nil
  | @cons k' v' vs' w' ws' h1 _ ih =>
    simp only [List.map_cons]
    by_cases e : k' = k
    · simp only [e, if_true]
      exact .cons h ih
    · simp only [e, if_false]
      exact .cons h1 ih
theorem RepWk.app {K : Frag} {ω : Wo} {vs us : List (Key × V)} {ws zs : List (Key × Wv)} (r : RepWk K ω vs ws) (q : RepWk K ω us zs) : RepWk K ω (vs ++ us) (ws ++ zs) := by
  induction r with
  | nil => exact q
  | cons h1 _ ih => exact .cons h1 ih
theorem RepWk.put {K : Frag} {ω : Wo} {k : Key} {v : V} {w : Wv} {vs : List (Key × V)} {ws : List (Key × Wv)} (r : RepWk K ω vs ws) (h : RepW K ω v w) : RepWk K ω (putK vs k v) (putW ws k w) := by
  unfold putK putW
  rw [r.any k]
  split
  · exact r.map h
  · exact r.app (.cons h .nil)
def mPut (x y w : Wv) : M Unit := fun cs => match x, y with
  | .cel k, .dat y => match cs[k]?, keyOf y with
    | some (.dic l), some key => if decide (l.length < 16777216) = true then .ok () (cs.set k (.dic (putW l key w))) else .bad
    | _, _ => .bad
  | _, _ => .bad
def sPut (fo fi fv : Ev) : Sv := fun env => M.bind (fv env) fun w => M.bind (fo env) fun x => M.bind (fi env) fun y => M.bind (mPut x y w) fun _ => M.ret (.nx env)
theorem sv_put {o i value : Expr} {fo fi fv : Ev} {pos' : Pos} (hu : X.A.units + 1 < cLine) (ho : EV X E o fo) (hi : EV X E i fi) (hv : EV X E value fv) (hs : swapsWith value (some (.Subscript o i pos')) pos.line X.env = pure false := by rfl) :
    SV X E (.Assign [.Subscript o i pos'] value pos) (sPut fo fi fv) := PS.imp (ps_dput hu ho hi hv hs) fun D σ H ⟨env, cs, ω, hst, hk, h⟩ =>
  ⟨env, cs, ω, hst, hk, h.bind.imp fun w ω1 cs1 H1 l1 k1 h1 v rv => ⟨env, cs1, ω1, hst.mono l1, k1, h1.bind.imp fun x ω2 cs2 H2 l2 k2 h2 u ru => ⟨env, cs2, ω2, hst.mono (l1.trans l2), k2, h2.bind.imp fun y ω3 cs3 H3 l3 k3 h3 t rt => by
    have h4 := h3.bind
    unfold mPut at h4
    split at h4
    · rename_i x y j d
      split at h4
      · rename_i l key hc hkey
        split at h4
        · rename_i hl
          have hl := of_decide_eq_true hl
          obtain ⟨a, e1, rfl⟩ := (ru.mono l3)
          obtain ⟨hn, xs, q1, q2⟩ := k3.cell e1 hc
          have et := keyOf_rep rt hkey
          subst et
          have rv3 : RepW X.K ω3 v w := rv.mono (l2.trans l3)
          have z := h4.okk (k3.setCell e1 hn q1 dK_plain ⟨hn, _, upd_same, q2.put (k := key) rv3⟩)
          exact ⟨a, _, rfl, DPut.k q1 (by rw [sizeLine_eq, q2.len]; exact hl), (z.now (k3.setCell e1 hn q1 dK_plain ⟨hn, _, upd_same, q2.put (k := key) rv3⟩)) σ (hst.mono ((l1.trans l2).trans l3))⟩
        · exact (show False from h4).elim
      · exact (show False from h4).elim
    · exact (show False from h4).elim⟩⟩⟩
end
end DX
namespace DX
open PySem PySem.Spec PyProof.Rows L2
variable [TabT]
section
variable {X : Cx} {E : XK} {e : Expr} {pos : Pos} {f : Ev}
def EVP (X : Cx) (E : XK) (pos : Pos) (ks : List (Option Expr)) (vs : List Expr) (l : List (Key × Ev)) : Prop := PPs X pos ks vs (l.map fun q => ((fun _ H Q => Q (kV q.1) H : TE), tEv X.K X.mg E q.2))
theorem ep_nil : EVP X E pos [] [] [] := pps_nil
theorem ep_str {ks : List (Option Expr)} {vs : List Expr} {l : List (Key × Ev)} {s : Str} {j : Nat} {p : Pos} (h : EV X E e f) (r : EVP X E pos ks vs l) : EVP X E pos (some (.Constant (.str s) j p) :: ks) (e :: vs) ((.inr s, f) :: l) := pps_cons pe_str h r
theorem ep_int {ks : List (Option Expr)} {vs : List Expr} {l : List (Key × Ev)} {s : Int} {j : Nat} {p : Pos} (h : EV X E e f) (r : EVP X E pos ks vs l) : EVP X E pos (some (.Constant (.int s) j p) :: ks) (e :: vs) ((.inl s, f) :: l) := pps_cons pe_int h r
def mVals : List (Key × Ev) → En → M (List (Key × Wv))
  | [], _ => M.ret []
  | (k, f) :: l, env => M.bind (f env) fun w => M.bind (mVals l env) fun r => M.ret ((k, w) :: r)
theorem pairs_use {K : Frag} {mg : MG} {σ : L2.St} {env : En} : ∀ (l : List (Key × Ev)) {ω : Wo} {H : Hp} {cs : List Cell} {G : List (Key × Wv) → Wo → List Cell → Hp → Prop} {R : List (V × V) → Hp → Prop}, StRep K ω σ env → Ok K ω H cs → Out K mg E ω (mVals l env cs) G →
    (∀ kws ω' cs' H', Le ω ω' → Ok K ω' H' cs' → kws.map (·.1) = l.map (·.1) → G kws ω' cs' H' → ∀ vs, RepWk K ω' vs kws → R (vs.map fun q => (kV q.1, q.2)) H') → tPairs (l.map fun q => ((fun _ H Q => Q (kV q.1) H : TE), tEv K mg E q.2)) σ H R
  | [], ω, H, cs, G, R, hs, hk, h, hr => hr [] ω cs H (Le.refl _) hk rfl (h.now hk) [] .nil
  | (k, f) :: l, ω, H, cs, G, R, hs, hk, h, hr => by
    refine ⟨env, cs, ω, hs, hk, (Out.bind h).imp fun w ω1 cs1 H1 l1 k1 h1 v rv => ?_⟩
    refine pairs_use l (hs.mono l1) k1 (Out.bind h1) fun kws ω2 cs2 H2 l2 k2 hk2 h2 vs rvs => ?_
    exact hr ((k, w) :: kws) ω2 cs2 H2 (l1.trans l2) k2 (by simp [hk2]) (h2.now k2) ((k, v) :: vs) (.cons (rv.mono l2) rvs)
theorem putK_newk {vs : List (Key × V)} {k : Key} {v : V} (h : k ∉ vs.map (·.1)) : putK vs k v = vs ++ [(k, v)] := by
  unfold putK
  have e : (vs.any fun q => decide (q.1 = k)) = false := by
    rw [List.any_eq_false]
    intro q hq
    simp only [decide_eq_true_eq]
    exact fun z => h (List.mem_map.mpr ⟨q, hq, z⟩)
  rw [e]
  rfl
theorem merge_nodup : ∀ (vs acc : List (Key × V)), ((acc ++ vs).map (·.1)).Nodup → mergeK acc vs = acc ++ vs
  | [], acc, _ => by simp [mergeK]
  | (k, v) :: vs, acc, h => by
    have nk : k ∉ acc.map (·.1) := fun z => by
      rw [List.map_append, List.nodup_append] at h
      exact h.2.2 k z k (by simp) rfl
    show mergeK (putK acc k v) vs = _
    rw [putK_newk nk, merge_nodup vs (acc ++ [(k, v)]) (by simpa using h)]
    simp
def keysOk (l : List (Key × Ev)) : Bool := decide ((l.map (·.1)).Nodup)
theorem RepWk.keys {K : Frag} {ω : Wo} {vs : List (Key × V)} {ws : List (Key × Wv)} (r : RepWk K ω vs ws) : vs.map (·.1) = ws.map (·.1) := by
  induction r with
  | nil => rfl
  | cons _ _ ih => simp [ih]
abbrev EvK := En → M (List (Key × Wv))
/-- a new dict -/
def tEvK (K : Frag) (mg : MG) (E : XK) (f : EvK) : TE := fun σ H Q => ∃ env cs ω, StRep K ω σ env ∧ Ok K ω H cs ∧ Out K mg E ω (f env cs) fun ws ω' _ H' => ∀ p vs, H' p = none → RepWk K ω' vs ws → Q (.ref p) (upd H' p (.dK vs))
theorem hide_upd {H : Hp} {p : Addr} {o : HO} : upd (hide H p) p o = upd H p o := by
  funext b
  by_cases hb : b = p
  · rw [hb, upd_same, upd_same]
  · rw [upd_ne hb, upd_ne hb, hide_ne hb]
theorem Out.underH {K : Frag} {mg : MG} {ω ω2 : Wo} {fr0 : Hp} {α : Type} {r : R α} {F : α → Wo → List Cell → Hp → Prop} (h : Out K mg E ω r F) (l : Le ω (ω2.back fr0)) (sub : ∀ a o, fr0 a = some o → ω2.fr a = some o) : Out K mg E ω2 r (fun a ω' cs' H' => ∀ H'', Ok K (ω'.back fr0) H'' cs' → F a (ω'.back fr0) cs' H'') := by
  have le : ∀ {ω'}, Le ω2 ω' → Le ω (ω'.back fr0) := fun {ω'} l2 => ⟨l.ex.trans l2.ex, l.ad.trans l2.ad, l2.tb.trans l.tb, l.fr⟩
  cases r with
  | ok a cs => exact fun ω' H' l2 k2 H'' k'' => h _ H'' (le l2) k''
  | exc x cs => exact fun C ω' H' m l2 k2 => h C (ω'.back fr0) H' m (le l2) (k2.back fun a o e => by rw [l2.fr]; exact sub a o e)
  | bad => exact h
theorem ek_dict {ks : List (Option Expr)} {vs : List Expr} {l : List (Key × Ev)} (h : EVP X E pos ks vs l) (hall : ks.all (·.isSome) = true) (hl : ks.length = vs.length) (h0 : ks ≠ []) (h15 : ks.length ≤ 15) (hl15 : l.length ≤ 15) (hn : keysOk l = true) : PE X (.Dict ks vs pos) (tEvK X.K X.mg E (mVals l)) :=
  PE.imp (pe_disp h hall hl h0 h15) fun σ H Q ⟨env, cs, ω, hs, hk, h⟩ p hp => by
    have hkp := hk.keep (o := .dK []) hp
    have fp : ω.fr p = none := hk.frx.back hp
    refine pairs_use l (hs.fr _ : StRep X.K (ω.keep p (.dK [])) σ env) hkp (Out.underH (ω := ω) (ω2 := ω.keep p (.dK [])) (fr0 := ω.fr) h (Le.refl _) fun a o e => by show upd _ _ _ a = _; rw [upd_ne (ne_of_none e fp)]; exact e) fun kws ω3 cs3 H3 l3 k3 hkk h3 vs rv => ?_
    have e3 : ω3.fr = upd ω.fr p (.dK []) := l3.fr
    have hfp : ω3.fr p = some (.dK []) := by rw [e3, upd_same]
    have hH : H3 p = some (.dK []) := k3.frx p _ hfp
    have kd := k3.drop hfp e3 fp
    have nd : (vs.map (·.1)).Nodup := by
      rw [rv.keys, hkk]
      exact of_decide_eq_true hn
    refine ⟨hH, vs, rfl, ?_, ?_⟩
    · have := rv.len
      have h2 := congrArg List.length hkk
      simp only [List.length_map] at h2
      omega
    · rw [merge_nodup vs [] (by simpa using nd)]
      have z := h3 (hide H3 p) kd p vs hide_same (rv.fr ω.fr)
      rw [hide_upd] at z
      simpa using z
def datK : List (Key × Wv) → Option (List (Key × Dt))
  | [] => some []
  | (k, .dat d) :: l => (datK l).map ((k, d) :: ·)
  | (_, .cel _) :: _ => none
theorem RepWk.datK {K : Frag} {ω : Wo} : ∀ {vs : List (Key × V)} {ws : List (Key × Wv)} {ds : List (Key × Dt)}, RepWk K ω vs ws → datK ws = some ds → RepK K ω.Hs vs ds
  | _, [], _, h, e => by cases h; cases e; exact .nil
  | _, (k, .dat d) :: ws, _, h, e => by
    cases h with
    | cons h1 h2 =>
      have e : (DX.datK ws).map ((k, d) :: ·) = some _ := e
      cases q : DX.datK ws with
      | none => rw [q] at e; cases e
      | some es =>
        rw [q] at e
        cases e
        exact .cons h1 (h2.datK q)
  | _, (k, .cel _) :: ws, _, h, e => by cases e
def eDicC (l : List (Key × Ev)) : Ev := fun env => M.bind (mVals l env) fun ws => mCell (.dic ws)
def eDic (l : List (Key × Ev)) : Ev := fun env => M.bind (mVals l env) fun ws => M.bind (M.opt (datK ws)) fun ds => M.ret (.dat (.dic ds))
theorem ev_dicC {ks : List (Option Expr)} {vs : List Expr} {l : List (Key × Ev)} (h : EVP X E pos ks vs l) (hall : ks.all (·.isSome) = true := by rfl) (hl : ks.length = vs.length := by rfl) (h0 : ks ≠ [] := by exact List.cons_ne_nil _ _) (h15 : ks.length ≤ 15 := by decide) (hl15 : l.length ≤ 15 := by exact of_decide_eq_true rfl) (hn : keysOk l = true := by decide +kernel) :
    EV X E (.Dict ks vs pos) (eDicC l) := PE.imp (ek_dict h hall hl h0 h15 hl15 hn) fun σ H Q ⟨env, cs, ω, hs, hk, h⟩ => ⟨env, cs, ω, hs, hk, h.bind.imp fun ws ω1 cs1 H1 l1 k1 h1 p vs hp rv => by
      have h1 : Out X.K X.mg E ω1 (.ok (Wv.cel cs1.length) (cs1 ++ [Cell.dic ws])) _ := h1
      have hc : CellAt X.K (ω1.more p) (upd H1 p (.dK vs)) p (.dic ws) := ⟨⟨k1.ex.back hp, k1.frx.back hp⟩, vs, upd_same, rv.mono Le.more⟩
      refine h1 _ _ Le.more (k1.more hp hc) _ ⟨p, ?_, rfl⟩
      show (ω1.ad ++ [p])[cs1.length]? = some p
      rw [k1.len, List.getElem?_append_right (Nat.le_refl _)]
      simp⟩
theorem RepK.mono' {K : Frag} {H H' : Hp} (e : Ex H H') {ds : List (Key × Dt)} {vs : List (Key × V)} (h : RepK K H vs ds) : RepK K H' vs ds := RepK.mono e ds vs h
theorem ev_dic {ks : List (Option Expr)} {vs : List Expr} {l : List (Key × Ev)} (h : EVP X E pos ks vs l) (hall : ks.all (·.isSome) = true := by rfl) (hl : ks.length = vs.length := by rfl) (h0 : ks ≠ [] := by exact List.cons_ne_nil _ _) (h15 : ks.length ≤ 15 := by decide) (hl15 : l.length ≤ 15 := by exact of_decide_eq_true rfl) (hn : keysOk l = true := by decide +kernel) :
    EV X E (.Dict ks vs pos) (eDic l) := PE.imp (ek_dict h hall hl h0 h15 hl15 hn) fun σ H Q ⟨env, cs, ω, hs, hk, h⟩ => ⟨env, cs, ω, hs, hk, h.bind.imp fun ws ω1 cs1 H1 l1 k1 h1 p vs hp rv => by
      obtain ⟨ds, e, h2⟩ := Out.opt h1.bind
      exact (h2.now k1) _ _ (Le.froze k1 hp) (k1.froze hp) _ (.dic upd_same ((rv.datK e).mono' (Le.froze (o := HO.dK vs) k1 hp).ex))⟩
theorem ev_dic0 : EV X E (.Dict [] [] pos) (fun _ => M.ret (.dat (.dic []))) := PE.imp pe_dnewK fun σ H Q ⟨env, cs, ω, hs, hk, h⟩ p hp => h _ _ (Le.froze hk hp) (hk.froze hp) _ (.dic upd_same .nil)
end
theorem Ok.extN {K : Frag} {ω : Wo} {H H1 : Hp} {cs : List Cell} (k : Ok K ω H cs) (e : LamX.ExtN H H1) (t : LamX.Tabs TabT.T H1) : Ok K ω H1 cs := by
  have nt : ∀ {o : HO}, NoTbl o → ∀ ps, o ≠ .tbl ps := fun {o} h ps z => by rw [z] at h; exact h
  refine ⟨fun a o h => e a o (k.ex a o h) (nt (k.nt a o h)), k.len, k.nd, fun i a c e1 e2 => ?_, t, fun a o h => e a o (k.frx a o h) (nt (k.nf a o h).nt), k.dj, k.nt, k.nf, fun a oo vs h => e a _ (k.lk a oo vs h) (fun ps z => nomatch z)⟩
  have q := k.cel i a c e1 e2
  cases c with
  | lst ws => obtain ⟨h0, vs, h1, h2⟩ := q; exact ⟨h0, vs, e a _ h1 (fun ps z => nomatch z), h2⟩
  | dic ws => obtain ⟨h0, vs, h1, h2⟩ := q; exact ⟨h0, vs, e a _ h1 (fun ps z => nomatch z), h2⟩
  | ins C ws => obtain ⟨h0, dx, vs, h1, h2⟩ := q; exact ⟨h0, dx, vs, e a _ h1 (fun ps z => nomatch z), h2⟩
  | dead => exact q
  | lck ws => obtain ⟨h0, oo, vs, ht, h1, h2⟩ := q; exact ⟨h0, oo, vs, ht, e a _ h1 (fun ps z => nomatch z), h2⟩
  | dit b ws =>
    obtain ⟨h0, vs, h1, h2⟩ := q
    refine ⟨h0, vs, ?_, h2⟩
    rcases h1 with ⟨z, h1⟩ | ⟨z, o, ht, h1⟩
    · exact .inl ⟨z, e a _ h1 (fun ps z => nomatch z)⟩
    · exact .inr ⟨z, o, ht, e a _ h1 (fun ps z => nomatch z)⟩
def mCaught (L : List (Str × Addr)) (m : M Wv) : M Wv := fun cs => match m cs with
  | .ok _ cs' => .ok (.dat .non) cs'
  | .exc x cs' => match L.lookup x.nm with
    | some C => .ok (.dat (.exn C x.fs)) cs'
    | none => .bad
  | .bad => .bad
def eCaught (L : List (Str × Addr)) (f : Ev) : Ev := fun env => mCaught L (f env)
/-- what the def that catches makes of the lambda's reading -/
def tCaught (K : Frag) (cT : Value) : (XK → Hp → VK → Prop) → Hp → VK → Prop := fun tl H Q =>
  tl (fun cls d H' => ∃ C, cls = .ref C ∧ PySem.W.exmOne K cls cT = some true ∧ ∀ a, H' a = none → Q (.ref a) (upd H' a (ExT C d a))) H fun _ H' => Q .non H'
theorem caught_use {K : Frag} {mg : MG} {E : XK} {L : List (Str × Addr)} {f : Ev} {cT : Value} (hL : ∀ x C, L.lookup x = some C → mg x = some (.ref C) ∧ PySem.W.exmOne K (.ref C) cT = some true) {σ : L2.St} {H : Hp} {Q : VK} (hh : tEv K mg E (eCaught L f) σ H Q) :
    LamX.tLam TabT.T (tCaught K cT) (fun E => tEv K mg E f) σ H Q := by
  obtain ⟨env, cs, ω, hs, hk, h⟩ := hh
  refine ⟨hk.tab, fun H1 eN t1 => ⟨env, cs, ω, hs, hk.extN eN t1, ?_⟩⟩
  have h : Out K mg E ω (mCaught L (f env) cs) _ := h
  unfold mCaught at h
  cases hf : f env cs with
  | ok w cs' =>
    rw [hf] at h
    exact fun ω' H' l k v _ => h ω' H' l k .non .non
  | exc x cs' =>
    rw [hf] at h
    dsimp only at h
    cases hl : L.lookup x.nm with
    | none => rw [hl] at h; exact (show False from h).elim
    | some C =>
      rw [hl] at h
      obtain ⟨m1, m2⟩ := hL x.nm C hl
      intro C' ω' H' m' l k
      rw [m1] at m'
      cases m'
      obtain ⟨nm, fs⟩ := x
      cases fs with
      | nil => exact ⟨C, rfl, m2, fun a ha => h (ω'.froze a (ExT C none a)) (upd H' a (ExT C none a)) (l.trans (Le.froze k ha)) (k.froze ha) _ (.exn upd_same (.inl ⟨rfl, rfl⟩) .nil)⟩
      | cons p fs =>
        intro dd xs hdd rf
        refine ⟨C, rfl, m2, fun a ha => ?_⟩
        have k1 := k.froze (o := .xd xs) hdd
        have l1 := Le.froze (o := HO.xd xs) k hdd
        have l2 := Le.froze (o := ExT C (some dd) a) k1 ha
        have ne : dd ≠ a := fun z => by rw [← z, upd_same] at ha; cases ha
        exact h _ _ ((l.trans l1).trans l2) (k1.froze ha) _ (.exn upd_same (.inr ⟨fun z => (by rw [z] at rf; cases rf), dd, rfl, (upd_ne ne).trans upd_same⟩) (RepF.mono (l1.trans l2).ex _ _ rf))
  | bad => rw [hf] at h; exact h
end DX
namespace DX
open PySem PySem.Spec PyProof.Rows L2
variable [TabT]
section
variable {X : Cx} {pins : List (Addr × Obj)} {σ : L2.St} {H : Hp} {s : Shared}
theorem extT_ok {P : Program} {w : World} {H : Hp} {h : Heap} {a C : Addr} {oe : Obj} {vs : Array Value} {dd : Option Addr} (e : h.get? a = some oe) (z : Zc (.ref C) dd oe) (d : oe.data = .fields vs) : ObjOk P w H h a (ExT C dd a) :=
  ⟨⟨oe, vs, e, z, d⟩, ⟨oe, e⟩, fun _ _ ⟨o, v, q, r⟩ k => ⟨o, v, k o q, r⟩⟩
/-- an exception that came after the entry is looked at from now on -/
theorem Inv.track {a C : Addr} {d : Option Addr} {oe : Obj} {vs : Array Value} (I : Inv X ((a, oe) :: pins) σ H s) (n0 : X.s_0.heap.get? a = none) (np : ∀ p ∈ X.pn ++ pins, p.1 ≠ a) (hz : Zc (.ref C) d oe) (hd : oe.data = .fields vs) : Inv X pins σ (upd H a (ExT C d a)) s := by
  obtain ⟨e, hn, nL, nF, nC⟩ := I.pin (a, oe) (List.mem_append.mpr (.inr List.mem_cons_self))
  have e : s.heap.get? a = some oe := e
  have hn : H a = none := hn
  have ne : ∀ {b u}, H b = some u → b ≠ a := fun {b u} q => ne_of_none q hn
  refine ⟨I.ok, I.os, I.bare, ⟨I.base.keep, I.base.slot, fun b o q n hx => ?_, I.base.there, fun b xs q => ?_, fun b o u q => ?_, fun b ps q => ?_⟩, I.loc, I.cell, ?_, fun x c q => ?_, fun p hp => ?_, I.hok.laidN (fun _ _ z => z) hn (extT_ok e hz hd), I.len⟩
  · have hb : b ≠ a := fun z => by rw [z, n0] at q; cases q
    rw [upd_ne hb]
    exact I.base.free b o q n hx
  · have z := I.base.tups b xs q
    rw [upd_ne (ne z)]
    exact z
  · have z := I.base.frzs b o u q
    rw [upd_ne (ne z)]
    exact z
  · obtain ⟨m, z⟩ := I.base.tbls b ps q
    exact ⟨m, by rw [upd_ne (ne z)]; exact z⟩
  · rw [upd_ne (Ne.symm nL)]
    exact I.free
  · have hc : c ≠ a := fun z => by
      obtain ⟨v, ob, ho, hv⟩ := I.cell x c q
      rw [z, e] at ho
      cases ho
      exact nC v hv
    rw [upd_ne hc]
    exact I.freeC x c q
  · have hp2 : p ∈ X.pn ++ ((a, oe) :: pins) := (List.mem_append.mp hp).elim (fun z => List.mem_append.mpr (.inl z)) fun z => List.mem_append.mpr (.inr (List.mem_cons_of_mem _ z))
    obtain ⟨q1, q2, q3⟩ := I.pin p hp2
    exact ⟨q1, by rw [upd_ne (np p hp)]; exact q2, q3⟩
/-- what the clause 'except x as n: y = n' wishes of an exception of the body: slot i is n's, slot j is y's -/
def wKeep (K : Frag) (c : Value) (i j : Nat) (Wout : WX) (D : Ends) : WX := fun cls d σ H =>
  ∃ b, PySem.W.exmOne K cls c = some b ∧ (b = true → ∃ C, cls = .ref C ∧ ∀ a, H a = none → D.nx (((σ.set i (some (.ref a))).set j (some (.ref a))).set i none) (upd H a (ExT C d a))) ∧ (b = false → Wout cls d σ H)
theorem ps_try_keep {x n y : Str} {c : Value} {i j : Nat} {body : List Stmt} {np pn2 py p2 pos pos' : Pos} {tb : WX → TS} {Wout : WX} (hs : X.stack = X.env :: X.outer) (hf : X.env.frame = some X.env.locals) (hex : X.ex = []) (hN : X.N.Nodup) (hi : X.N[i]? = some n) (hln : X.env.scope.names.lookup n = some .local)
    (hj : X.N[j]? = some y) (hyl : X.env.scope.names.lookup y = some .local) (hij : i < X.N.length) (hc : Names X x c) (tk : Takes X Wout) (hdn : (n == ("__debug__" : Str)) = false) (hdc : (n == ("__classdict__" : Str)) = false)
    (hb : ∀ (W : WX) (pn : List (Addr × Obj)) (xe : Value → Shared → Prop), Takes (X.tr pn xe) W → PassesOwn (model X.prog X.w) X.A X.env xe → PSs (X.tr pn xe) body (tb W)) :
    PS X (.Try body [.ExceptHandler (some (.Name x np)) (some n) [.Assign [.Name y py] (.Name n pn2) p2] pos'] [] [] pos) (fun D σ H => tb (wKeep X.K c i j Wout D) D σ H) := by
  refine ⟨fun pins s σ H D I h => ?_⟩
  have okX := I.ok
  have frX : X.A.frames = some (X.env :: X.outer) := by rw [okX.frames, hs]
  refine wpAny_Try_except ?_
  refine wpAny_mono ((hb (wKeep X.K c i j Wout D) (X.pn ++ pins) (fun e s₁ => wpAny (model X.prog X.w) X.A (noteFrame e X.env) (fun _ s₂ => wpAny (model X.prog X.w) X.A (setFlight e none) (fun _ s₃ => wpAny (model X.prog X.w) X.A (handleBy e X.env [.ExceptHandler (some (.Name x np)) (some n) [.Assign [.Name y py] (.Name n pn2) p2] pos'])
    (SP X pins D) X.xe s₃) X.xe s₂) X.xe s₁) (fun u s' xx => ?_) PassesOwn.looking).run [] s σ H D (I.toTry _) h) (fun f s1 hsp => ?_) (fun e s1 he => he)
  · obtain ⟨a, B, sJ, pinsJ, σJ, HJ, cls, d, rfl, JT, nb, up, sky, na, os, ag, b, hb1, hyes, hno⟩ := xx
    have J : Inv X pins σJ HJ sJ := JT.ofTry okX
    have skyX : Sky B (X.env :: X.outer) a (Zc cls d) X.env.locals s'.heap := by rw [← hs]; exact sky
    show wpAny (model X.prog X.w) X.A (noteFrame (.ref a) X.env) _ _ _
    refine Sky.land Zc.steady frX hf skyX fun h3 fl3 up3 => ?_
    have J3 : Inv X pins σJ HJ { s' with heap := h3 } := J.landed nb fl3.1 (up.trans up3) os ag
    obtain ⟨oe3, vs3, he3, hz3, hd3⟩ := fl3.there
    have outFr : ∀ {h : Heap} {o : Obj} {vs : Array Value}, h.FunFrames B (X.env :: X.outer) → h.get? a = some o → o.data = .fields vs → a ∉ frs (X.env :: X.outer) := fun {h o vs} ff e dd hm => by
      obtain ⟨_, o', e', hnf⟩ := ff.mem hm
      rw [e] at e'
      cases e'
      exact hnf _ dd
    have nfr := outFr fl3.2.2.1 he3 hd3
    have nL : a ≠ X.env.locals := fun z => nfr (List.mem_filterMap.mpr ⟨X.env, List.mem_cons_self, by rw [hf, z]⟩)
    have nF : a ∉ X.fs := fun hm => by
      obtain ⟨e, he, q⟩ := List.mem_filterMap.mp hm
      exact nfr (List.mem_filterMap.mpr ⟨e, List.mem_cons_of_mem _ he, q⟩)
    have nB : B.get? a = none := fl3.2.1
    have nJ : sJ.heap.get? a = none := by
      cases q : sJ.heap.get? a with
      | none => rfl
      | some o =>
        have z := nb a o q (by rw [hs]; exact nfr)
        rw [nB] at z
        cases z
    have n0 : X.s_0.heap.get? a = none := by
      cases q : X.s_0.heap.get? a with
      | none => rfl
      | some o =>
        obtain ⟨o', z⟩ := J.base.there a o q (by rw [hex]; exact fun z => nomatch z)
        rw [nJ] at z
        cases z
    have nP : ∀ p ∈ X.pn ++ pins, p.1 ≠ a := fun p hp z => by
      have q := (J.pin p hp).1
      rw [z, nJ] at q
      cases q
    have S3 := J3.suite he3 hd3 na nL nF
    refine wpAny_handleBy_cons (codeAny_handlers_test ?_) (by intro q; cases q)
    have LT : PySem.W.Looks (model X.prog X.w) h3 (typeOf (.ref a)) cls := fun A Q E s k q => wpAny_typeOf_ref (k _ _ he3) (by rw [hz3.1]; exact q)
    have LM := PySem.W.exm_one (M := model X.prog X.w) (J3.kIn) LT hb1
    have testX : ∀ {Q : Value → Shared → Prop} {E : Value → Shared → Prop}, Q c { s' with heap := h3 } → wpAny (model X.prog X.w) (X.A.mark (some (.ref a))) (eval (.Name x np) X.env) Q E { s' with heap := h3 } := fun {Q E} q => by
      obtain ⟨hg, hdbg, hm | ⟨hm, hv, hnn⟩⟩ := hc
      · exact ld_glob (X := X.suite a ((a, oe3) :: (X.pn ++ pins))) S3 hg hm q hdbg
      · exact ld_blt (X := X.suite a ((a, oe3) :: (X.pn ++ pins))) S3 hg hm hv q hnn hdbg
    refine testX (LM.here ?_)
    cases b with
    | true =>
      obtain ⟨C, rfl, hgo⟩ := hyes rfl
      refine codeAny_handlers_suite_as ?_
      refine HandSPX.lands_againZ fl3 fun h4 fl4 up4 => ?_
      have J4 : Inv X pins σJ HJ { s' with heap := h4 } := J.landed nb fl4.1 ((up.trans up3).trans up4) os ag
      obtain ⟨oe4, vs4, he4, hz4, hd4⟩ := fl4.there
      have S4 := J4.suite he4 hd4 na nL nF
      refine store_ok (X := X.suite a ((a, oe4) :: (X.pn ++ pins))) (v := .ref a) S4 hN hi (.inl hln) rfl (fun s5 S5 => ?_) (.inr hln)
      have suiteOk : PSs (X.suite a ((a, oe4) :: (X.pn ++ pins))) [.Assign [.Name y py] (.Name n pn2) p2] (tAsg (tVar i) (gName j)) := pss_one (ps_set (X := X.suite a ((a, oe4) :: (X.pn ++ pins))) hN hj (.inl hyl) (pe_var hi (.inl hln) hdn hdc) (by rfl) (.inr hyl))
      have hiJ : i < σJ.length := by rw [J.len]; exact hij
      refine wpAny_mono (suiteOk.run [] s5 _ HJ { nx := fun σ6 H6 => σ6 = (σJ.set i (some (.ref a))).set j (some (.ref a)) ∧ H6 = HJ, rt := fun _ _ => False } S5 ⟨.ref a, List.getElem?_set_self hiJ, rfl, rfl⟩) (fun f s6 hsp => ?_) (fun _ _ z => False.elim z)
      cases f with
      | next =>
        obtain ⟨σ6, H6, S6, e1, e2⟩ := hsp
        subst e1 e2
        have U6 : Inv X pins _ H6 s6 := S6.unsuite okX
        have P6 : Inv X ((a, oe4) :: pins) _ H6 s6 := U6.pins_of fun p hp => (List.mem_cons.mp hp).elim (fun z => by rw [z]; exact S6.pin (a, oe4) (List.mem_append.mpr (.inl List.mem_cons_self))) fun z => U6.pin p (List.mem_append.mpr (.inr z))
        exact gone_ok P6 hN hi hln fun s7 J7 => ⟨_, _, Inv.track J7 n0 nP hz4 hd4, hgo a na⟩
      | brk => obtain ⟨_, _, _, q⟩ := hsp; exact False.elim q
      | cont => obtain ⟨_, _, _, q⟩ := hsp; exact False.elim q
      | ret u => obtain ⟨_, _, _, _, _, q⟩ := hsp; exact False.elim q
    | false =>
      show wpAny _ X.A (handleBy (.ref a) X.env []) _ _ _
      refine wpAny_handleBy_nil ?_
      obtain ⟨k1, k2, k3, oe, vs, T, oT, ts', he, hz, hd, h1, hr⟩ := id fl3
      unfold PySem.passOn
      refine wpAny_bind (wpAny_field he hd h1 ?_)
      rw [if_neg (show ¬ ((Value.ref T == Value.none) = true) from by simp)]
      have goOn : wpAny (model X.prog X.w) X.A (setFlight (.ref a) X.env.frame) (fun _ s4 => wpAny (model X.prog X.w) X.A (throw (.ref a) : Sem Flow) (SP X pins D) X.xe s4) X.xe { s' with heap := h3 } := by
        rw [hf]
        refine HandSPX.setFlight_upZ fl3 fun h4 hh4 up4 => wpAny_throw (tk _ _ ?_)
        exact ⟨a, B, sJ, pins, σJ, HJ, cls, d, rfl, J, nb, (up.trans up3).trans up4, .inr (.inr (by rw [hs]; exact hh4)), na, os, ag, hno rfl⟩
      first
        | exact wpAny_bind (wpAny_pure (wpAny_bind goOn))
        | exact wpAny_bind goOn
  · cases f with
    | next => obtain ⟨σ', H', J', q⟩ := hsp; exact wpAny_execs_nil ⟨σ', H', J'.ofTry okX, q⟩
    | brk => obtain ⟨σ', H', J', q⟩ := hsp; exact ⟨σ', H', J'.ofTry okX, q⟩
    | cont => obtain ⟨σ', H', J', q⟩ := hsp; exact ⟨σ', H', J'.ofTry okX, q⟩
    | ret u => obtain ⟨v, σ', H', J', r, q⟩ := hsp; exact ⟨v, σ', H', J'.ofTry okX, r, q⟩
theorem Takes.len {W : WX} (tk : Takes X W) : Takes X (fun cls d σ H => σ.length = X.N.length → W cls d σ H) := fun u s' ⟨a, B, sI, pins, σ, H, cls, d, e, I, nb, up, sky, na, os, ag, w⟩ => tk u s' ⟨a, B, sI, pins, σ, H, cls, d, e, I, nb, up, sky, na, os, ag, w I.len⟩
theorem caught_gives {Ng : List Str} {x a y n cT q : Str} {sg : Scope} {g CT : Addr} {cdg : Value} {j0 : Nat} {p1 p2 p3 p4 p5 p6 p7 p8 p9 p10 p11 p12 : Pos} (hNg : Ng = [a, y, n]) (hnd : Ng.Nodup) (hly : sg.names.lookup y = some .local) (hln : sg.names.lookup n = some .local)
    (hge : sg.names.lookup cT = some .globalImplicit) (hme : X.mg cT = some (.ref CT)) (hde : (cT == ("__debug__" : Str)) = false) (hdn : (n == ("__debug__" : Str)) = false) (hdc : (n == ("__classdict__" : Str)) = false) (hdy : (y == ("__debug__" : Str)) = false) (hdz : (y == ("__classdict__" : Str)) = false) :
    LamX.GivesTo X Ng x sg g cdg [.Assign [.Name y p1] (.Constant .none j0 p2) p3, .Try [.Expr (.Call (.Name a p4) [] [] p5) p5] [.ExceptHandler (some (.Name cT p6)) (some n) [.Assign [.Name y p7] (.Name n p8) p9] p10] [] [] p11, .Return (some (.Name y p12)) p12'] a q (tCaught X.K (.ref CT)) := by
  intro f c' s H Q tl act hc h
  subst hNg
  have hgl : Gl (cxOf C8.CX0 X.prog X.w X.K X.mg X.base [a, y, n] x sg g cdg X.A X.stack s H C8.E0).nox cT := hge
  refine ⟨_, pss_cons (ps_set (X := (cxOf C8.CX0 X.prog X.w X.K X.mg X.base [a, y, n] x sg g cdg X.A X.stack s H C8.E0).nox) (i := 1) hnd rfl (.inl hly) pe_non (by rfl) (.inr hly))
    (pss_cons (ps_try_keep (X := (cxOf C8.CX0 X.prog X.w X.K X.mg X.base [a, y, n] x sg g cdg X.A X.stack s H C8.E0).nox) (c := .ref CT) (i := 2) (j := 1) (Wout := fun _ _ _ _ => False)
      (tb := fun W D σ H => ∃ Ech : XK, (∀ cls d σ' H', Ech cls d H' → σ'.length = 3 → W cls d σ' H') ∧ σ[0]? = some (some (.ref f)) ∧ H c' = some (LamX.CodeO c' q) ∧ tl Ech H fun _ H' => D.nx σ H')
      rfl rfl rfl hnd rfl hln rfl hly (by show 2 < 3; decide) ⟨hgl, hde, .inl hme⟩ LamX.takes0 hdn hdc (fun W pn xe tk _ => ?_)) (pss_one (ps_ret (pe_var (i := 1) rfl (.inl hly) hdy hdz)))), ?_⟩
  · refine ⟨fun pins s' σ H' D I h' => ?_⟩
    obtain ⟨Ech, hW, h1, h2, h3⟩ := h'
    have hp := act (fun cls d σ H => σ.length = 3 → W cls d σ H) pn xe Ech p4 p5 (Takes.len tk) hW
    have hq := pss_one (ps_expr (pos := p5) hp)
    exact hq.run pins s' σ H' D I ⟨h1, h2, h3⟩
  · refine ⟨fun cls d H' => ∃ C, cls = .ref C ∧ PySem.W.exmOne X.K cls (.ref CT) = some true ∧ ∀ a, H' a = none → Q (.ref a) (upd H' a (ExT C d a)), fun cls d σ' H' ⟨C, hC, e1, e2⟩ hl => ⟨true, e1, fun _ => ⟨C, hC, fun b hb => ?_⟩, fun z => nomatch z⟩, rfl, hc, ?_⟩
    · match σ', hl with
      | [_, _, _], _ => exact ⟨.ref b, rfl, e2 b hb⟩
    · have eP : (fun (_ : V) (H' : Hp) => tRet (tVar 1) { nx := fun _ H' => Q V.non H', rt := Q } (List.set (L2.start [a, y, n] [V.ref f]) 1 (some V.non)) H') = fun _ H' => Q .non H' := by
        funext v H'
        refine propext ⟨fun ⟨x, e, q⟩ => ?_, fun q => ⟨.non, rfl, q⟩⟩
        have e : some (some V.non) = some (some x) := e
        cases e
        exact q
      exact eP ▸ h
/-- x(lambda: body): what is raised becomes the value -/
theorem ev_lamcall {E : XK} {x a cT : Str} {g c P CT : Addr} {k : Nat} {pg : Arguments} {bg : List Stmt} {sg : Scope} {dV kV doc pm cdv ct oc : Value} {an od : Option Addr} {osl : Array (Option Value)} {Ng : List Str} {L : List (Str × Addr)} {fb : Ev}
    {params : Arguments} {body : Expr} {scope : Scope} {p lpos pos : Pos} (hg : Gl X x) (hm : X.mg x = some (.ref g)) (hk : PySem.W.keepIn X.K (.ref g) = true)
    (lk : X.K.lookup g = some ⟨oc, od, .func (PySem.W.fnOf x x pg bg sg dV kV doc pm an cdv ct), osl⟩) (hcg : PySem.W.codeIn X.K cdv x = true) (hb : L2.Binds X.K (PySem.W.fnOf x x pg bg sg dV kV doc pm an cdv ct) [a] []) (Sg : FnScope Ng [a] sg) (hNg : Ng[0]? = some a) (hva : Vis sg a)
    (hG : LamX.GivesTo X Ng x sg g cdv bg a (X.env.qual ++ "<lambda>") (tCaught X.K (.ref CT))) (hL : ∀ x C, L.lookup x = some C → X.mg x = some (.ref C) ∧ PySem.W.exmOne X.K (.ref C) (.ref CT) = some true)
    (TB : LamX.TabB X.base X.mg c P) (hcode : X.env.code = .ref c) (hmT : (P, X.env.qual ++ "<lambda>") ∈ TabT.T) (hu : ∀ p ∈ TabT.T, p.1 = P → p.2 = X.env.qual ++ "<lambda>") (hr : Room (k + 2) X.A) (LS : LamX.LamS X.env.scope scope) (hdef : defaultsOf params X.env = ([], []))
    (hbind : ∀ (q : Str) (cl : List (Str × Addr)) (pm cv ctv : Value), bindArgs (PySem.W.kla_fn "<lambda>" q params body scope cl pm cv ctv) ⟨[], []⟩ = pure [])
    (hbody : ∀ (A : Around) (outer : List Env) (s : Shared) (H : Hp) (E : XK) (f c' : Addr), Room k (A.deeper (LamX.lamEnv X scope s.heap.objs.size f c')) → EV (LamX.lamCx X A outer s H E scope f c') E body fb)
    (hdb : (x == ("__debug__" : Str)) = false := by decide) (hd : (a == ("__debug__" : Str)) = false := by decide) (hcd : (a == ("__classdict__" : Str)) = false := by decide) :
    EV X E (.Call (.Name x p) [.Lambda params body scope lpos] [] pos) (eCaught L fb) :=
  PE.imp (LamX.pe_lamcall (t := fun E => tEv X.K X.mg E fb) hg hm hk lk hcg hb Sg hNg hva hG TB hcode hmT hu hr LS hdef hbind (fun A outer s H E f c' hr2 => hbody A outer s H E f c' hr2) hdb hd hcd) fun σ H Q h => caught_use hL h
section
open PySem.W PySem.Calls
theorem yes_ans {K : Frag} {x t c : Value} {H : Heap → Prop} (ty : ∀ (M : Model) (h : Heap), H h → Looks M h (typeOf x) t) (e : kitOne K t c = some true) : Answers (fun s => K.In s.heap ∧ H s.heap) x c true := by
  rintro dep tk prog w A R ⟨hh, g, d, tt, os⟩ ⟨⟨X, p⟩, hq⟩
  have LT := ty (model prog w) hh p
  unfold Builtin.«isinstance.nested»
  refine wpAny_bind (LT.at ?_)
  unfold kitOne at e
  cases q : (t == c) with
  | true =>
    rw [if_pos rfl]
    first
      | exact wpAny_bind (wpAny_rule (hq tt))
      | exact wpAny_bind (wpAny_rule (wpAny_pure (hq tt)))
  | false =>
    rw [q, if_neg Bool.false_ne_true] at e
    rw [if_neg Bool.false_ne_true]
    obtain ⟨h1, h2, h3⟩ := kit_cls (M := model prog w) X e
    refine wpAny_bind (h1.at ?_)
    rw [if_pos (by decide)]
    k_delta "plainIsInstance"
    refine wpAny_bind (wpAny_bind (h2.at ?_))
    simp only [Bool.not_true, Bool.false_eq_true, if_false]
    refine wpAny_bind ((LT.andThen h3 : Looks _ _ (isInstance x c) true).at ?_)
    first
      | exact wpAny_pure (wpAny_pure (hq tt))
      | (simp only [if_true]; first | exact wpAny_pure (wpAny_pure (hq tt)) | exact wpAny_pure (hq tt) | exact wpAny_bind (wpAny_pure (wpAny_pure (hq tt))))
end
def isXl (l : List (Str × Dt)) (b : Bool) : Option Dt := if (l.isEmpty || b) = true then some (.bl b) else none
def oIsX (K : Frag) (ws : List Wv) (_ : List Cell) : Option Dt := match ws with
  | [.dat (.exn D l), .dat (.op (.ref C))] => (PySem.W.kitOne K (.ref D) (.ref C)).bind (isXl l)
  | [.dat .non, .dat (.op (.ref C))] => (PySem.W.kitOne K (.type "NoneType") (.ref C)).map .bl
  | _ => none
def rIsX (K : Frag) : List V → Hp → VK → Prop := fun xs H Q => ∃ (x : V) (t cv : Value) (C : Addr) (b : Bool), xs = [x, .ref C] ∧ cv = .ref C ∧ ((x = .non ∧ t = .type "NoneType") ∨ ∃ a D d, x = .ref a ∧ H a = some (ExT D d a) ∧ (d = none ∨ b = true) ∧ t = .ref D ∧ ExcC K D) ∧ PySem.W.kitOne K t cv = some b ∧ Q (.bl b) H
theorem call_isX : CallR X (.builtin "isinstance") (rIsX X.K) := by
  intro pins s σ H xs us Q I r h
  obtain ⟨x, t, cv, C, b, rfl, rfl, hx, e, q⟩ := h
  cases r with
  | cons rx rr =>
    cases rr with
    | cons rt rr =>
      cases rr
      cases rt
      rcases hx with ⟨rfl, rfl⟩ | ⟨a, D, dd, rfl, ha, hF, rfl, hC⟩
      · cases rx
        exact PySem.W.kia_one PySem.W.kitx_none I.kIn True.intro e (fun z => nomatch z) fun tk => ⟨.bl b, H, I.kept (t' := tk) fun _ _ z => z, rfl, q⟩
      · cases rx
        obtain ⟨⟨oe, vs, he, hz, hv⟩, _, _⟩ := I.hok a _ ha
        rcases hF with rfl | rfl
        · have J : PySem.W.InstAt s.heap a oe D none := ⟨he, hz.1, by unfold PySem.W.notCls; rw [hv] <;> rfl, by rw [hz.2]; trivial⟩
          exact PySem.W.kia_one (PySem.W.handS_kitx_exc hC.hg hC.hk hC.hs hC.hd hC.ha hC.hn hC.ht hC.hm) I.kIn J e (fun z => nomatch z) fun tk => ⟨.bl b, H, I.kept (t' := tk) fun _ _ z => z, rfl, q⟩
        · have ty : ∀ (M : Model) (h : Heap), (h.get? a = some oe) → PySem.W.Looks M h (typeOf (.ref a)) (.ref D) := fun M h g A Q E s k q => wpAny_typeOf_ref (k _ _ g) (by rw [hz.1]; exact q)
          exact call_isinstance (S := fun _ R s => (X.K.In s.heap ∧ s.heap.get? a = some oe) ∧ ∀ tk, R (.ok (.ret (.bool true))) { s with toks := tk })
            (fun prog w A R s hs => isinstance_outer (yes_ans ty e 0 _ prog w A R s hs) (fun z => nomatch z)) ⟨⟨I.kIn, he⟩, fun tk => ⟨.bl true, H, I.kept (t' := tk) fun _ _ z => z, rfl, q⟩⟩
/-- Ds: the classes of exceptions that may have been caught -/
def oIsXD (K : Frag) (Ds : List Addr) (ws : List Wv) (cs : List Cell) : Option Dt := match ws with
  | .dat (.exn D _) :: _ => if decide (D ∈ Ds) = true then oIsX K ws cs else none
  | _ => oIsX K ws cs
theorem co_isX {K : Frag} {Ds : List Addr} (hD : ∀ D ∈ Ds, ExcC K D) : CallO K (rIsX K) (oIsXD K Ds) := fun ω H cs vs ws z k rv e Q q => by
  unfold oIsXD at e
  split at e
  · rename_i D l0 rest
    split at e
    · rename_i hh
      have hh := of_decide_eq_true hh
      unfold oIsX at e
      split at e
      · rename_i D' l' C heq
        injection heq with h1 h2
        injection h1 with h1
        injection h1 with h1 h3
        subst h1 h2 h3
        obtain ⟨v, u, rfl, r1, r2⟩ := rv.two
        cases r1 with
        | exn ha hF hl =>
          cases r2
          cases hk : PySem.W.kitOne K (.ref D) (.ref C) with
          | none => rw [hk] at e; cases e
          | some b =>
            rw [hk] at e
            have e : isXl _ b = some _ := e
            unfold isXl at e
            split at e
            · rename_i hb
              cases e
              refine ⟨_, _, _, C, b, rfl, rfl, .inr ⟨_, D, _, rfl, k.ex _ _ ha, ?_, rfl, hD D hh⟩, hk, q ω H _ (Le.refl _) k (.bl _)⟩
              rcases hF with ⟨h0, _⟩ | ⟨h0, _⟩
              · exact .inl h0
              · cases hl with
                | nil => exact absurd rfl h0
                | cons _ _ => exact .inr (by simpa using hb)
            · cases e
      · rename_i heq
        injection heq with h1 h2
        injection h1 with h1
        cases h1
      · cases e
    · cases e
  · unfold oIsX at e
    split at e
    · rename_i D l C hne
      exact absurd rfl (hne D l _)
    · rename_i C hne
      obtain ⟨v, u, rfl, r1, r2⟩ := rv.two
      cases r1
      cases r2
      cases hk : PySem.W.kitOne K (.type "NoneType") (.ref C) with
      | none => rw [hk] at e; cases e
      | some b =>
        rw [hk] at e
        cases e
        exact ⟨_, _, _, C, b, rfl, rfl, .inl ⟨rfl, rfl⟩, hk, q ω H _ (Le.refl _) k (.bl _)⟩
    · cases e
end
end DX
namespace DX
open PySem PySem.Spec PyProof.Rows L2
theorem caller_guards : callerA.guards = some [] := rfl
/-- from an abstract heap in which only the tables and, perhaps, the script are looked at -/
theorem law_core [TabT] {P : Program} {w : World} {K : Frag} {mg mb : MG} {k : Nat} {fa a : Addr} {cs : List (Addr × Addr)} {fd : FuncData} {x : Str} {m : Fn} {s1 : Shared} {vs : List Value} {ns : List Int} {H : Hp}
    (KX : K.In s1.heap) (nsG : s1.heap.Ns mainGlobals mg) (nsB : s1.heap.Ns builtinsNs mb) (hbb : ∀ x : Str, x ≠ "__name__" → mb x = bootBuiltins x) (hlim : s1.heap.NoLimit) (hgen : s1.gens = #[])
    (tabO : ∀ p ∈ cs, s1.heap.get? p.2 = some { cls := .none, data := .fields #[] }) (tabK : ∀ p ∈ cs, K.lookup p.2 = none) (codeO : ∀ p ∈ cs, PySem.W.CodeHd s1.heap p.1 p.2)
    (hbm : ∃ (bm : Addr) (ob : Obj), mg "__builtins__" = some (.ref bm) ∧ bm ≠ builtinsNs ∧ s1.heap.get? bm = some ob ∧ ob.cls = .type "module" ∧ ob.dict = some builtinsNs ∧ ob.data = .plain)
    (obA : s1.heap.get? a = some { cls := .type "list", data := .seq vs.toArray }) (hr : Room k callerA) (hTT : ∀ p ∈ TabT.T, p.1 ∈ cs.map (·.2))
    (F : ∀ base : Heap, K.In base → base.Ns mainGlobals mg → (∀ p ∈ cs, LamX.TabB base mg p.1 p.2) → FnG P w K mg base true k fa fd [x] m) (bindA : ∀ (s : Shared) (u : Value), BindsTo s fd ⟨[u], []⟩ [(x, u)])
    (hm : ∃ cs', m [.dat (.scr ns)] [] = .ok (.dat (.bl true)) cs')
    (tabH : ∀ p ∈ cs, H p.2 = some (.tbl #[])) (onlyH : ∀ b, H b = none ∨ b ∈ cs.map (·.2) ∨ ∃ o xs, H b = some (.frz o (.lst xs))) (seqH : SqL K H a (ns.map V.int)) (okH : HOk P w H s1.heap) (atH : ∀ b, H b ≠ none → b = a ∨ b ∈ cs.map (·.2)) (keyH : H a ≠ none → K.lookup a = none) :
    codeAny (model P w) callerA (.call (.ref fa) ⟨[.ref a], []⟩) (fun r s' => r = .ok (.ret (.bool true)) ∧ OldK s1.heap s'.heap ∧ s'.os = s1.os ∧ AllBare s'.gens) s1 := by
  have isTab : ∀ b : Addr, b ∈ cs.map (·.2) → s1.heap.get? b = some { cls := .none, data := .fields #[] } := fun b hb => by
    obtain ⟨p, hp, e⟩ := List.mem_map.mp hb
    exact e ▸ tabO p hp
  have inTab : ∀ p ∈ cs, p.2 ∈ cs.map (·.2) := fun p hp => List.mem_map.mpr ⟨p, hp, rfl⟩
  have aOut : a ∉ cs.map (·.2) := fun z => by
    have q := isTab a z
    rw [obA] at q
    have z' : Data.seq vs.toArray _ = Data.fields #[] := congrArg Obj.data (Option.some.inj q)
    cases z'
  have baseOf : ∀ {b : Addr} {o : Obj}, s1.heap.get? b = some o → H b = none → (hidT s1.heap H).get? b = some o := fun e n => hidT_get e n
    -- what is neither a list's nor an empty table's object is not looked at
  have free1 : ∀ {b : Addr} {o : Obj}, s1.heap.get? b = some o → (∀ vs n, o.data ≠ .seq vs n) → o.data ≠ .fields #[] → H b = none := fun {b o} e q1 q2 => by
    cases q : H b with
    | none => rfl
    | some u =>
      rcases atH b (by rw [q]; simp) with h | h
      · rw [h, obA] at e
        cases e
        exact absurd rfl (q1 _ _)
      · rw [isTab b h] at e
        cases e
        exact absurd rfl q2
  have free2 : ∀ {b : Addr} {o : Obj} {es : Array DictEntry} {ep : Nat}, s1.heap.get? b = some o → o.data = .dict es ep → H b = none := fun {b o es ep} e d =>
    free1 e (fun vs n z => by rw [d] at z; cases z) (fun z => by rw [d] at z; cases z)
  have nsOf : ∀ {b : Addr} {mm : MG}, s1.heap.Ns b mm → (hidT s1.heap H).Ns b mm := fun {b mm} ⟨o, es, ep, e, d, r⟩ => ⟨o, es, ep, baseOf e (free2 e d), d, r⟩
  have KB : K.In (hidT s1.heap H) := fun b o e => baseOf (KX b o e) (by
    cases q : H b with
    | none => rfl
    | some u =>
      rcases atH b (by rw [q]; simp) with h | h
      · rw [h] at e q
        rw [keyH (by rw [q]; simp)] at e
        cases e
      · obtain ⟨p, hp, ep⟩ := List.mem_map.mp h
        rw [← ep, tabK p hp] at e
        cases e)
  have modB : L2.Mod K mg (hidT s1.heap H) := ⟨KB, nsOf nsG, ⟨mb, nsOf nsB, hbb⟩, let ⟨mc, q1, q2⟩ := hlim; ⟨mc, nsOf q1, q2⟩⟩
  have tabB : ∀ p ∈ cs, LamX.TabB (hidT s1.heap H) mg p.1 p.2 := fun p hp => by
    have hTp := tabO p hp
    refine ⟨?_, ?_, fun z => ?_⟩
    · obtain ⟨o, us, file, tf, flags, tg, inF, text, tt, e1, r1, r2, r3, r4, r5, r6, r7, r8, hne⟩ := codeO p hp
      exact ⟨o, us, file, tf, flags, tg, inF, text, tt, baseOf e1 (free1 e1 (fun vs n z => by rw [r2] at z; cases z) fun z => by rw [r2] at z; cases z; simp at r3), r1, r2, r3, r4, r5, r6, r7, r8, hne⟩
    · obtain ⟨bm, ob, b1, b2, b3, b4, b5, b6⟩ := hbm
      have nG : bm ≠ mainGlobals := fun q => by
        obtain ⟨o, es, ep, e, hd, _⟩ := nsG
        rw [q, e] at b3
        cases b3
        rw [hd] at b6
        cases b6
      have nP : bm ≠ p.2 := fun q => by
        rw [q, hTp] at b3
        cases b3
        cases b6
      exact ⟨bm, ob, b1, b2, nG, nP, baseOf b3 (free1 b3 (fun vs n z => by rw [b6] at z; cases z) fun z => by rw [b6] at z; cases z), b4, b5, b6⟩
    · obtain ⟨o, es, ep, e, hd, _⟩ := nsG
      rw [z, hTp] at e
      cases e
      cases hd
  have env0 : Env0 P w K mg (hidT s1.heap H) callerA [] s1 H := ⟨rfl, modB, fun b o e => of_hidT e, Nat.le_of_eq (hidT_size _ _), trivial, fun b hb => absurd (show b ∈ ([] : List Addr) from hb) (by simp), okH, .of_eq hgen⟩
  have okW : Ok K ⟨fun b => if b ∈ cs.map (·.2) then none else H b, [], fun _ => none, fun _ => none⟩ H [] := by
    refine ⟨fun b o e => ?_, rfl, List.nodup_nil, fun i b c e => by simp at e, fun p hp => ?_, fun b o e => (by cases e), fun b o e => (by cases e), fun b o e => ?_, fun b o e => (by cases e), fun b o vs e => (by cases e)⟩
    · have e : (if b ∈ cs.map (·.2) then none else H b) = some o := e
      split at e
      · cases e
      · exact e
    · obtain ⟨q, hq, eq⟩ := List.mem_map.mp (hTT p hp)
      exact LamX.TabS.nil (by rw [← eq]; exact tabH q hq)
    · have e : (if b ∈ cs.map (·.2) then none else H b) = some o := e
      split at e
      · cases e
      · rcases onlyH b with z | z | ⟨ob, xs, z⟩
        · rw [z] at e; cases e
        · contradiction
        · rw [z] at e; cases e; exact True.intro
  have repA : RepW K ⟨fun b => if b ∈ cs.map (·.2) then none else H b, [], fun _ => none, fun _ => none⟩ (.ref a) (.dat (.scr ns)) := by
    refine RepD.scr ?_
    have ea : (fun b => if b ∈ cs.map (·.2) then none else H b) a = H a := if_neg aOut
    rcases seqH with (h | ⟨o, h⟩) | h
    · exact .inl (.inl (ea.trans h))
    · exact .inl (.inr ⟨o, ea.trans h⟩)
    · exact .inr h
  obtain ⟨cs', hm⟩ := hm
  refine codeAny_mono ((F _ KB (nsOf nsG) tabB).run callerA [] s1 H ⟨[.ref a], []⟩ [.ref a] [.ref a] (fun v _ => v = .bl true) (fun _ _ _ => False) _ [] [.dat (.scr ns)] hr (fun _ => caller_guards) env0 (bindA s1 (.ref a)) (.cons rfl .nil) rfl okW (.cons repA .nil) ?_) fun r s' h => ?_
  · rw [hm]
    intro ω' H' l k v r
    cases (show RepD K ω'.Hs v (.bl true) from r)
    rfl
  cases r with
  | error e =>
    obtain ⟨_, _, _, _, _, _, _, _, _, _, _, _, z⟩ := h
    exact z.elim
  | ok fl =>
    cases fl with
    | next => exact False.elim h
    | brk => exact False.elim h
    | cont => exact False.elim h
    | ret u =>
      obtain ⟨v, H', os, bare, un, hok', r', q⟩ := h
      have q' : v = .bl true := q
      subst q'
      obtain rfl : u = Value.bool true := r'
      have stays : ∀ b o, b ∉ cs.map (·.2) → s1.heap.get? b = some o → s'.heap.get? b = some o := fun b o nb e => by
        cases q : H b with
        | none => exact un.keep b o e q (fun z => absurd (show b ∈ ([] : List Addr) from z) (by simp)) (by simp)
        | some u =>
          rcases onlyH b with z | z | ⟨ob, xs, z⟩
          · rw [q] at z; cases z
          · exact absurd z nb
          · have z2 := un.frzs b ob _ z
            obtain ⟨e1, _⟩ := okH b _ z
            obtain ⟨e2, _⟩ := hok' b _ z2
            rw [e] at e1
            cases e1
            exact e2
      have grew : ∀ p ∈ cs, ∃ more : Array Value, s'.heap.get? p.2 = some { cls := .none, data := .fields more } := fun p hp => by
        obtain ⟨more, z⟩ := un.tbls p.2 #[] (tabH p hp)
        exact ⟨_, hok' p.2 _ z⟩
      refine ⟨rfl, ⟨fun b o e => ?_, fun b o e => ?_⟩, os, bare⟩
      · by_cases hb : b ∈ cs.map (·.2)
        · obtain ⟨p, hp, ep⟩ := List.mem_map.mp hb
          obtain ⟨more, hmm⟩ := grew p hp
          subst ep
          rw [tabO p hp] at e
          cases e
          exact .inr (.inl ⟨((codeO p hp).tab (tabO p hp)).isCodeTable, rfl, #[], more, rfl, by rw [Array.empty_append]; exact hmm⟩)
        · exact .inl (stays b o hb e)
      · by_cases hb : b ∈ cs.map (·.2)
        · obtain ⟨p, hp, ep⟩ := List.mem_map.mp hb
          obtain ⟨more, hmm⟩ := grew p hp
          exact ep ▸ ⟨_, hmm⟩
        · exact ⟨o, stays b o hb e⟩
/-- what is known of the law behind the head -/
def LawG (l : PySem.W.OpenLaw) (w : World) (K : Frag) (k n : Nat) (x : Str) (mg : MG) (fa : Addr) (h : Heap) : Prop :=
  ∃ (TT : TabT) (fd : FuncData) (cs : List (Addr × Addr)) (m : Fn), (∀ p ∈ TT.T, p.1 ∈ cs.map (·.2)) ∧ (∀ p ∈ cs, h.get? p.2 = some { cls := .none, data := .fields #[] }) ∧ (∀ p ∈ cs, K.lookup p.2 = none) ∧ (∀ p ∈ cs, PySem.W.CodeHd h p.1 p.2) ∧ (∀ (s : Shared) (u : Value), BindsTo s fd ⟨[u], []⟩ [(x, u)]) ∧
    (∀ ns : List Int, ns.length ≤ n → (∀ z ∈ ns, Builtin.Int.intBits z ≤ 1048576) → ∃ cs', m [.dat (.scr ns)] [] = .ok (.dat (.bl true)) cs') ∧ ∀ base : Heap, K.In base → base.Ns mainGlobals mg → (∀ p ∈ cs, LamX.TabB base mg p.1 p.2) → @FnG TT l.prog w K mg base true k fa fd [x] m
theorem walkG {l : PySem.W.OpenLaw} {n k : Nat} {q : Program} {loose : List Str} {XP : (Str → Option Value) → Heap → Prop} {YP : World → Heap → Prop} {d : DefRec} {K : Params → Frag} {x : Str}
    (hn : l.most = some n) (hn2 : n ≤ sizeLine) (hdf : d.params.defaults = []) (hr : Room k callerA) (hY : ∀ (w : World) (h : Heap), YP w h → (K w.params).In h)
    (F : ∀ (w : World) (mg : MG) (fa : Addr) (h : Heap), YP w h → (K w.params).In h → h.Ns mainGlobals mg → (∀ x c P d, (recsOf q).find? (fun e => e.name == x) = some d → PySem.W.tabIn (K w.params) x = some (c, P) → PySem.W.CodeHd h c P ∧ h.get? P = some { cls := .none, data := .fields #[] }) → mg d.name = some (.ref fa) → LawG l w (K w.params) k n x mg fa h) : PySem.W.WalkO q loose XP YP l.row.toRowW d [] (fun f vs => PySem.call f vs) := by
  refine Att.attach_callB hn hdf fun w s₀ s1 mg mb fa o pm cd doc a vs ns G Y ho hd hcd hmg obA hints hlen hbits hgen => ?_
  have KX := hY w _ Y
  obtain ⟨TT, fd, cs, m, hTT, tabO, tabK, codeO, bindA, hm, hF⟩ := F w mg fa _ Y KX G.T.g (fun x c P d h1 h2 => PySem.W.tab_of G.T KX h1 h2) hmg
  have rv := vals_ints hints
  have lenV := hints.length
  have isTab : ∀ b : Addr, b ∈ cs.map (·.2) → s1.heap.get? b = some { cls := .none, data := .fields #[] } := fun b hb => by
    obtain ⟨p, hp, e⟩ := List.mem_map.mp hb
    exact e ▸ tabO p hp
  have aOut : a ∉ cs.map (·.2) := fun z => by
    have q := isTab a z
    rw [obA] at q
    have z' : Data.seq vs.toArray _ = Data.fields #[] := congrArg Obj.data (Option.some.inj q)
    cases z'
  have hl : ns.length ≤ sizeLine := Nat.le_trans hlen hn2
  have core := fun (H : Hp) => @law_core TT l.prog w (K w.params) mg mb k fa a cs fd x m s1 vs ns H KX G.T.g G.T.b G.T.builtins G.T.nolimit hgen tabO tabK codeO G.T.bmain obA hr hTT hF bindA (hm ns hlen hbits)
  cases hk : (K w.params).lookup a with
  | some ob =>
    have e := KX a ob hk
    rw [obA] at e
    cases e
    refine core (fun b => if b ∈ cs.map (·.2) then some (.tbl #[]) else none) (fun p hp => if_pos (List.mem_map.mpr ⟨p, hp, rfl⟩)) (fun b => ?_) (.inr ⟨_, vs.toArray, _, hk, rfl, rfl, rfl, by rw [List.size_toArray, lenV]; exact hl, by simpa using rv⟩) (fun b u z => ?_) (fun b z => ?_) fun z => absurd (show (if a ∈ cs.map (·.2) then some (HO.tbl #[]) else none) = none from if_neg aOut) z
    · by_cases hb : b ∈ cs.map (·.2)
      · exact .inr (.inl hb)
      · exact .inl (if_neg hb)
    · by_cases hb : b ∈ cs.map (·.2)
      · cases (if_pos hb).symm.trans z
        exact isTab b hb
      · cases (if_neg hb).symm.trans z
    · by_cases hb : b ∈ cs.map (·.2)
      · exact .inr hb
      · exact absurd (if_neg hb) z
  | none =>
    refine core (fun b => if b = a then some (.frz { cls := .type "list", data := .seq vs.toArray } (.lst (ns.map V.int))) else if b ∈ cs.map (·.2) then some (.tbl #[]) else none) (fun p hp => ?_) (fun b => ?_) (.inl (.inr ⟨_, if_pos rfl⟩)) (fun b u z => ?_) (fun b z => ?_) fun _ => hk
    · have hm2 : p.2 ∈ cs.map (·.2) := List.mem_map.mpr ⟨p, hp, rfl⟩
      exact (if_neg fun (z : p.2 = a) => aOut (z ▸ hm2)).trans (if_pos hm2)
    · by_cases hb : b = a
      · exact .inr (.inr ⟨_, _, if_pos hb⟩)
      · by_cases hb2 : b ∈ cs.map (·.2)
        · exact .inr (.inl hb2)
        · exact .inl ((if_neg hb).trans (if_neg hb2))
    · by_cases hb : b = a
      · cases (if_pos hb).symm.trans z
        rw [hb]
        exact ⟨obA, by rw [List.length_map]; exact hl, vs, _, rv, obA⟩
      · have z1 := (if_neg hb).symm.trans z
        by_cases hb2 : b ∈ cs.map (·.2)
        · cases (if_pos hb2).symm.trans z1
          exact isTab b hb2
        · cases (if_neg hb2).symm.trans z1
    · by_cases hb : b = a
      · exact .inl hb
      · by_cases hb2 : b ∈ cs.map (·.2)
        · exact .inr hb2
        · exact absurd ((if_neg hb).trans (if_neg hb2)) z
end DX
namespace DX
open PySem PySem.Spec PyProof.Rows L2
variable [TabT]
section
variable {X : Cx} {E : XK} {a b c e e2 : Expr} {es : List Expr} {pos p : Pos} {f g h : Ev} {ga : EvA}
theorem b_len (hg : Gl X "len") (hm : X.mg "len" = none) (ha : EVA X E [e] ga) (he : starEach [e] X.env = (false, eval e X.env) :: starEach [] X.env := by rfl) : EV X E (.Call (.Name "len" p) [e] [] pos) (eCall oLen ga) := ev_len rfl hg hm ha he rfl
theorem b_abs (hg : Gl X "abs") (hm : X.mg "abs" = none) (ha : EVA X E [e] ga) (he : starEach [e] X.env = (false, eval e X.env) :: starEach [] X.env := by rfl) : EV X E (.Call (.Name "abs" p) [e] [] pos) (eCall (o1 dAbs) ga) := ev_callB call_abs co_abs hg hm boot_abs ha (by decide) (by decide) he rfl
theorem b_max2 (hc : X.calm = true) (hg : Gl X "max") (hm : X.mg "max" = none) (ha : EVA X E [e, e2] ga) (he : starEach [e, e2] X.env = (false, eval e X.env) :: starEach [e2] X.env := by rfl) (hpl : (backTo pos (starEach [e2] X.env)).any (·.1) = false := by rfl) : EV X E (.Call (.Name "max" p) [e, e2] [] pos) (eCall (o2 dMax2) ga) := ev_callB (call_max2 hc) co_max2 hg hm boot_max ha (by decide) (by decide) he hpl
theorem b_min2 (hc : X.calm = true) (hg : Gl X "min") (hm : X.mg "min" = none) (ha : EVA X E [e, e2] ga) (he : starEach [e, e2] X.env = (false, eval e X.env) :: starEach [e2] X.env := by rfl) (hpl : (backTo pos (starEach [e2] X.env)).any (·.1) = false := by rfl) : EV X E (.Call (.Name "min" p) [e, e2] [] pos) (eCall (o2 dMin2) ga) := ev_callB (call_min2 hc) co_min2 hg hm boot_min ha (by decide) (by decide) he hpl
theorem b_int (hg : Gl X "int") (hm : X.mg "int" = none) (ha : EVA X E [e] ga) (he : starEach [e] X.env = (false, eval e X.env) :: starEach [] X.env := by rfl) : EV X E (.Call (.Name "int" p) [e] [] pos) (eCall (o1 dInt1) ga) := ev_callTy call_int1 co_int1 hg hm boot_int ha (by decide) (by decide) he rfl
theorem b_isX {Ds : List Addr} (hD : ∀ D ∈ Ds, ExcC X.K D) (hg : Gl X "isinstance") (hm : X.mg "isinstance" = none) (ha : EVA X E [e, e2] ga) (he : starEach [e, e2] X.env = (false, eval e X.env) :: starEach [e2] X.env := by rfl) (hpl : (backTo pos (starEach [e2] X.env)).any (·.1) = false := by rfl) : EV X E (.Call (.Name "isinstance" p) [e, e2] [] pos) (eCall (oIsXD X.K Ds) ga) := ev_callB call_isX (co_isX hD) hg hm boot_isinstance ha (by decide) (by decide) he hpl
theorem b_sum (hc : X.calm = true) (hg : Gl X "sum") (hm : X.mg "sum" = none) (ha : EVA X E [e] ga) (he : starEach [e] X.env = (false, eval e X.env) :: starEach [] X.env := by rfl) : EV X E (.Call (.Name "sum" p) [e] [] pos) (eCall (o1 dSum) ga) := ev_callB (cr_sum hc) co_sum hg hm boot_sum ha (by decide) (by decide) he rfl
theorem b_any (hc : X.calm = true) (hg : Gl X "any") (hm : X.mg "any" = none) (ha : EVA X E [e] ga) (he : starEach [e] X.env = (false, eval e X.env) :: starEach [] X.env := by rfl) : EV X E (.Call (.Name "any" p) [e] [] pos) (eCall (o1 dAny) ga) := ev_callB (cr_any hc) co_any hg hm boot_any ha (by decide) (by decide) he rfl
theorem b_all (hc : X.calm = true) (hg : Gl X "all") (hm : X.mg "all" = none) (ha : EVA X E [e] ga) (he : starEach [e] X.env = (false, eval e X.env) :: starEach [] X.env := by rfl) : EV X E (.Call (.Name "all" p) [e] [] pos) (eCall (o1 dAll) ga) := ev_callB (cr_all hc) co_all hg hm boot_all ha (by decide) (by decide) he rfl
theorem tkOf {P : Program} {w : World} {K : Frag} {mg : MG} {base : Heap} {N : List Str} {qual : Str} {scope : Scope} {f : Addr} {cd : Value} {A : Around} {outer : List Env} {s : Shared} {H : Hp} {E : XK} : Takes (cxOf (L2.CX P w) P w K mg base N qual scope f cd A outer s H E) (fun cls d _ H => E cls d H) := takes_of rfl rfl rfl rfl
theorem psOf {P : Program} {w : World} {K : Frag} {mg : MG} {base : Heap} {N : List Str} {qual : Str} {scope : Scope} {f : Addr} {cd : Value} {A : Around} {outer : List Env} {s : Shared} {H : Hp} {E : XK} : Passes (L2.CX P w) (cxOf (L2.CX P w) P w K mg base N qual scope f cd A outer s H E) E := passes_call tkOf fun _ _ _ _ h => h
theorem owOf {P : Program} {w : World} {K : Frag} {mg : MG} {base : Heap} {N : List Str} {qual : Str} {scope : Scope} {f : Addr} {cd : Value} {A : Around} {outer : List Env} {s : Shared} {H : Hp} {E : XK} : PassesOwn (model P w) (cxOf (L2.CX P w) P w K mg base N qual scope f cd A outer s H E).A (cxOf (L2.CX P w) P w K mg base N qual scope f cd A outer s H E).env (cxOf (L2.CX P w) P w K mg base N qual scope f cd A outer s H E).xe := passes_of rfl
theorem psLam {X : Cx} {A : Around} {outer : List Env} {s : Shared} {H : Hp} {E : XK} {scope : Scope} {f c' : Addr} : Passes (L2.CX (LamX.lamCx X A outer s H E scope f c').prog (LamX.lamCx X A outer s H E scope f c').w) (LamX.lamCx X A outer s H E scope f c') E := passes_call (takes_of rfl rfl rfl rfl) fun _ _ _ _ h => h
end
theorem bindK {K : Frag} {x qual : Str} {st : Stmt} {f : Addr} {fd : FuncData} (F : Fun K x qual st f fd) {args : Args} {binds : List (Str × Value)} (h : ∀ (kV doc pm : Value) (an : Option Addr) (cdv ct : Value), bindArgs (PySem.W.fnOf x qual (defArgs st) (defBody st) (defScope st) .none kV doc pm an cdv ct) args = pure binds) (s : Shared) : BindsTo s fd args binds := by
  obtain ⟨oc, od, kV, doc, pm, an, cdv, ct, osl, rfl, lk, hcd⟩ := F.ex
  exact .of_eq (h kV doc pm an cdv ct)
abbrev bmV : List Value := [.type "ValueError", .type "Exception", .type "BaseException", .type "object"]
abbrev newV : String := "ValueError.__new__"
theorem Room.u1 {k : Nat} {A : Around} (r : Room k A) : A.units + 1 < cLine := by have := r.un; omega
theorem Room.u64 {k : Nat} {A : Around} (r : Room k A) : A.units + 64 < cLine := by have := r.un; omega
theorem Room.u65 {k : Nat} {A : Around} (r : Room k A) : A.units + 65 < cLine := by have := r.un; omega
theorem Room.u66 {k : Nat} {A : Around} (r : Room k A) : A.units + 66 < cLine := by have := r.un; omega
end DX
namespace DX
open PySem PySem.Spec PyProof.Rows L2
def rb {α β : Type} (r : R α) (k : α → M β) : R β := match r with
  | .ok a cs => k a cs
  | .exc x cs => .exc x cs
  | .bad => .bad
theorem mb {α β : Type} (m : M α) (k : α → M β) (cs : List Cell) : M.bind m k cs = rb (m cs) k := by
  unfold M.bind rb
  cases m cs <;> rfl
section
variable {α β : Type} {a : α} {k : α → M β} {cs cs1 : List Cell} {e : Str} {p : Prop} [Decidable p] {r r' : R α}
theorem rb_ok : rb (.ok a cs) k = k a cs := (rfl)
theorem rb_exc : rb (.exc e cs : R α) k = .exc e cs := (rfl)
theorem rb_bad : rb (.bad : R α) k = .bad := (rfl)
theorem rb_ite : rb (if p then r else r') k = if p then rb r k else rb r' k := by split <;> rfl
theorem m_ret : M.ret a cs = .ok a cs := (rfl)
theorem m_badE : (M.bad : M α) cs = .bad := (rfl)
theorem m_opt : M.opt (some a) cs = .ok a cs := (rfl)
theorem m_optn : M.opt (none : Option α) cs = .bad := (rfl)
theorem m_ite {f g : M α} : (if p then f else g) cs = if p then f cs else g cs := by split <;> rfl
end
/-- a datum, if there is one -/
def rO (o : Option Dt) (cs : List Cell) : R Wv := match o with
  | some d => .ok (.dat d) cs
  | none => .bad
def rW (o : Option Wv) (cs : List Cell) : R Wv := match o with
  | some d => .ok d cs
  | none => .bad
section
variable {d x y z : Dt} {u v w : Wv} {cs cs1 : List Cell} {env env1 : En} {f g h : Ev} {p q : EvT} {i j l : Nat} {ga gb : EvA} {o o' : Dt → Dt → Option Dt} {s t : Sv} {r : En} {k b c : Bool} {pr : Prop} [Decidable pr] {ws vs : List Wv} {ds es : List Dt} {e : Str} {n m : Int}
theorem rO_some : rO (some d) cs = .ok (.dat d) cs := (rfl)
theorem rO_none : rO none cs = .bad := (rfl)
theorem rW_some : rW (some w) cs = .ok w cs := (rfl)
theorem rW_none : rW none cs = .bad := (rfl)
theorem rO_map (o : Option Dt) : M.opt (o.map Wv.dat) cs = rO o cs := by cases o <;> rfl
theorem rW_opt (o : Option Wv) : M.opt o cs = rW o cs := by cases o <;> rfl
theorem rW_map (o : Option Dt) : rW (o.map Wv.dat) cs = rO o cs := by cases o <;> rfl
theorem s_var0 : eVar 0 (some w :: r) cs = .ok w cs := (rfl)
theorem s_varS {ow : Option Wv} : eVar (i + 1) (ow :: r) cs = eVar i r cs := (rfl)
theorem s_c : eC d env cs = .ok (.dat d) cs := (rfl)
def kBin (o : Dt → Dt → Option Dt) (g : Ev) (env : En) (x : Wv) : M Wv := M.bind (g env) fun y => liftB o x y
theorem s_bin : eBin o f g env cs = rb (f env cs) (kBin o g env) := mb _ _ _
theorem k_bin : kBin o g env u cs = rb (g env cs) (liftB o u) := mb _ _ _
theorem s_lift : liftB o (.dat x) (.dat y) cs = rO (o x y) cs := rO_map _
theorem s_un {o : Dt → Option Dt} : eUn o f env cs = rb (f env cs) (liftU o) := mb _ _ _
theorem s_liftU {o : Dt → Option Dt} : liftU o (.dat x) cs = rO (o x) cs := rO_map _
def kEq (neg : Bool) (g : Ev) (env : En) (x : Wv) : M Wv := M.bind (g env) fun y => fun cs => M.opt ((eqC neg x y cs).map .dat) cs
def kEq2 (neg : Bool) (x y : Wv) : M Wv := fun cs => M.opt ((eqC neg x y cs).map .dat) cs
theorem s_eqc : eEqC k f g env cs = rb (f env cs) (kEq k g env) := mb _ _ _
theorem k_eqc : kEq k g env u cs = rb (g env cs) (kEq2 k u) := mb _ _ _
theorem k_eqc2 : kEq2 k u v cs = rO (eqC k u v cs) cs := rO_map _
theorem eq_ii : eqC false (.dat (.int n)) (.dat (.int m)) cs = some (.bl (decide (n = m))) := by
  show some (Dt.bl (n == m)) = _
  congr 2
theorem ne_ii : eqC true (.dat (.int n)) (.dat (.int m)) cs = some (.bl (!decide (n = m))) := by
  show some (Dt.bl (!(n == m))) = _
  congr 3
theorem str_beq (a b : Str) : (a == b) = decide (a = b) := by
  rw [Bool.eq_iff_iff]; simp
theorem eq_ss {a b : Str} : eqC false (.dat (.str a)) (.dat (.str b)) cs = some (.bl (decide (a = b))) := by
  show some (Dt.bl (a == b)) = _
  rw [str_beq]
theorem ne_ss {a b : Str} : eqC true (.dat (.str a)) (.dat (.str b)) cs = some (.bl (!decide (a = b))) := by
  show some (Dt.bl (!(a == b))) = _
  rw [str_beq]
theorem eq_bb : eqC false (.dat (.bl b)) (.dat (.bl c)) cs = some (.bl (b == c)) := (rfl)
theorem ne_bb : eqC true (.dat (.bl b)) (.dat (.bl c)) cs = some (.bl (!(b == c))) := (rfl)
theorem s_cmpE : tCmpE f env cs = rb (f env cs) asB := mb _ _ _
theorem s_asB : asB (.dat (.bl b)) cs = .ok b cs := (rfl)
theorem s_tru : tTru f env cs = rb (f env cs) mTru := mb _ _ _
def rT (o : Option Bool) (cs : List Cell) : R Bool := match o with
  | some b => .ok b cs
  | none => .bad
theorem k_tru : mTru w cs = rT (wTru w cs) cs := by
  unfold mTru rT
  cases wTru w cs <;> rfl
theorem rT_some : rT (some b) cs = .ok b cs := (rfl)
theorem tru_d : wTru (.dat d) cs = dTru d := (rfl)
theorem tru_c : wTru (.cel i) cs = cTru cs[i]? := (rfl)
theorem dtru_bl : dTru (.bl b) = some b := (rfl)
theorem dtru_non : dTru .non = some false := (rfl)
theorem dtru_int : dTru (.int n) = some (n != 0) := (rfl)
theorem dtru_lst : dTru (.lst ds) = some (!ds.isEmpty) := (rfl)
theorem dtru_tup : dTru (.tup ds) = some (!ds.isEmpty) := (rfl)
def kAnd (q : EvT) (env : En) (k : Bool) : M Bool := if k = true then q env else M.ret false
def kOr (q : EvT) (env : En) (k : Bool) : M Bool := if k = true then M.ret true else q env
def kNot (k : Bool) : M Bool := M.ret (!k)
theorem s_and : tAnd' p q env cs = rb (p env cs) (kAnd q env) := mb _ _ _
theorem s_or : tOr' p q env cs = rb (p env cs) (kOr q env) := mb _ _ _
theorem s_not : tNot' p env cs = rb (p env cs) kNot := mb _ _ _
theorem k_and : kAnd q env b cs = if b = true then q env cs else .ok false cs := by unfold kAnd; cases b <;> rfl
theorem k_or : kOr q env b cs = if b = true then .ok true cs else q env cs := by unfold kOr; cases b <;> rfl
theorem k_not : kNot b cs = .ok (!b) cs := (rfl)
theorem s_yes : tYesE env cs = .ok true cs := (rfl)
theorem m_and : (if pr then R.ok c cs else R.ok false cs) = R.ok (decide pr && c) cs := by by_cases h : pr <;> simp [h]
theorem m_or : (if pr then R.ok true cs else R.ok c cs) = R.ok (decide pr || c) cs := by by_cases h : pr <;> simp [h]
def kEAnd (g : Ev) (env : En) (x : Wv) : M Wv := M.bind (mTru x) fun k => if k = true then g env else M.ret x
def kEAnd2 (g : Ev) (env : En) (x : Wv) (k : Bool) : M Wv := if k = true then g env else M.ret x
def kEOr (g : Ev) (env : En) (x : Wv) : M Wv := M.bind (mTru x) fun k => if k = true then M.ret x else g env
def kEOr2 (g : Ev) (env : En) (x : Wv) (k : Bool) : M Wv := if k = true then M.ret x else g env
def kENot (x : Wv) : M Wv := M.bind (mTru x) fun k => M.ret (.dat (.bl (!k)))
def kENot2 (k : Bool) : M Wv := M.ret (.dat (.bl (!k)))
theorem s_eand : eAnd f g env cs = rb (f env cs) (kEAnd g env) := mb _ _ _
theorem k_eand : kEAnd g env u cs = rb (mTru u cs) (kEAnd2 g env u) := mb _ _ _
theorem k_eand2 : kEAnd2 g env u b cs = if b = true then g env cs else .ok u cs := by unfold kEAnd2; cases b <;> rfl
theorem s_eor : eOr f g env cs = rb (f env cs) (kEOr g env) := mb _ _ _
theorem k_eor : kEOr g env u cs = rb (mTru u cs) (kEOr2 g env u) := mb _ _ _
theorem k_eor2 : kEOr2 g env u b cs = if b = true then .ok u cs else g env cs := by unfold kEOr2; cases b <;> rfl
theorem s_enot : eNot f env cs = rb (f env cs) kENot := mb _ _ _
theorem k_enot : kENot u cs = rb (mTru u cs) kENot2 := mb _ _ _
theorem k_enot2 : kENot2 b cs = .ok (.dat (.bl (!b))) cs := (rfl)
def kIf (f g : Ev) (env : En) (k : Bool) : M Wv := if k = true then f env else g env
theorem s_if : eIf p f g env cs = rb (p env cs) (kIf f g env) := mb _ _ _
theorem k_if : kIf f g env b cs = if b = true then f env cs else g env cs := by unfold kIf; cases b <;> rfl
theorem m_iteD : (if pr then Wv.dat x else Wv.dat y) = Wv.dat (if pr then x else y) := by split <;> rfl
theorem m_iteI : (if pr then Dt.int n else Dt.int m) = Dt.int (if pr then n else m) := by split <;> rfl
theorem m_iteB : (if pr then Dt.bl b else Dt.bl c) = Dt.bl (if pr then b else c) := by split <;> rfl
theorem m_iteAnd : (if pr then R.ok (Wv.dat (.bl c)) cs else R.ok (Wv.dat (.bl false)) cs) = R.ok (Wv.dat (.bl (decide pr && c))) cs := by by_cases h : pr <;> simp [h]
theorem m_iteOr : (if pr then R.ok (Wv.dat (.bl true)) cs else R.ok (Wv.dat (.bl c)) cs) = R.ok (Wv.dat (.bl (decide pr || c))) cs := by by_cases h : pr <;> simp [h]
theorem m_iteS {a b : Str} : (if pr then Dt.str a else Dt.str b) = Dt.str (if pr then a else b) := by split <;> rfl
def kCh (o o' : Dt → Dt → Option Dt) (g h : Ev) (env : En) (x : Wv) : M Wv := M.bind (g env) fun y => M.bind (liftB o x y) fun z => M.bind (asB z) fun k => if k = true then M.bind (h env) fun w => liftB o' y w else M.ret (.dat (.bl false))
def kCh2 (o o' : Dt → Dt → Option Dt) (h : Ev) (env : En) (x y : Wv) : M Wv := M.bind (liftB o x y) fun z => M.bind (asB z) fun k => if k = true then M.bind (h env) fun w => liftB o' y w else M.ret (.dat (.bl false))
def kCh3 (o' : Dt → Dt → Option Dt) (h : Ev) (env : En) (y z : Wv) : M Wv := M.bind (asB z) fun k => if k = true then M.bind (h env) fun w => liftB o' y w else M.ret (.dat (.bl false))
def kCh4 (o' : Dt → Dt → Option Dt) (h : Ev) (env : En) (y : Wv) (k : Bool) : M Wv := if k = true then M.bind (h env) fun w => liftB o' y w else M.ret (.dat (.bl false))
theorem s_chain : eChain o o' f g h env cs = rb (f env cs) (kCh o o' g h env) := mb _ _ _
theorem k_ch : kCh o o' g h env u cs = rb (g env cs) (kCh2 o o' h env u) := mb _ _ _
theorem k_ch2 : kCh2 o o' h env u v cs = rb (liftB o u v cs) (kCh3 o' h env v) := mb _ _ _
theorem k_ch3 : kCh3 o' h env u v cs = rb (asB v cs) (kCh4 o' h env u) := mb _ _ _
theorem k_ch4 : kCh4 o' h env u b cs = if b = true then rb (h env cs) (liftB o' u) else .ok (.dat (.bl false)) cs := by
  unfold kCh4
  cases b
  · rfl
  · exact mb _ _ _
def kArg (g : EvA) (env : En) (x : Wv) : M (List Wv) := M.bind (g env) fun xs => M.ret (x :: xs)
def kArg2 (x : Wv) (xs : List Wv) : M (List Wv) := M.ret (x :: xs)
theorem s_anil : aNil env cs = .ok [] cs := (rfl)
theorem s_acons : aCons f ga env cs = rb (f env cs) (kArg ga env) := mb _ _ _
theorem k_arg : kArg ga env u cs = rb (ga env cs) (kArg2 u) := mb _ _ _
theorem k_arg2 : kArg2 u ws cs = .ok (u :: ws) cs := (rfl)
def rL (o : Option (List Dt)) (mk : List Dt → Dt) (cs : List Cell) : R Wv := match o with
  | some ds => if ds.length ≤ 16777216 then .ok (.dat (mk ds)) cs else .bad
  | none => .bad
def kTup (ws : List Wv) : M Wv := M.bind (mDats ws) fun ds => mLen ds (M.ret (.dat (.tup ds)))
def kLst (ws : List Wv) : M Wv := M.bind (mDats ws) fun ds => mLen ds (M.ret (.dat (.lst ds)))
theorem s_tup : eTup ga env cs = rb (ga env cs) kTup := mb _ _ _
theorem s_lst : eLst ga env cs = rb (ga env cs) kLst := mb _ _ _
theorem mlen_is {m : M Wv} : mLen ds m cs = if ds.length ≤ 16777216 then m cs else .bad := by
  unfold mLen szOk
  by_cases h : ds.length ≤ 16777216
  · rw [if_pos (decide_eq_true h), if_pos h]
  · rw [if_neg (by simpa using h), if_neg h]; rfl
theorem k_tup : kTup ws cs = rL (dats ws) .tup cs := by
  unfold kTup mDats
  rw [mb]
  cases dats ws with
  | none => rfl
  | some ds => exact mlen_is
theorem k_lst : kLst ws cs = rL (dats ws) .lst cs := by
  unfold kLst mDats
  rw [mb]
  cases dats ws with
  | none => rfl
  | some ds => exact mlen_is
theorem rL_some {mk : List Dt → Dt} (h : ds.length ≤ 16777216) : rL (some ds) mk cs = .ok (.dat (mk ds)) cs := (if_pos h)
theorem dats_nil : dats [] = some [] := (rfl)
theorem dats_cons : dats (.dat d :: ws) = (dats ws).map (d :: ·) := (rfl)
theorem opt_map_some {α β : Type} {f : α → β} {a : α} : (some a).map f = some (f a) := (rfl)
theorem opt_map_none {α β : Type} {f : α → β} : (none : Option α).map f = none := (rfl)
theorem opt_or_some {α : Type} {a : α} {o : Option α} : (some a).or o = some a := (rfl)
theorem opt_or_none {α : Type} {o : Option α} : (none : Option α).or o = o := (rfl)
theorem opt_bind_some {α β : Type} {f : α → Option β} {a : α} : (some a).bind f = f a := (rfl)
def kIx (g : Ev) (env : En) (x : Wv) : M Wv := M.bind (g env) fun y => mIx x y
theorem s_ix : eIx f g env cs = rb (f env cs) (kIx g env) := mb _ _ _
theorem k_ix : kIx g env u cs = rb (g env cs) (mIx u) := mb _ _ _
theorem k_ix2 : mIx u v cs = rW (wIx u v cs) cs := rW_opt _
theorem wix_dd : wIx (.dat x) (.dat y) cs = (dIx x y).map .dat := (rfl)
theorem wix_cd : wIx (.cel i) (.dat y) cs = cIx cs[i]? y := (rfl)
theorem ix_t : dIx (.tup ds) (.int n) = atI ds n := (rfl)
theorem ix_l : dIx (.lst ds) (.int n) = atI ds n := (rfl)
theorem ix_s {a : Str} : dIx (.str a) (.int n) = strIx a n := (rfl)
theorem cix_l : cIx (some (.lst ws)) (.int n) = atI ws n := (rfl)
theorem cix_d {kw : List (Key × Wv)} : cIx (some (.dic kw)) y = (keyOf y).bind fun k => valK kw k := (rfl)
theorem ix_d {kw : List (Key × Dt)} : dIx (.dic kw) y = (keyOf y).bind fun k => valK kw k := (rfl)
theorem at_0 {α : Type} {a : α} {l : List α} : atI (a :: l) 0 = some a := by
  unfold L2.atI L2.ixN
  rw [if_pos (Int.le_refl 0), if_pos (by simp)]
  rfl
theorem at_ge {α : Type} {l : List α} {n : Int} (h : 0 ≤ n) : atI l n = l[n.toNat]? := by
  unfold L2.atI L2.ixN
  rw [if_pos h]
  by_cases h2 : n < l.length
  · rw [if_pos h2]; rfl
  · rw [if_neg h2, List.getElem?_eq_none (by omega)]; rfl
theorem at_1 {α : Type} {a a1 : α} {l : List α} : atI (a :: a1 :: l) 1 = some a1 := by rw [at_ge (by decide)]; rfl
theorem at_2 {α : Type} {a a1 a2 : α} {l : List α} : atI (a :: a1 :: a2 :: l) 2 = some a2 := by rw [at_ge (by decide)]; rfl
theorem at_nat {α : Type} {l : List α} {i : Nat} : atI l (i : Int) = l[i]? := by rw [at_ge (by omega)]; rfl
def kSl (lo hi : EvO) (env : En) (x : Wv) : M Wv := M.bind (lo env) fun l => M.bind (hi env) fun u => mSl x l u
def kSl2 (hi : EvO) (env : En) (x : Wv) (l : Option Int) : M Wv := M.bind (hi env) fun u => mSl x l u
theorem s_sl {lo hi : EvO} : eSl f lo hi env cs = rb (f env cs) (kSl lo hi env) := mb _ _ _
theorem k_sl {lo hi : EvO} : kSl lo hi env u cs = rb (lo env cs) (kSl2 hi env u) := mb _ _ _
theorem k_sl2 {hi : EvO} {l : Option Int} : kSl2 hi env u l cs = rb (hi env cs) (mSl u l) := mb _ _ _
theorem k_sl3 {l m : Option Int} : mSl u l m cs = rO (wSl u l m cs) cs := rO_map _
theorem s_onone : oNone env cs = .ok none cs := (rfl)
theorem s_osome : oSome f env cs = rb (f env cs) asI := mb _ _ _
theorem k_asI : asI (.dat (.int n)) cs = .ok (some n) cs := (rfl)
theorem sl_d {l m : Option Int} : wSl (.dat x) l m cs = dSl x l m := (rfl)
theorem sl_c {l m : Option Int} : wSl (.cel i) l m cs = cSl cs[i]? l m := (rfl)
theorem sl_l {l m : Option Int} : dSl (.lst ds) l m = some (.lst (cutL ds l m)) := (rfl)
theorem sl_t {l m : Option Int} : dSl (.tup ds) l m = some (.tup (cutL ds l m)) := (rfl)
theorem cut_hi {α : Type} {l : List α} (h : 0 ≤ n) : cutL l none (some n) = l.take n.toNat := by
  obtain ⟨k, rfl⟩ := Int.eq_ofNat_of_zero_le h
  unfold cutL
  rw [HT.sIx_nat, HT.sIx_none]
  simp only [List.drop_zero, Nat.sub_zero, Int.toNat_natCast]
  by_cases hk : k ≤ l.length
  · rw [Nat.min_eq_left hk]
  · rw [Nat.min_eq_right (by omega), List.take_length, List.take_of_length_le (by omega)]
theorem cut_lo {α : Type} {l : List α} (h : 0 ≤ n) : cutL l (some n) none = l.drop n.toNat := by
  obtain ⟨k, rfl⟩ := Int.eq_ofNat_of_zero_le h
  unfold cutL
  rw [HT.sIx_nat, HT.sIx_none]
  simp only [Int.toNat_natCast]
  by_cases hk : k ≤ l.length
  · rw [Nat.min_eq_left hk]
    exact List.take_of_length_le (by simp)
  · rw [Nat.min_eq_right (by omega), List.drop_length, List.drop_eq_nil_of_le (by omega)]
    simp
theorem cut_lh {α : Type} {l : List α} (h : 0 ≤ n) (h2 : 0 ≤ m) : cutL l (some n) (some m) = (l.take m.toNat).drop n.toNat := by
  obtain ⟨k, rfl⟩ := Int.eq_ofNat_of_zero_le h
  obtain ⟨j, rfl⟩ := Int.eq_ofNat_of_zero_le h2
  unfold cutL
  rw [HT.sIx_nat, HT.sIx_nat]
  simp only [Int.toNat_natCast]
  rw [List.drop_take]
  by_cases hk : k ≤ l.length
  · rw [Nat.min_eq_left hk]
    by_cases hj : j ≤ l.length
    · rw [Nat.min_eq_left hj]
    · rw [Nat.min_eq_right (by omega), List.take_of_length_le (by simp), List.take_of_length_le (by simp; omega)]
  · rw [Nat.min_eq_right (a := k) (by omega), List.drop_length, List.drop_eq_nil_of_le (as := l) (by omega)]
    simp
def kFn (n : Nat) (m : Fn) (ws : List Wv) : M Wv := if ws.length = n then m ws else M.bad
theorem s_fn {n : Nat} {m : Fn} : eFn n m ga env cs = rb (ga env cs) (kFn n m) := mb _ _ _
theorem k_fn0 {m : Fn} : kFn 0 m [] cs = m [] cs := (rfl)
theorem k_fn1 {m : Fn} : kFn 1 m [u] cs = m [u] cs := (rfl)
theorem k_fn2 {m : Fn} : kFn 2 m [u, v] cs = m [u, v] cs := (rfl)
theorem k_fn3 {m : Fn} : kFn 3 m [u, v, w] cs = m [u, v, w] cs := (rfl)
theorem k_fn4 {m : Fn} {u1 : Wv} : kFn 4 m [u, v, w, u1] cs = m [u, v, w, u1] cs := (rfl)
theorem k_fn5 {m : Fn} {u1 u2 : Wv} : kFn 5 m [u, v, w, u1, u2] cs = m [u, v, w, u1, u2] cs := (rfl)
theorem k_fn6 {m : Fn} {u1 u2 u3 : Wv} : kFn 6 m [u, v, w, u1, u2, u3] cs = m [u, v, w, u1, u2, u3] cs := (rfl)
def kFnP (n : Nat) (π : List Nat) (m : Fn) (ws : List Wv) : M Wv := if ws.length = n ∧ (pickL π ws).length = n then m (pickL π ws) else M.bad
theorem s_fnp {n : Nat} {π : List Nat} {m : Fn} : eFnP n π m ga env cs = rb (ga env cs) (kFnP n π m) := mb _ _ _
theorem k_fnp1 {m : Fn} : kFnP 1 [0] m [u] cs = m [u] cs := (rfl)
theorem k_fnp2 {m : Fn} : kFnP 2 [0, 1] m [u, v] cs = m [u, v] cs := (rfl)
theorem k_fnp2r {m : Fn} : kFnP 2 [1, 0] m [u, v] cs = m [v, u] cs := (rfl)
theorem k_fnp3 {m : Fn} : kFnP 3 [0, 1, 2] m [u, v, w] cs = m [u, v, w] cs := (rfl)
def kCall (o : List Wv → List Cell → Option Dt) (ws : List Wv) : M Wv := fun cs => M.opt ((o ws cs).map .dat) cs
theorem s_call {o : List Wv → List Cell → Option Dt} : eCall o ga env cs = rb (ga env cs) (kCall o) := mb _ _ _
theorem k_call {o : List Wv → List Cell → Option Dt} : kCall o ws cs = rO (o ws cs) cs := rO_map _
theorem s_o1 {o : Dt → Option Dt} : o1 o [.dat d] cs = o d := (rfl)
theorem s_o2 : o2 o [.dat x, .dat y] cs = o x y := (rfl)
theorem len_d : oLen [.dat d] cs = dLen d := (rfl)
theorem len_c : oLen [.cel i] cs = cLen cs[i]? := (rfl)
theorem len_l : dLen (.lst ds) = some (.int ds.length) := (rfl)
theorem len_t : dLen (.tup ds) = some (.int ds.length) := (rfl)
theorem len_scr {l : List Int} : dLen (.scr l) = some (.int l.length) := (rfl)
theorem len_s {a : Str} (h : a.length ≤ 16777216) : dLen (.str a) = some (.int a.length) := if_pos (decide_eq_true h)
theorem clen_l : cLen (some (.lst ws)) = some (.int ws.length) := (rfl)
theorem int_i : dInt1 (.int n) = some (.int n) := (rfl)
theorem int_b : dInt1 (.bl b) = some (.int (if b = true then 1 else 0)) := (rfl)
theorem min_i : dMin2 (.int n) (.int m) = some (.int (min n m)) := by
  show some (Dt.int (if m < n then m else n)) = _
  congr 2
  split <;> omega
theorem max_i : dMax2 (.int n) (.int m) = some (.int (max n m)) := by
  show some (Dt.int (if m > n then m else n)) = _
  congr 2
  split <;> omega
theorem sq_dl {mk : List Dt → Dt} {o : Dt → Option Dt} : oSeq o mk [.dat d] cs = o d := (rfl)
theorem sq_cl {mk : List Dt → Dt} {o : Dt → Option Dt} : oSeq o mk [.cel i] cs = cSeq mk cs[i]? := (rfl)
theorem csq_l {mk : List Dt → Dt} : cSeq mk (some (.lst ws)) = (dats ws).map mk := (rfl)
theorem lof_t : dListOf (.tup ds) = some (.lst ds) := (rfl)
theorem lof_l : dListOf (.lst ds) = some (.lst ds) := (rfl)
theorem tof_t : dTupOf (.tup ds) = some (.tup ds) := (rfl)
theorem tof_l : dTupOf (.lst ds) = some (.tup ds) := (rfl)
def kMeth (ok : Wv → List Cell → Bool) (o : Wv → List Wv → M Wv) (g : EvA) (env : En) (x : Wv) : M Wv := fun cs => if ok x cs = true then M.bind (g env) (fun ws => o x ws) cs else .bad
theorem s_meth {ok : Wv → List Cell → Bool} {o : Wv → List Wv → M Wv} : eMeth ok o f ga env cs = rb (f env cs) (kMeth ok o ga env) := mb _ _ _
theorem k_meth {ok : Wv → List Cell → Bool} {o : Wv → List Wv → M Wv} (h : ok u cs = true) : kMeth ok o ga env u cs = rb (ga env cs) (o u) := by
  unfold kMeth
  rw [if_pos h]
  exact mb _ _ _
theorem k_meth_str {o : Wv → List Wv → M Wv} {a : Str} : kMeth okStr o ga env (.dat (.str a)) cs = rb (ga env cs) (o (.dat (.str a))) := k_meth rfl
theorem ok_str {a : Str} : okStr (.dat (.str a)) cs = true := (rfl)
theorem ok_lst (h : cs[i]? = some (.lst ws)) : okLst (.cel i) cs = true := by
  unfold okLst
  dsimp only
  rw [h]
theorem mt_str1 {kk : Str → Str → Option Dt} {a b : Str} : oStr1 kk (.dat (.str a)) [.dat (.str b)] cs = rO (kk a b) cs := rO_map _
theorem mt_join {a : Str} : oJoin (.dat (.str a)) [.dat (.lst ds)] cs = rO (kJoin a ds) cs := rO_map _
theorem append_of (h : cs[i]? = some (.lst ws)) (hl : ws.length < 16777216) : oAppend (.cel i) [u] cs = .ok (.dat .non) (cs.set i (.lst (ws ++ [u]))) := by
  unfold oAppend
  dsimp only
  rw [h]
  dsimp only
  rw [if_pos (decide_eq_true hl)]
theorem d_I0 {gI : Int → Int → Dt} : dI0 gI (.int n) (.int m) = some (gI n m) := (rfl)
theorem d_mod {gI : Int → Int → Dt} (h : 0 < m) : dI cMod gI (.int n) (.int m) = some (gI n m) := if_pos (decide_eq_true h)
theorem d_div {gI : Int → Int → Dt} (h : 0 < m) (h2 : m < 1073741824) : dI cDiv gI (.int n) (.int m) = some (gI n m) := if_pos (by unfold cDiv; simp only [Bool.and_eq_true, decide_eq_true_eq]; exact ⟨h, h2⟩)
theorem d_pow {gI : Int → Int → Dt} (h : 0 ≤ m) (h2 : m ≤ 1000000) (h3 : -18446744073709551616 < n) (h4 : n < 18446744073709551616) : dI cPow gI (.int n) (.int m) = some (gI n m) := if_pos (by unfold cPow; simp only [Bool.and_eq_true, decide_eq_true_eq]; exact ⟨⟨h, h2⟩, by omega⟩)
theorem d_shr {gI : Int → Int → Dt} (h : 0 ≤ m) : dI cShr gI (.int n) (.int m) = some (gI n m) := if_pos (decide_eq_true h)
theorem d_neg : dNeg (.int n) = some (.int (-n)) := (rfl)
theorem d_mulL (h : -18446744073709551616 < n) (h2 : n < 18446744073709551616) : dMul (.int n) (.int m) = some (.int (n * m)) := by
  unfold dMul dI
  dsimp only
  rw [if_pos (by unfold cMul; simp only [Bool.and_eq_true, Bool.or_eq_true, decide_eq_true_eq]; exact .inl ⟨h, h2⟩)]
  rfl
theorem d_mulR (h : -18446744073709551616 < m) (h2 : m < 18446744073709551616) : dMul (.int n) (.int m) = some (.int (n * m)) := by
  unfold dMul dI
  dsimp only
  rw [if_pos (by unfold cMul; simp only [Bool.and_eq_true, Bool.or_eq_true, decide_eq_true_eq]; exact .inr ⟨h, h2⟩)]
  rfl
theorem d_mulS {a : Str} (h : 0 ≤ n) (h2 : n ≤ 16777216) (h3 : a.length * n.toNat ≤ 16777216) : dMul (.str a) (.int n) = some (.str (Txt.mul a n)) := by
  show (dMulS (.str a) (.int n)).or _ = _
  unfold dMulS
  dsimp only
  rw [if_pos (by simp only [Bool.and_eq_true, decide_eq_true_eq]; exact ⟨⟨h, h2⟩, decide_eq_true h3⟩)]
  rfl
theorem d_addI : dAdd (.int n) (.int m) = some (.int (n + m)) := (rfl)
theorem d_addS {a b : Str} (h : a.length + b.length ≤ 16777216) : dAdd (.str a) (.str b) = some (.str (a ++ b)) := by
  show (dAddS (.str a) (.str b)).or _ = _
  unfold dAddS
  dsimp only
  rw [if_pos (show szOk _ = true from decide_eq_true h)]
  rfl
theorem d_addL (h : ds.length + es.length ≤ 16777216) : dAdd (.lst ds) (.lst es) = some (.lst (ds ++ es)) := by
  show (dAddL (.lst ds) (.lst es)).or _ = _
  unfold dAddL
  dsimp only
  rw [if_pos (show szOk _ = true from decide_eq_true h)]
  rfl
theorem d_addT (h : ds.length + es.length ≤ 16777216) : dAdd (.tup ds) (.tup es) = some (.tup (ds ++ es)) := by
  show dAddT (.tup ds) (.tup es) = _
  unfold dAddT
  dsimp only
  rw [if_pos (show szOk _ = true from decide_eq_true h)]
def kSeq (g : Sv) (fl : Fl) : M Fl := match fl with
  | .nx env => g env
  | fl => M.ret fl
theorem s_seq : sSeq s t env cs = rb (s env cs) (kSeq t) := by
  unfold sSeq
  rw [mb]
  congr 1
  funext fl
  cases fl <;> rfl
theorem k_seq_nx : kSeq t (.nx env) cs = t env cs := (rfl)
theorem k_seq_rt : kSeq t (.rt w) cs = .ok (.rt w) cs := (rfl)
theorem k_seq_bk : kSeq t (.bk env) cs = .ok (.bk env) cs := (rfl)
theorem k_seq_ct : kSeq t (.ct env) cs = .ok (.ct env) cs := (rfl)
theorem s_nil : sNil env cs = .ok (.nx env) cs := (rfl)
def kRet (w : Wv) : M Fl := M.ret (.rt w)
theorem s_ret : sRet f env cs = rb (f env cs) kRet := mb _ _ _
theorem k_ret : kRet w cs = .ok (.rt w) cs := (rfl)
theorem s_retn : sRetN env cs = .ok (.rt (.dat .non)) cs := (rfl)
theorem s_brk : sBreak env cs = .ok (.bk env) cs := (rfl)
theorem s_cnt : sCont env cs = .ok (.ct env) cs := (rfl)
def kExpr (env : En) (_ : Wv) : M Fl := M.ret (.nx env)
theorem s_expr : sExpr f env cs = rb (f env cs) (kExpr env) := mb _ _ _
theorem k_expr : kExpr env w cs = .ok (.nx env) cs := (rfl)
def kSIf (s t : Sv) (env : En) (b : Bool) : M Fl := if b = true then s env else t env
theorem s_sif : sIf p s t env cs = rb (p env cs) (kSIf s t env) := mb _ _ _
theorem k_sif : kSIf s t env b cs = if b = true then s env cs else t env cs := by unfold kSIf; cases b <;> rfl
def kSet (i : Nat) (env : En) (w : Wv) : M Fl := M.ret (.nx (env.set i (some w)))
theorem s_set : sSet i f env cs = rb (f env cs) (kSet i env) := mb _ _ _
theorem k_set : kSet i env w cs = .ok (.nx (env.set i (some w))) cs := (rfl)
def kAsg (t : Tg) (env : En) (w : Wv) : M Fl := M.bind (M.opt (t w env)) fun env' => M.ret (.nx env')
def rE (o : Option En) (cs : List Cell) : R Fl := match o with
  | some env => .ok (.nx env) cs
  | none => .bad
theorem s_asg {t : Tg} : sAsg t f env cs = rb (f env cs) (kAsg t env) := mb _ _ _
theorem k_asg {t : Tg} : kAsg t env w cs = rE (t w env) cs := by
  unfold kAsg
  rw [mb]
  cases t w env <;> rfl
theorem rE_some : rE (some env) cs = .ok (.nx env) cs := (rfl)
theorem t_name : tName i w env = some (env.set i (some w)) := (rfl)
theorem t_tup {n : Nat} {tu : Tgs} (h : ds.length = n) : tTupG n tu (.dat (.tup ds)) env = tu ds env := (if_pos h)
theorem t_cons {tu : Tgs} : tgCons (tName i) tu (d :: ds) env = tu ds (env.set i (some (.dat d))) := (rfl)
theorem t_nil : tgNil [] env = some env := (rfl)
def kPar (i j : Nat) (env : En) (ws : List Wv) : M Fl := match ws with
  | [a, b] => M.ret (.nx ((env.set i (some a)).set j (some b)))
  | _ => M.bad
theorem s_par : sPar i j ga env cs = rb (ga env cs) (kPar i j env) := mb _ _ _
theorem k_par : kPar i j env [u, v] cs = .ok (.nx ((env.set i (some u)).set j (some v))) cs := (rfl)
def kPar3 (i j l : Nat) (env : En) (ws : List Wv) : M Fl := match ws with
  | [a, b, c] => M.ret (.nx (((env.set i (some a)).set j (some b)).set l (some c)))
  | _ => M.bad
theorem s_par3 : sPar3 i j l ga env cs = rb (ga env cs) (kPar3 i j l env) := mb _ _ _
theorem k_par3 : kPar3 i j l env [u, v, w] cs = .ok (.nx (((env.set i (some u)).set j (some v)).set l (some w))) cs := (rfl)
theorem s_raise : sRaise e env cs = .exc ⟨e, []⟩ cs := (rfl)
def kPut (fo fi : Ev) (env : En) (w : Wv) : M Fl := M.bind (fo env) fun x => M.bind (fi env) fun y => M.bind (mPut x y w) fun _ => M.ret (.nx env)
def kPut2 (fi : Ev) (env : En) (w x : Wv) : M Fl := M.bind (fi env) fun y => M.bind (mPut x y w) fun _ => M.ret (.nx env)
def kPut3 (env : En) (w x y : Wv) : M Fl := M.bind (mPut x y w) fun _ => M.ret (.nx env)
def kPut4 (env : En) (_ : Unit) : M Fl := M.ret (.nx env)
theorem s_put {fo fi : Ev} : sPut fo fi f env cs = rb (f env cs) (kPut fo fi env) := mb _ _ _
theorem k_put {fo fi : Ev} : kPut fo fi env w cs = rb (fo env cs) (kPut2 fi env w) := mb _ _ _
theorem k_put2 {fi : Ev} : kPut2 fi env w u cs = rb (fi env cs) (kPut3 env w u) := mb _ _ _
theorem k_put3 : kPut3 env w u v cs = rb (mPut u v w cs) (kPut4 env) := mb _ _ _
theorem k_put4 {un : Unit} : kPut4 env un cs = .ok (.nx env) cs := (rfl)
theorem put_is {kw : List (Key × Wv)} {ky : Key} (h : cs[i]? = some (.dic kw)) (hk : keyOf y = some ky) (hl : kw.length < 16777216) : mPut (.cel i) (.dat y) w cs = .ok () (cs.set i (.dic (putW kw ky w))) := by
  unfold mPut
  dsimp only
  rw [h, hk]
  dsimp only
  rw [if_pos (decide_eq_true hl)]
def kFor (t : Tg) (b : Sv) (env : En) (ws : List Wv) : M Fl := loopS t b ws env
theorem s_for {fi : EvI} {t : Tg} {b : Sv} : sFor fi t b env cs = rb (fi env cs) (kFor t b env) := mb _ _ _
theorem k_for {t : Tg} {b : Sv} : kFor t b env ws cs = loopS t b ws env cs := (rfl)
theorem s_while {μ : En → List Cell → Nat} {c : EvT} {b : Sv} : sWhile μ c b env cs = loopW c b (μ env cs) env cs := (rfl)
theorem s_iseq : iSeq f env cs = rb (f env cs) asSeq := mb _ _ _
theorem as_l : asSeq (.dat (.lst ds)) cs = .ok (ds.map .dat) cs := (rfl)
theorem as_t : asSeq (.dat (.tup ds)) cs = .ok (ds.map .dat) cs := (rfl)
theorem as_s {a : Str} : asSeq (.dat (.str a)) cs = .ok (signs a) cs := (rfl)
theorem as_scr {l : List Int} : asSeq (.dat (.scr l)) cs = .ok (l.map fun i => .dat (.int i)) cs := (rfl)
theorem s_rg1 : iRg1 ga env cs = rb (ga env cs) asR1 := mb _ _ _
theorem s_rg2 : iRg2 ga env cs = rb (ga env cs) asR2 := mb _ _ _
theorem k_rg1 (h : -4611686018427387904 ≤ n) (h2 : n < 4611686018427387904) : asR1 [.dat (.int n)] cs = .ok (rangeW 0 n.toNat) cs := by
  unfold asR1
  dsimp only
  rw [if_pos (by unfold okR; simp only [Bool.and_eq_true, decide_eq_true_eq]; exact ⟨h, h2⟩)]
  rfl
theorem k_rg2 (h : -4611686018427387904 ≤ n) (h2 : n < 4611686018427387904) (h3 : -4611686018427387904 ≤ m) (h4 : m < 4611686018427387904) : asR2 [.dat (.int n), .dat (.int m)] cs = .ok (rangeW n (m - n).toNat) cs := by
  unfold asR2
  dsimp only
  rw [if_pos (by unfold okR; simp only [Bool.and_eq_true, decide_eq_true_eq]; exact ⟨⟨h, h2⟩, h3, h4⟩)]
  rfl
theorem s_enum : iEnumE ga env cs = rb (ga env cs) asEnum := mb _ _ _
theorem k_enum_l : asEnum [.dat (.lst ds)] cs = .ok (enumW ds) cs := (rfl)
theorem k_enum_s {a : Str} : asEnum [.dat (.str a)] cs = .ok (enumW (signD a)) cs := (rfl)
theorem s_zip : iZipE ga env cs = rb (ga env cs) asZip := mb _ _ _
theorem k_zip_l : asZip [.dat (.lst ds), .dat (.lst es)] cs = .ok (zipW ds es) cs := (rfl)
theorem k_zip_lt : asZip [.dat (.lst ds), .dat (.tup es)] cs = .ok (zipW ds es) cs := (rfl)
theorem k_zip_tl : asZip [.dat (.tup ds), .dat (.lst es)] cs = .ok (zipW ds es) cs := (rfl)
theorem k_zip_t : asZip [.dat (.tup ds), .dat (.tup es)] cs = .ok (zipW ds es) cs := (rfl)
theorem k_zip_s {a b : Str} : asZip [.dat (.str a), .dat (.str b)] cs = .ok (zipW (signD a) (signD b)) cs := (rfl)
def kOf (ws : List Wv) : M Wv := M.bind (mDats ws) fun ds => M.ret (.dat (.lst ds))
def rD (o : Option (List Dt)) (cs : List Cell) : R Wv := match o with
  | some ds => .ok (.dat (.lst ds)) cs
  | none => .bad
theorem s_off {f : EvF} : eOfF f env cs = rb (f env cs) kOf := mb _ _ _
theorem k_of : kOf ws cs = rD (dats ws) cs := by
  unfold kOf mDats rD
  rw [mb]
  cases dats ws <;> rfl
theorem rD_some : rD (some ds) cs = .ok (.dat (.lst ds)) cs := (rfl)
theorem dats_mapd : ∀ ds : List Dt, dats (ds.map Wv.dat) = some ds
  | [] => rfl
  | d :: ds => by simp [dats, dats_mapd ds]
def kLc (t : Tg) (p : EvT) (f : Ev) (vs : List Nat) (env : En) (ws : List Wv) : M (List Wv) := if szOk ws.length = true then loopC t p f (wipeE env vs) ws else M.bad
theorem s_flc {gi : EvI} {t : Tg} {is : List Nat} : fLc gi t p f is env cs = rb (gi env cs) (kLc t p f is env) := mb _ _ _
theorem k_lc {t : Tg} {is : List Nat} (h : ws.length ≤ 16777216) : kLc t p f is env ws cs = loopC t p f (wipeE env is) ws cs := by
  unfold kLc
  rw [if_pos (show szOk _ = true from decide_eq_true h)]
theorem wipe_nil : wipeE env [] = env := (rfl)
theorem wipe_cons {is : List Nat} : wipeE env (i :: is) = (wipeE env is).set i none := (rfl)
def kCelF (ws : List Wv) : M Wv := mCell (.lst ws)
theorem s_celf {f : EvF} : eCelF f env cs = rb (f env cs) kCelF := mb _ _ _
theorem k_celf : kCelF ws cs = .ok (.cel cs.length) (cs ++ [.lst ws]) := (rfl)
def kFLst (ws : List Wv) : M (List Wv) := if szOk ws.length = true then M.ret ws else M.bad
theorem s_flst : fLst ga env cs = rb (ga env cs) kFLst := mb _ _ _
theorem k_flst (h : ws.length ≤ 16777216) : kFLst ws cs = .ok ws cs := by
  unfold kFLst
  rw [if_pos (show szOk _ = true from decide_eq_true h)]
  rfl
theorem k_fin_rt : fin (.rt w) cs = .ok w cs := (rfl)
theorem k_fin_nx : fin (.nx env) cs = .ok (.dat .non) cs := (rfl)
theorem fn_ev {n : Nat} {R' : R Wv} (h : rb (s (startE n ws) cs) fin = R') : fnOf n s ws cs = R' := by
  rw [← h]
  exact mb _ _ _
theorem start_nil {n : Nat} : startE n [] = List.replicate n none := by simp [startE]
theorem start_cons {n : Nat} : startE (n + 1) (w :: ws) = some w :: startE n ws := by
  simp [startE]
theorem repl_0 : List.replicate 0 (none : Option Wv) = [] := (rfl)
theorem repl_S {n : Nat} : List.replicate (n + 1) (none : Option Wv) = none :: List.replicate n none := (rfl)
theorem s_caught {L : List (Str × Addr)} : eCaught L f env cs = mCaught L (f env) cs := (rfl)
theorem caught_ok {L : List (Str × Addr)} {mm : M Wv} (h : mm cs = .ok w cs1) : mCaught L mm cs = .ok (.dat .non) cs1 := by
  unfold mCaught
  rw [h]
end
end DX
namespace DX
variable [TabT]
open PySem PySem.Spec PyProof.Rows L2
/-- what is asked of a law's classes -/
structure Ax where
  K : Frag
  A : Nat → Addr
  L : List (Str × Addr)
  M : Nat → Nat → Nat → LamK
section
variable {K : Frag} {mg : MG} {ω : Wo} {H : Hp} {cs : List Cell}
theorem Ok.frz {i : Nat} {a : Addr} {o : HO} (k : Ok K ω H cs) (e : ω.ad[i]? = some a) (hn : ω.Hs a = none ∧ ω.fr a = none) (hH : H a = some o) (hp : NoTbl o) : Ok K (ω.froze a o) H (cs.set i .dead) := by
  have le : Le ω (ω.froze a o) := ⟨Ex.new hn.1, List.prefix_refl _, rfl, rfl⟩
  refine ⟨fun b u hb => ?_, by rw [List.length_set]; exact k.len, k.nd, fun j b c e1 e2 => ?_, k.tab, k.frx, fun b u hb => ?_, fun b u hb => ?_, k.nf, k.lk⟩
  · have hb : upd ω.Hs a o b = some u := hb
    by_cases h : b = a
    · subst h
      rw [upd_same] at hb
      exact hH.trans hb
    · rw [upd_ne h] at hb
      exact k.ex b u hb
  · by_cases hj : i = j
    · subst hj
      have e1 : ω.ad[i]? = some b := e1
      rw [e] at e1
      cases e1
      have hl : i < cs.length := by
        rw [k.len]
        exact (List.getElem?_eq_some_iff.mp e).1
      rw [List.getElem?_set_self hl] at e2
      cases e2
      exact ⟨o, upd_same⟩
    · rw [List.getElem?_set_ne hj] at e2
      have q := k.cel j b c e1 e2
      have ne : b ≠ a := fun z => by
        subst z
        obtain ⟨h1, g1⟩ := List.getElem?_eq_some_iff.mp e
        obtain ⟨h2, g2⟩ := List.getElem?_eq_some_iff.mp e1
        exact hj ((List.getElem_inj k.nd).mp (g1.trans g2.symm))
      exact q.mono le (fun z => by show upd _ _ _ b = none; rw [upd_ne ne]; exact z) fun u z => z
  · show upd _ _ _ b = none
    have hb : ω.fr b = some u := hb
    rw [upd_ne (fun z => by rw [z, hn.2] at hb; cases hb)]
    exact k.dj b u hb
  · have hb : upd ω.Hs a o b = some u := hb
    by_cases h : b = a
    · subst h
      rw [upd_same] at hb
      cases hb
      exact hp
    · rw [upd_ne h] at hb
      exact k.nt b u hb
/-- fields that are data -/
def datF : List (Str × Wv) → Option (List (Str × Dt))
  | [] => some []
  | (k, .dat d) :: ws => (datF ws).map ((k, d) :: ·)
  | (_, .cel _) :: _ => none
theorem RepWf.dats : ∀ {vs : List (Str × V)} {ws : List (Str × Wv)} {ds : List (Str × Dt)}, RepWf K ω vs ws → datF ws = some ds → RepF K ω.Hs vs ds
  | _, [], _, h, e => by
    cases h
    simp [datF] at e
    subst e
    exact .nil
  | _, (k, .dat d) :: ws, _, h, e => by
    cases h with
    | cons h1 h2 =>
      simp [datF] at e
      obtain ⟨es, e1, rfl⟩ := e
      exact .cons h1 (RepWf.dats h2 e1)
  | _, (k, .cel j) :: ws, _, h, e => by simp [datF] at e
def datT : List (List Key × Wv) → Option (List (List Key × Dt))
  | [] => some []
  | (k, .dat d) :: l => (datT l).map ((k, d) :: ·)
  | (_, .cel _) :: _ => none
theorem RepWt.datT {K : Frag} {ω : Wo} : ∀ {vs : List (List Key × V)} {ws : List (List Key × Wv)} {ds : List (List Key × Dt)}, RepWt K ω vs ws → datT ws = some ds → RepT K ω.Hs vs ds
  | _, [], _, h, e => by cases h; cases e; exact .nil
  | _, (k, .dat d) :: ws, _, h, e => by
    cases h with
    | cons h1 h2 =>
      have e : (DX.datT ws).map ((k, d) :: ·) = some _ := e
      cases q : DX.datT ws with
      | none => rw [q] at e; cases e
      | some es =>
        rw [q] at e
        cases e
        exact .cons h1 (h2.datT q)
  | _, (k, .cel _) :: ws, _, h, e => by cases e
def cFrz : Option Cell → Option Dt
  | some (.lst ws) => (dats ws).map .lst
  | some (.dic ws) => (datK ws).map .dic
  | some (.ins C ws) => (datF ws).map (.obj C)
  | some (.dit false ws) => (datT ws).map .dit
  | _ => none
def mFrz (w : Wv) : M Wv := fun cs => match w with
  | .dat d => .ok (.dat d) cs
  | .cel k => match cFrz cs[k]? with
    | some d => .ok (.dat d) (cs.set k .dead)
    | none => .bad
theorem frz_use {E : XK} {v : V} {w : Wv} {F : Wv → Wo → List Cell → Hp → Prop} (k : Ok K ω H cs) (r : RepW K ω v w) (h : Out K mg E ω (mFrz w cs) F) : ∃ w' ω' cs', Le ω ω' ∧ Ok K ω' H cs' ∧ RepW K ω' v w' ∧ F w' ω' cs' H := by
  cases w with
  | dat d => exact ⟨_, ω, cs, Le.refl _, k, r, h.now k⟩
  | cel i =>
    obtain ⟨a, e1, rfl⟩ := r
    cases hc : cs[i]? with
    | none => unfold mFrz at h; dsimp only at h; rw [hc] at h; exact (show False from h).elim
    | some c =>
      have q := k.cel i a c e1 hc
      have key : ∀ (o : HO) (d : Dt), cFrz (some c) = some d → (ω.Hs a = none ∧ ω.fr a = none) → H a = some o → NoTbl o → RepD K (ω.froze a o).Hs (.ref a) d → ∃ w' ω' cs', Le ω ω' ∧ Ok K ω' H cs' ∧ RepW K ω' (.ref a) w' ∧ F w' ω' cs' H := fun o d ed hn hH hp rd => by
        unfold mFrz at h
        dsimp only at h
        rw [hc, ed] at h
        have ok := k.frz e1 hn hH hp
        exact ⟨.dat d, ω.froze a o, cs.set i .dead, ⟨Ex.new hn.1, List.prefix_refl _, rfl, rfl⟩, ok, rd, h _ H ⟨Ex.new hn.1, List.prefix_refl _, rfl, rfl⟩ ok⟩
      have bad : cFrz (some c) = none → ∃ w' ω' cs', Le ω ω' ∧ Ok K ω' H cs' ∧ RepW K ω' (.ref a) w' ∧ F w' ω' cs' H := fun e => by
        unfold mFrz at h
        dsimp only at h
        rw [hc, e] at h
        exact (show False from h).elim
      cases c with
      | lst ws =>
        obtain ⟨hn, vs, h1, h2⟩ := q
        cases ed : dats ws with
        | none => exact bad (by show (dats ws).map Dt.lst = none; rw [ed]; rfl)
        | some ds =>
          refine key _ (.lst ds) (by show (dats ws).map Dt.lst = _; rw [ed]; rfl) hn h1 True.intro (.lst upd_same ?_)
          exact (h2.dats ed).mono (Ex.new hn.1) _ _
      | dic ws =>
        obtain ⟨hn, vs, h1, h2⟩ := q
        cases ed : datK ws with
        | none => exact bad (by show (datK ws).map Dt.dic = none; rw [ed]; rfl)
        | some ds =>
          refine key _ (.dic ds) (by show (datK ws).map Dt.dic = _; rw [ed]; rfl) hn h1 True.intro (.dic upd_same ?_)
          exact (h2.datK ed).mono (Ex.new hn.1) _ _
      | ins C ws =>
        obtain ⟨⟨hn, hc⟩, dx, vs, h1, h2⟩ := q
        cases ed : datF ws with
        | none => exact bad (by show (datF ws).map (Dt.obj C) = none; rw [ed]; rfl)
        | some ds =>
          refine key _ (.obj C ds) (by show (datF ws).map (Dt.obj C) = _; rw [ed]; rfl) hn h1 True.intro (.obj upd_same hc ?_)
          exact (h2.dats ed).mono (Ex.new hn.1) _ _
      | dead => exact bad rfl
      | lck ws => exact bad rfl
      | dit b ws =>
        cases b with
        | true => exact bad rfl
        | false =>
          obtain ⟨hn, vs, h1, h2⟩ := q
          rcases h1 with ⟨_, h1⟩ | ⟨z, _⟩
          · cases ed : datT ws with
            | none => exact bad (by show (datT ws).map Dt.dit = none; rw [ed]; rfl)
            | some ds =>
              refine key _ (.dit ds) (by show (datT ws).map Dt.dit = _; rw [ed]; rfl) hn h1 True.intro (.dit upd_same ?_)
              exact (h2.datT ed).mono (Ex.new hn.1) _ _
          · cases z
end
def eFrz (f : Ev) : Ev := fun env => M.bind (f env) mFrz
section
variable {X : Cx} {E : XK} {e : Expr} {f : Ev}
theorem ev_frz (h : EV X E e f) : EV X E e (eFrz f) := PE.imp h fun σ H Q ⟨env, cs, ω, hs, hk, h⟩ => ⟨env, cs, ω, hs, hk, h.bind.imp fun w ω1 cs1 H1 l1 k1 h1 v rv => by
  obtain ⟨w', ω', cs', l, ok, r, q⟩ := frz_use k1 rv h1
  exact q v r⟩
end
def kNew (fz : Bool) (k : Nat) (w : Wv) : M Wv := match w with
  | .dat .non => if fz = true then mFrz (.cel k) else M.ret (.cel k)
  | _ => M.bad
/-- a new instance: a cell while __init__ runs, frozen behind it or not -/
def mNew (fz : Bool) (C : Addr) (m : Fn) (ws : List Wv) : M Wv := fun cs => M.bind (m (.cel cs.length :: ws)) (kNew fz cs.length) (cs ++ [.ins C []])
def eNew (fz : Bool) (C : Addr) (n : Nat) (m : Fn) (g : EvA) : Ev := fun env => M.bind (g env) fun ws => if ws.length + 1 = n then mNew fz C m ws else M.bad
def putFW (f : Str) (w : Wv) : List (Str × Wv) → List (Str × Wv)
  | [] => [(f, w)]
  | (g, x) :: r => if g = f then (g, w) :: r else (g, x) :: putFW f w r
theorem RepWf.put {K : Frag} {ω : Wo} {f : Str} {v : V} {w : Wv} {vs : List (Str × V)} {ws : List (Str × Wv)} (r : RepWf K ω vs ws) (h : RepW K ω v w) : RepWf K ω (putF f v vs) (putFW f w ws) := by
  induction r with
  | nil => exact .cons h .nil
  | @cons k v' vs w' ws h1 h2 ih =>
    unfold putF putFW
    by_cases e : k = f
    · rw [if_pos e, if_pos e]
      exact .cons h h2
    · rw [if_neg e, if_neg e]
      exact .cons h1 ih
theorem RepWf.lookup {K : Frag} {ω : Wo} {f : Str} {w : Wv} : ∀ {vs : List (Str × V)} {ws : List (Str × Wv)}, RepWf K ω vs ws → ws.lookup f = some w → ∃ v, vs.lookup f = some v ∧ RepW K ω v w
  | _, _, .nil, e => by simp at e
  | _, _, .cons (k := k) h1 h2, e => by
    rw [List.lookup_cons] at e ⊢
    cases hk : f == k with
    | true => rw [hk] at e; cases e; exact ⟨_, rfl, h1⟩
    | false => rw [hk] at e; exact RepWf.lookup h2 e
theorem RepF.lookup {K : Frag} {H : Hp} {f : Str} {d : Dt} : ∀ {vs : List (Str × V)} {ds : List (Str × Dt)}, RepF K H vs ds → ds.lookup f = some d → ∃ v, vs.lookup f = some v ∧ RepD K H v d
  | _, [], h, e => by simp at e
  | _, (k, d0) :: ds, h, e => by
    cases h with
    | cons h1 h2 =>
      rw [List.lookup_cons] at e ⊢
      cases hk : f == k with
      | true => rw [hk] at e; cases e; exact ⟨_, rfl, h1⟩
      | false => rw [hk] at e; exact RepF.lookup h2 e
theorem RepWf.len {K : Frag} {ω : Wo} {vs : List (Str × V)} {ws : List (Str × Wv)} (r : RepWf K ω vs ws) : vs.length = ws.length := by
  induction r with
  | nil => rfl
  | cons _ _ ih => simp [ih]
def cFld (C : Addr) (f : Str) : Option Cell → Option Wv
  | some (.ins D l) => if D = C then l.lookup f else none
  | _ => none
def wFld (C : Addr) (f : Str) (cs : List Cell) : Wv → Option Wv
  | .dat (.obj D l) => if D = C then (l.lookup f).map .dat else none
  | .cel k => cFld C f cs[k]?
  | _ => none
def mFld (C : Addr) (f : Str) (w : Wv) : M Wv := fun cs => M.opt (wFld C f cs w) cs
def eFld (C : Addr) (f : Str) (o : Ev) : Ev := fun env => M.bind (o env) (mFld C f)
def mPutF (C : Addr) (f : Str) (o w : Wv) : M Unit := fun cs => match o with
  | .cel k => match cs[k]? with
    | some (.ins D l) => if D = C ∧ l.length < 1000 then .ok () (cs.set k (.ins C (putFW f w l))) else .bad
    | _ => .bad
  | _ => .bad
def sPutF (C : Addr) (f : Str) (o v : Ev) : Sv := fun env => M.bind (v env) fun w => M.bind (o env) fun x => M.bind (mPutF C f x w) fun _ => M.ret (.nx env)
end DX
namespace DX
variable [TabT]
open PySem PySem.Spec PyProof.Rows L2
/-- built-in classes: an own instance is of none -/
def tysOf : List Dt → Option (List String)
  | [] => some []
  | .op (.ty m) :: l => if allTy.contains m = true then (tysOf l).map (m :: ·) else none
  | _ :: _ => none
def dIsiO : Dt → Dt → Option Dt
  | .obj _ _, .op (.ty m) => if allTy.contains m = true then some (.bl false) else none
  | .obj _ _, .tup l => (tysOf l).map fun _ => .bl false
  | _, _ => none
def oIsi : List Wv → List Cell → Option Dt := fun ws cs => (o2 dIsi ws cs).or (o2 dIsiO ws cs)
section
variable {K : Frag}
theorem tysOf_of {K : Frag} {ω : Wo} {D : Addr} (hc : OwnC K D) : ∀ {us : List V} {ys : List Dt} {ms : List String}, RepL K ω.Hs us ys → tysOf ys = some ms → ∃ cls, Paired ClsV us cls ∧ PySem.W.kitAny K (.ref D) cls = some false
  | _, [], _, h, e => by cases h; exact ⟨[], .nil, rfl⟩
  | _, y :: ys, _, h, e => by
    cases h with
    | cons h1 h2 =>
      cases y with
      | op v =>
        cases v with
        | ty m =>
          have e : (if allTy.contains m = true then (tysOf ys).map (m :: ·) else none) = some _ := e
          by_cases hm : allTy.contains m = true
          · rw [if_pos hm] at e
            cases q : tysOf ys with
            | none => rw [q] at e; cases e
            | some ns =>
              obtain ⟨cls, q1, q2⟩ := tysOf_of hc h2 q
              cases h1
              exact ⟨_ :: cls, .cons (.ty m) q1, kitAny_cons (hc.kt m (by simpa [allTy] using hm)) (fun _ => q2) fun z => nomatch z⟩
          · rw [if_neg hm] at e
            cases e
        | _ => cases e
      | _ => cases e
theorem co_isiO : CallO K (fun xs H Q => rIsi K xs H Q ∨ (rIsiT K xs H Q ∨ rIsiK K xs H Q)) (o2 dIsiO) := fun ω H cs vs ws z k rv e Q q => by
  obtain ⟨x, y, rfl, e1⟩ := o2_of e
  obtain ⟨v, u, rfl, r, r'⟩ := rv.two
  cases x with
  | obj D l =>
    cases r with
    | obj g1 hc g2 =>
      have ty : TyX K H _ (.ref D) := .base (.ins (k.ex _ _ g1) hc.cl hc.ha hc.hn hc.ht hc.hm)
      cases y with
      | op w =>
        cases w with
        | ty m =>
          have e1 : (if allTy.contains m = true then some (Dt.bl false) else none) = some z := e1
          by_cases hm : allTy.contains m = true
          · rw [if_pos hm] at e1
            cases e1
            cases r'
            exact .inl ⟨_, _, _, _, false, rfl, .ty m, ty, hc.kt m (by simpa [allTy] using hm), q ω H _ (Le.refl _) k (.bl _)⟩
          · rw [if_neg hm] at e1
            cases e1
        | _ => cases e1
      | tup l =>
        have e1 : (tysOf l).map (fun _ => Dt.bl false) = some z := e1
        cases ht : tysOf l with
        | none => rw [ht] at e1; cases e1
        | some ms =>
          rw [ht] at e1
          cases e1
          cases r' with
          | tup h1 h2 =>
            obtain ⟨cls, q1, q2⟩ := tysOf_of hc h2 ht
            have h := (ex_t k.ex h1).at_
            exact .inr (.inl ⟨_, _, _, _, cls, false, rfl, h, q1, ty, q2, q ω H _ (Le.refl _) k (.bl _)⟩)
      | _ => cases e1
  | _ => cases e1
theorem co_isi2 : CallO K (fun xs H Q => (rIsi K xs H Q ∨ (rIsiT K xs H Q ∨ rIsiK K xs H Q)) ∨ (rIsi K xs H Q ∨ (rIsiT K xs H Q ∨ rIsiK K xs H Q))) oIsi := CallO.or co_isi co_isiO
end
def oExtend (x : Wv) (ws : List Wv) : M Wv := fun cs => match x, ws with
  | .cel k, [.dat (.lst ds)] => match cs[k]? with
    | some (.lst l) => if decide (l.length + ds.length ≤ 16777216) = true then .ok (.dat .non) (cs.set k (.lst (l ++ ds.map .dat))) else .bad
    | _ => .bad
  | _, _ => .bad
def rangeD (lo : Int) (n : Nat) : List Dt := (List.range n).map fun (i : Nat) => .int (lo + i)
def kRgL1 (mk : List Dt → Dt) : Wv → M Wv
  | .dat (.int j) => if (okR j && decide (j.toNat ≤ 16777216)) = true then M.ret (.dat (mk (rangeD 0 j.toNat))) else M.bad
  | _ => M.bad
def kRgL2 (mk : List Dt → Dt) : Wv → Wv → M Wv
  | .dat (.int i), .dat (.int j) => if (okR i && okR j && decide ((j - i).toNat ≤ 16777216)) = true then M.ret (.dat (mk (rangeD i (j - i).toNat))) else M.bad
  | _, _ => M.bad
def eRgL1 (mk : List Dt → Dt) (f : Ev) : Ev := fun env => M.bind (f env) (kRgL1 mk)
def eRgL2 (mk : List Dt → Dt) (f g : Ev) : Ev := fun env => M.bind (f env) fun x => M.bind (g env) fun y => kRgL2 mk x y
section
variable {X : Cx} {E : XK} {a b e : Expr} {f g : Ev} {ga : EvA} {p p2 pos pos2 apos cpos : Pos}
theorem b_isi2 {e2 : Expr} (hg : Gl X "isinstance") (hm : X.mg "isinstance" = none) (ha : EVA X E [e, e2] ga) (he : starEach [e, e2] X.env = (false, eval e X.env) :: starEach [e2] X.env := by rfl) (hpl : (backTo pos (starEach [e2] X.env)).any (·.1) = false := by rfl) : EV X E (.Call (.Name "isinstance" p) [e, e2] [] pos) (eCall oIsi ga) := ev_callB (CallR.or call_isi3 call_isi3) co_isi2 hg hm boot_isinstance ha (by decide) (by decide) he hpl
end
def loopI (t1 : Tg) (p1 : EvT) (f : Ev) (env : En) : List Wv → List Wv → M (List Wv)
  | [], acc => M.ret acc
  | w :: ws, acc => M.bind (M.opt (t1 w env)) fun env' => M.bind (M.nx (p1 env')) fun b => if b = true then M.bind (M.nx (f env')) fun y => if decide (acc.length < 16777216) = true then loopI t1 p1 f env ws (acc ++ [y]) else M.bad else loopI t1 p1 f env ws acc
def loopO (t : Tg) (p : EvT) (g1 : EvI) (t1 : Tg) (p1 : EvT) (f : Ev) (vs1 : List Nat) (env : En) : List Wv → List Wv → M (List Wv)
  | [], acc => M.ret acc
  | w :: ws, acc => M.bind (M.opt (t w env)) fun env' => M.bind (M.nx (p env')) fun b => if b = true then M.bind (M.nx (g1 env')) fun ws1 => M.bind (loopI t1 p1 f (wipeE env' vs1) ws1 acc) fun acc' => loopO t p g1 t1 p1 f vs1 env ws acc' else loopO t p g1 t1 p1 f vs1 env ws acc
def fLc2 (g : EvI) (t : Tg) (p : EvT) (g1 : EvI) (t1 : Tg) (p1 : EvT) (f : Ev) (vs vs1 : List Nat) : EvF := fun env => M.bind (g env) fun ws => loopO t p g1 t1 p1 f vs1 (wipeE env vs) ws []
section
variable {X : Cx} {E : XK} {tg tg1 e e2 : Expr} {pos : Pos}
theorem lc2_use {fi fi1 : EvI} {t t1 : Tg} {ts ts1 : List Nat} {p p1 : EvT} {f : Ev} {own : List (Str × Nat)} {vs1 : List Nat} (hsub : ∀ i ∈ ts, i ∈ own.map (·.2)) (hsub1 : ∀ i ∈ ts1, i ∈ vs1) {σ : L2.St} {H : Hp} {Q : VK} (hh : tEvF X.K X.mg E (fLc2 fi t p fi1 t1 p1 f (own.map (·.2)) vs1) σ H Q) :
    tLc2 (tEvI X.K X.mg E fi) (tEvG X.K t ts) (tEvT X.K X.mg E0 p) (tEvI X.K X.mg E0 fi1) (tEvG X.K t1 ts1) (tEvT X.K X.mg E0 p1) (tEv X.K X.mg E0 f) (own.map (·.2)) vs1 σ H Q := by
  obtain ⟨env, cs, ω, hst, hk, h⟩ := hh
  refine ⟨env, cs, ω, hst, hk, h.bind.imp fun ws ω1 cs1 H1 l1 k1 h1 J wk D hD => ?_⟩
  have frD : ω1.fr D = none := k1.frx.back hD
  have hw : StRep X.K ω1 (L2.wipe σ (own.map (·.2))) (wipeE env (own.map (·.2))) := (hst.mono l1).wipe _
  -- what is known between two turns of the outer walk
  let Mid : Nat → Hp → Prop := fun i Hx => ∃ (ωi : Wo) (csi : List Cell) (aV : List V) (aW : List Wv), ωi.fr = upd ω1.fr D (.lst aV) ∧ Le ω1 (ωi.back ω1.fr) ∧ Ok X.K ωi Hx csi ∧ RepWs X.K ωi aV aW ∧
        Out X.K X.mg E (ωi.back ω1.fr) (loopO t p fi1 t1 p1 f vs1 (wipeE env (own.map (·.2))) (ws.drop i) aW csi) (fun ys ω' _ H' => ∀ q vs, H' q = none → RepWs X.K ω' vs ys → Q (.ref q) (upd H' q (.lst vs)))
  refine ⟨fun i m Hx => m = ws.length - i ∧ i ≤ ws.length ∧ Mid i Hx, ⟨_, rfl, Nat.zero_le _, ω1.keep D (.lst []), cs1, [], [], rfl, Le.refl _, k1.keep hD, .nil, by rw [List.drop_zero]; exact h1⟩, ?_⟩
  rintro i m Hx ⟨rfl, hi, ωi, csi, aV, aW, hfr, lb, kI, rA, hO⟩
  have sub : ∀ {ω' : Wo} {bV : List V}, ω'.fr = upd ω1.fr D (.lst bV) → ∀ a o, ω1.fr a = some o → ω'.fr a = some o := fun {ω' bV} l a o e => by
    rw [l, upd_ne (ne_of_none e frD)]
    exact e
  have lf : Lf ω1 ωi := ⟨lb.ex, lb.ad, lb.tb⟩
  by_cases hlt : i < ws.length
  · refine .inr ⟨wk.goes i ωi Hx csi hlt lf kI, fun Hn => ∃ m', m' < ws.length - i ∧ (m' = ws.length - (i + 1) ∧ i + 1 ≤ ws.length ∧ Mid (i + 1) Hn), fun Hn h => h, fun x Hy y => ?_⟩
    obtain ⟨ω2, l2, k2, w, ew, rw'⟩ := wk.yields i ωi Hx csi x Hy hlt lf kI y
    have ed : ws.drop i = w :: ws.drop (i + 1) := by
      obtain ⟨_, e⟩ := List.getElem?_eq_some_iff.mp ew
      rw [← e]
      exact List.drop_eq_getElem_cons hlt
    rw [ed] at hO
    have fr2 : ω2.fr = upd ω1.fr D (.lst aV) := l2.fr.trans hfr
    have hO2 := Out.le (ω := ωi.back ω1.fr) (ω' := ω2.back ω1.fr) ⟨l2.ex, l2.ad, l2.tb, rfl⟩ hO
    obtain ⟨env', et, hO3⟩ := Out.opt hO2.bind
    have k2b : Ok X.K (ω2.back ω1.fr) Hy csi := k2.back (sub fr2)
    have hO4 := hO3.now k2b
    have l12 : Le ω1 (ω2.back ω1.fr) := ⟨lb.ex.trans l2.ex, lb.ad.trans l2.ad, l2.tb.trans lb.tb, rfl⟩
    have hw2 : StRep X.K ω2 (L2.wipe σ (own.map (·.2))) (wipeE env (own.map (·.2))) := (hw.mono l12).fr ω2.fr
    refine ⟨_, csi, ω2, w, env', hw2, k2, rw', et, fun σ2 hs2 ag => ⟨wipe_agr ag hsub, ?_⟩⟩
    refine ⟨env', csi, ω2, hs2, k2, (Out.nx (hO4.bind.under (Le.refl _) (sub fr2))).imp fun b ω3 cs3 H3 l3 k3 hO5 => ?_⟩
    have l23 := l2.trans l3
    have fr3 : ω3.fr = upd ω1.fr D (.lst aV) := l23.fr.trans hfr
    have adv : ∀ {ωj : Wo}, Le ωi ωj → Le ω1 (ωj.back ω1.fr) := fun {ωj} l => ⟨lb.ex.trans l.ex, lb.ad.trans l.ad, l.tb.trans lb.tb, rfl⟩
    cases b with
    | false => exact ⟨_, by omega, rfl, hlt, ω3, cs3, aV, aW, fr3, adv l23, k3, rA.mono l23, hO5⟩
    | true =>
      refine ⟨env', cs3, ω3, hs2.mono l3, k3, (Out.nx (Out.under (ω2 := ω3) (Out.bind hO5) (Le.refl _) (sub fr3))).imp fun ws1 ω4 cs4 H4 l4 k4 hO6 J1 wk1 => ?_⟩
      have l24 := l23.trans l4
      have fr4 : ω4.fr = upd ω1.fr D (.lst aV) := l24.fr.trans hfr
      have hs4 : StRep X.K ω4 σ2 env' := hs2.mono (l3.trans l4)
      have hw4 : StRep X.K ω4 (L2.wipe σ2 vs1) (wipeE env' vs1) := hs4.wipe _
      refine ⟨fun j k Hj => k = ws1.length - j ∧ j ≤ ws1.length ∧ ∃ (ωj : Wo) (csj : List Cell) (bV : List V) (bW : List Wv), ωj.fr = upd ω1.fr D (.lst bV) ∧ Le (ω4.back ω1.fr) (ωj.back ω1.fr) ∧ Ok X.K ωj Hj csj ∧ RepWs X.K ωj bV bW ∧
          Out X.K X.mg E (ωj.back ω1.fr) (loopI t1 p1 f (wipeE env' vs1) (ws1.drop j) bW csj) (fun acc' ω' cs' _ => Out X.K X.mg E ω' (loopO t p fi1 t1 p1 f vs1 (wipeE env (own.map (·.2))) (ws.drop (i + 1)) acc' cs') (fun ys ω' _ H' => ∀ q vs, H' q = none → RepWs X.K ω' vs ys → Q (.ref q) (upd H' q (.lst vs)))),
        ⟨_, rfl, Nat.zero_le _, ω4, cs4, aV, aW, fr4, Le.refl _, k4, rA.mono l24, by rw [List.drop_zero]; exact hO6.bind⟩, ?_⟩
      rintro j k Hj ⟨rfl, hj, ωj, csj, bV, bW, hfj, lj, kJ, rB, hP⟩
      have lfj : Lf ω4 ωj := ⟨lj.ex, lj.ad, lj.tb⟩
      have adv1 : ∀ {ωk : Wo}, Le ωj ωk → Le (ω4.back ω1.fr) (ωk.back ω1.fr) := fun {ωk} l => ⟨lj.ex.trans l.ex, lj.ad.trans l.ad, l.tb.trans lj.tb, rfl⟩
      have out1 : ∀ {ωk : Wo}, Le ωj ωk → Le ω1 (ωk.back ω1.fr) := fun {ωk} l => (adv l24).trans (adv1 l)
      by_cases hjt : j < ws1.length
      · refine .inr ⟨wk1.goes j ωj Hj csj hjt lfj kJ, fun Hn => ∃ k', k' < ws1.length - j ∧ (k' = ws1.length - (j + 1) ∧ j + 1 ≤ ws1.length ∧ ∃ (ωj : Wo) (csj : List Cell) (bV : List V) (bW : List Wv), ωj.fr = upd ω1.fr D (.lst bV) ∧ Le (ω4.back ω1.fr) (ωj.back ω1.fr) ∧ Ok X.K ωj Hn csj ∧ RepWs X.K ωj bV bW ∧
          Out X.K X.mg E (ωj.back ω1.fr) (loopI t1 p1 f (wipeE env' vs1) (ws1.drop (j + 1)) bW csj) (fun acc' ω' cs' _ => Out X.K X.mg E ω' (loopO t p fi1 t1 p1 f vs1 (wipeE env (own.map (·.2))) (ws.drop (i + 1)) acc' cs') (fun ys ω' _ H' => ∀ q vs, H' q = none → RepWs X.K ω' vs ys → Q (.ref q) (upd H' q (.lst vs))))), fun Hn h => h, fun x1 Hy1 y1 => ?_⟩
        obtain ⟨ω5, l5, k5, w1, ew1, rw1⟩ := wk1.yields j ωj Hj csj x1 Hy1 hjt lfj kJ y1
        have ed1 : ws1.drop j = w1 :: ws1.drop (j + 1) := by
          obtain ⟨_, e⟩ := List.getElem?_eq_some_iff.mp ew1
          rw [← e]
          exact List.drop_eq_getElem_cons hjt
        rw [ed1] at hP
        have fr5 : ω5.fr = upd ω1.fr D (.lst bV) := l5.fr.trans hfj
        have hP2 := Out.le (ω := ωj.back ω1.fr) (ω' := ω5.back ω1.fr) ⟨l5.ex, l5.ad, l5.tb, rfl⟩ hP
        obtain ⟨env1, et1, hP4⟩ := Out.opt (Out.bind (show Out X.K X.mg E (ω5.back ω1.fr) (M.bind (M.opt (t1 w1 (wipeE env' vs1))) _ csj) _ from hP2))
        have k5b : Ok X.K (ω5.back ω1.fr) Hy1 csj := k5.back (sub fr5)
        have hP5 := hP4.now k5b
        have hw5 : StRep X.K ω5 (L2.wipe σ2 vs1) (wipeE env' vs1) := by
          have q := (hw4.fr ω1.fr).mono (ω' := ω5.back ω1.fr) (adv1 l5)
          exact q.fr ω5.fr
        refine ⟨_, csj, ω5, w1, env1, hw5, k5, rw1, et1, fun σ3 hs3 ag1 => ⟨wipe_agr ag1 hsub1, ?_⟩⟩
        refine ⟨env1, csj, ω5, hs3, k5, (Out.nx (hP5.bind.under (Le.refl _) (sub fr5))).imp fun b1 ω6 cs6 H6 l6 k6 hP6 => ?_⟩
        have l56 := l5.trans l6
        have fr6 : ω6.fr = upd ω1.fr D (.lst bV) := l56.fr.trans hfj
        cases b1 with
        | false => exact ⟨_, by omega, rfl, hjt, ω6, cs6, bV, bW, fr6, adv1 l56, k6, rB.mono l56, hP6⟩
        | true =>
          refine ⟨env1, cs6, ω6, hs3.mono l6, k6, (Out.nx (Out.under (ω2 := ω6) (Out.bind hP6) (Le.refl _) (sub fr6))).imp fun yv ω7 cs7 H7 l7 k7 hP7 v rv => ?_⟩
          have l57 := l56.trans l7
          have frE : ω7.fr = upd ω1.fr D (.lst bV) := l57.fr.trans hfj
          have hD7 : ω7.fr D = some (.lst bV) := by rw [frE, upd_same]
          have hP7 : Out X.K X.mg E (ω7.back ω1.fr) ((if decide (bW.length < 16777216) = true then loopI t1 p1 f (wipeE env' vs1) (ws1.drop (j + 1)) (bW ++ [yv]) else M.bad) cs7) _ := hP7
          by_cases hz : bW.length < 16777216
          · rw [if_pos (decide_eq_true hz)] at hP7
            exact ⟨bV, k7.frx _ _ hD7, by rw [rB.len, sizeLine_eq]; exact hz, _, by omega, rfl, hjt, ω7.back (upd ω1.fr D (.lst (bV ++ [v]))), cs7, bV ++ [v], bW ++ [yv], rfl, (show Le (ω4.back ω1.fr) (ω7.back ω1.fr) from adv1 l57), k7.swap hD7 frE, ((rB.mono l57).app (.cons rv .nil)).fr _, hP7⟩
          · rw [if_neg (by simpa using hz)] at hP7
            exact (show False from hP7).elim
      · have e : j = ws1.length := by omega
        subst e
        refine .inl ⟨wk1.stops ωj Hj csj lfj kJ, ?_⟩
        rw [List.drop_length] at hP
        have kb : Ok X.K (ωj.back ω1.fr) Hj csj := kJ.back (sub hfj)
        exact ⟨_, by omega, rfl, hlt, ωj, csj, bV, bW, hfj, out1 (Le.refl _), kJ, rB, hP.now kb⟩
  · have e : i = ws.length := by omega
    subst e
    refine .inl ⟨wk.stops ωi Hx csi lf kI, ?_⟩
    rw [List.drop_length] at hO
    have hfD : ωi.fr D = some (.lst aV) := by rw [hfr, upd_same]
    have hDx : Hx D = some (.lst aV) := kI.frx D _ hfD
    have kd : Ok X.K (ωi.back ω1.fr) (hide Hx D) csi := kI.drop hfD hfr frD
    have z := hO.now kd D aV hide_same (rA.fr ω1.fr)
    rw [upd_hide hDx] at z
    exact z
theorem sv_setLc2 {iter iter1 : Expr} {ifs ifs1 : List Expr} {scope : Scope} {own : List (Str × Nat)} {fi fi1 : EvI} {t t1 : Tg} {ts ts1 : List Nat} {p p1 : EvT} {f : Ev} {vs1 : List Nat} {i : Nat} {y : Str} {py lpos : Pos} (g : EvF → Ev)
    (hgu : ∀ (f : EvF) (σ : L2.St) (H : Hp) (Q : VK), tEv X.K X.mg E (g f) σ H Q → tEvF X.K X.mg E f σ H Q)
    (hc : X.calm = true) (hN : X.N.Nodup) (hy : X.N[i]? = some y) (hyl : X.env.scope.names.lookup y = some .local) (hsw : swapsWith (.ListComp e [⟨tg, iter, ifs, 0⟩, ⟨tg1, iter1, ifs1, 0⟩] scope lpos) (some (.Name y py)) pos.line X.env = pure true)
    (hi : EVI X E tg iter fi) (ok : BlkOk X.N X.env.scope scope own) (hv : ∀ i ∈ vs1, i ∈ own.map (·.2))
    (hg : ∀ (s : Shared) (H : Hp) (C : Addr) (cl : List (Str × Addr)) (fp : List Addr), GV (X.blk s H scope (compEnvC scope cl C X.env) fp) tg t ts)
    (ht : ∀ (s : Shared) (H : Hp) (C : Addr) (cl : List (Str × Addr)) (fp : List Addr), EVTs (X.blk s H scope (compEnvC scope cl C X.env) fp) E0 ifs p)
    (hi1 : ∀ (s : Shared) (H : Hp) (C : Addr) (cl : List (Str × Addr)) (fp : List Addr), EVI (X.blk s H scope (compEnvC scope cl C X.env) fp) E0 tg1 iter1 fi1)
    (hg1 : ∀ (s : Shared) (H : Hp) (C : Addr) (cl : List (Str × Addr)) (fp : List Addr), GV (X.blk s H scope (compEnvC scope cl C X.env) fp) tg1 t1 ts1)
    (ht1 : ∀ (s : Shared) (H : Hp) (C : Addr) (cl : List (Str × Addr)) (fp : List Addr), EVTs (X.blk s H scope (compEnvC scope cl C X.env) fp) E0 ifs1 p1)
    (he : ∀ (s : Shared) (H : Hp) (C : Addr) (cl : List (Str × Addr)) (fp : List Addr), EV (X.blk s H scope (compEnvC scope cl C X.env) fp) E0 e f)
    (hsub : ∀ i ∈ ts, i ∈ own.map (·.2)) (hsub1 : ∀ i ∈ ts1, i ∈ vs1) (hs : ∀ x, foldedSetIterable iter X.env x = pure x := by intro _; rfl) (hs1 : ∀ env x, foldedSetIterable iter1 env x = pure x := by intro _ _; rfl) :
    SV X E (.Assign [.Name y py] (.ListComp e [⟨tg, iter, ifs, 0⟩, ⟨tg1, iter1, ifs1, 0⟩] scope lpos) pos) (sSet i (g (fLc2 fi t p fi1 t1 p1 f (own.map (·.2)) vs1))) :=
  PS.imp (ps_setLc2 (g := tEvG X.K t ts) (tt := tEvT X.K X.mg E0 p) (g1 := tEvG X.K t1 ts1) (tt1 := tEvT X.K X.mg E0 p1) (wi1 := tEvI X.K X.mg E0 fi1) (te := tEv X.K X.mg E0 f) hc hN hy hyl hsw hi ok hv hg ht hi1 hg1 ht1 he hs hs1) fun D σ H h => by
    have h2 : tAsg (tEv X.K X.mg E (g (fLc2 fi t p fi1 t1 p1 f (own.map (·.2)) vs1))) (gName i) D σ H := set_use h
    exact lc2_use hsub hsub1 (hgu _ _ _ _ h2)
end
end DX
namespace DX
open PySem PySem.Spec PyProof.Rows L2
section
variable {d x y z : Dt} {u v w : Wv} {cs cs1 : List Cell} {env env1 : En} {f g h : Ev} {p q : EvT} {i j l : Nat} {ga gb : EvA} {s t : Sv} {ws vs : List Wv} {ds es : List Dt} {n m : Int}
theorem s_frz : eFrz f env cs = rb (f env cs) mFrz := mb _ _ _
theorem k_frzd : mFrz (.dat d) cs = .ok (.dat d) cs := (rfl)
theorem s_fld {C : Addr} {k : Str} : eFld C k f env cs = rb (f env cs) (mFld C k) := mb _ _ _
theorem k_fld {C : Addr} {k : Str} : mFld C k u cs = rW (wFld C k cs u) cs := rW_opt _
theorem s_rgl1 {mk : List Dt → Dt} : eRgL1 mk f env cs = rb (f env cs) (kRgL1 mk) := mb _ _ _
theorem k_rgl1 {mk : List Dt → Dt} (h : -4611686018427387904 ≤ n) (h2 : n ≤ 16777216) : kRgL1 mk (.dat (.int n)) cs = .ok (.dat (mk (rangeD 0 n.toNat))) cs := by
  unfold kRgL1
  dsimp only
  rw [if_pos (by unfold okR; simp only [Bool.and_eq_true, decide_eq_true_eq]; omega)]
  rfl
def kRgL (mk : List Dt → Dt) (g : Ev) (env : En) (x : Wv) : M Wv := M.bind (g env) fun y => kRgL2 mk x y
theorem s_rgl2 {mk : List Dt → Dt} : eRgL2 mk f g env cs = rb (f env cs) (kRgL mk g env) := mb _ _ _
theorem k_rgl {mk : List Dt → Dt} : kRgL mk g env u cs = rb (g env cs) (kRgL2 mk u) := mb _ _ _
theorem k_rgl2 {mk : List Dt → Dt} (h : -4611686018427387904 ≤ n) (h2 : n < 4611686018427387904) (h3 : -4611686018427387904 ≤ m) (h4 : m < 4611686018427387904) (h5 : (m - n).toNat ≤ 16777216) : kRgL2 mk (.dat (.int n)) (.dat (.int m)) cs = .ok (.dat (mk (rangeD n (m - n).toNat))) cs := by
  unfold kRgL2
  dsimp only
  rw [if_pos (by unfold okR; simp only [Bool.and_eq_true, decide_eq_true_eq]; omega)]
  rfl
def kLc2 (t : Tg) (p : EvT) (g1 : EvI) (t1 : Tg) (p1 : EvT) (f : Ev) (vs vs1 : List Nat) (env : En) (ws : List Wv) : M (List Wv) := loopO t p g1 t1 p1 f vs1 (wipeE env vs) ws []
theorem s_flc2 {gi g1 : EvI} {t t1 : Tg} {p1 : EvT} {is is1 : List Nat} : fLc2 gi t p g1 t1 p1 f is is1 env cs = rb (gi env cs) (kLc2 t p g1 t1 p1 f is is1 env) := mb _ _ _
theorem k_lc2 {g1 : EvI} {t t1 : Tg} {p1 : EvT} {is is1 : List Nat} : kLc2 t p g1 t1 p1 f is is1 env ws cs = loopO t p g1 t1 p1 f is1 (wipeE env is) ws [] cs := (rfl)
theorem methl_of {o : Wv → List Wv → M Wv} {a : Nat} (h : cs[a]? = some (.lst ws)) : kMeth okLst o ga env (.cel a) cs = rb (ga env cs) (o (.cel a)) := k_meth (ok_lst h)
def kNewA (fz : Bool) (C : Addr) (n : Nat) (m : Fn) (ws : List Wv) : M Wv := if ws.length + 1 = n then mNew fz C m ws else M.bad
theorem s_new {fz : Bool} {C : Addr} {n : Nat} {m : Fn} : eNew fz C n m ga env cs = rb (ga env cs) (kNewA fz C n m) := mb _ _ _
theorem k_new2 {fz : Bool} {C : Addr} {m : Fn} : kNewA fz C 3 m [u, v] cs = mNew fz C m [u, v] cs := (rfl)
end
section
variable {α : Type} {t : Tg} {p : EvT} {f : Ev} {b : Sv} {env : En} {cs : List Cell}
theorem nx_ok {α : Type} {m : M α} {cs cs1 : List Cell} {a : α} (h : m cs = .ok a cs1) : M.nx m cs = .ok a cs1 := by
  unfold M.nx
  rw [h]
/-- a comprehension with a test -/
theorem lc_filter (en : α → Wv) (h : α → Dt) (P : α → Bool) : ∀ l : List α, (∀ x ∈ l, ∃ env', t (en x) env = some env' ∧ p env' cs = .ok (P x) cs ∧ (P x = true → f env' cs = .ok (.dat (h x)) cs)) → loopC t p f env (l.map en) cs = .ok (((l.filter P).map h).map Wv.dat) cs
  | [], _ => rfl
  | x :: l, hb => by
    obtain ⟨env', e1, e2, e3⟩ := hb x List.mem_cons_self
    have ih := lc_filter en h P l fun y hy => hb y (List.mem_cons_of_mem _ hy)
    rw [List.map_cons]
    unfold loopC
    rw [e1, mb, m_opt, rb_ok, mb, nx_ok e2, rb_ok]
    cases hp : P x with
    | true =>
      rw [if_pos rfl, mb, nx_ok (e3 hp), rb_ok, mb, ih, rb_ok, List.filter_cons_of_pos hp]
      rfl
    | false => rw [if_neg Bool.false_ne_true, ih, List.filter_cons_of_neg (by simp [hp])]
theorem lc_map (en : α → Wv) (h : α → Dt) (l : List α) (hb : ∀ x ∈ l, ∃ env', t (en x) env = some env' ∧ f env' cs = .ok (.dat (h x)) cs) : loopC t tYesE f env (l.map en) cs = .ok ((l.map h).map Wv.dat) cs := by
  have q := lc_filter (t := t) (p := tYesE) (f := f) (env := env) (cs := cs) en h (fun _ => true) l fun x hx => let ⟨e, h1, h2⟩ := hb x hx; ⟨e, h1, rfl, fun _ => h2⟩
  rw [q, List.filter_eq_self.mpr (fun _ _ => rfl)]
theorem lc_mapD {β : Type} (en : β → Dt) (h : β → Dt) (l : List β) (hb : ∀ x ∈ l, ∃ env', t (.dat (en x)) env = some env' ∧ f env' cs = .ok (.dat (h x)) cs) : loopC t tYesE f env ((l.map en).map Wv.dat) cs = .ok ((l.map h).map Wv.dat) cs := by
  rw [List.map_map]
  exact lc_map (Wv.dat ∘ en) h l hb
theorem lc_filterD {β : Type} (en : β → Dt) (h : β → Dt) (P : β → Bool) (l : List β) (hb : ∀ x ∈ l, ∃ env', t (.dat (en x)) env = some env' ∧ p env' cs = .ok (P x) cs ∧ (P x = true → f env' cs = .ok (.dat (h x)) cs)) : loopC t p f env ((l.map en).map Wv.dat) cs = .ok (((l.filter P).map h).map Wv.dat) cs := by
  rw [List.map_map]
  exact lc_filter (Wv.dat ∘ en) h P l hb
theorem enum_map {β : Type} (en : β → Dt) (l : List β) : enumW (l.map en) = l.zipIdx.map fun q => .dat (.tup [.int (q.2 : Nat), en q.1]) := by
  unfold enumW
  rw [List.mapIdx_eq_zipIdx_map, List.zipIdx_map, List.map_map]
  rfl
theorem zip_map {β γ : Type} (en : β → Dt) (em : γ → Dt) : ∀ (l : List β) (m : List γ), zipW (l.map en) (m.map em) = (l.zip m).map fun q => .dat (.tup [en q.1, em q.2])
  | [], _ => by simp [zipW]
  | _ :: _, [] => by simp [zipW]
  | x :: l, y :: m => by
    have ih := zip_map en em l m
    unfold zipW at ih ⊢
    simp [ih]
theorem signs_map (z : Str) : signs z = z.cps.toList.map fun c => .dat (.str ⟨#[c]⟩) := rfl
/-- a for loop by what it keeps -/
theorem ls_keep (en : α → Wv) (R : List α → En → List Cell → Prop) : ∀ (l pre : List α) (env : En) (cs : List Cell), (∀ pr x post env cs, pre ++ l = pr ++ x :: post → R pr env cs → ∃ env' env'' cs'', t (en x) env = some env' ∧ (b env' cs = .ok (.nx env'') cs'' ∨ b env' cs = .ok (.ct env'') cs'') ∧ R (pr ++ [x]) env'' cs'') → R pre env cs →
    ∃ env' cs', loopS t b (l.map en) env cs = .ok (.nx env') cs' ∧ R (pre ++ l) env' cs'
  | [], pre, env, cs, _, h0 => ⟨env, cs, rfl, by rw [List.append_nil]; exact h0⟩
  | x :: l, pre, env, cs, h, h0 => by
    obtain ⟨env', env'', cs'', e1, e2, h1⟩ := h pre x l env cs rfl h0
    obtain ⟨env3, cs3, e3, h3⟩ := ls_keep en R l (pre ++ [x]) env'' cs'' (fun pr y post env cs e => h pr y post env cs (by rw [← e]; simp)) h1
    refine ⟨env3, cs3, ?_, by simpa using h3⟩
    rw [List.map_cons]
    unfold loopS
    rw [e1, mb, m_opt, rb_ok, mb]
    rcases e2 with e2 | e2 <;> rw [e2, rb_ok] <;> exact e3
theorem ls_all (en : α → Wv) (R : List α → En → List Cell → Prop) (l : List α) {env : En} {cs : List Cell} (h : ∀ pr x post env cs, l = pr ++ x :: post → R pr env cs → ∃ env' env'' cs'', t (en x) env = some env' ∧ (b env' cs = .ok (.nx env'') cs'' ∨ b env' cs = .ok (.ct env'') cs'') ∧ R (pr ++ [x]) env'' cs'') (h0 : R [] env cs) :
    ∃ env' cs', loopS t b (l.map en) env cs = .ok (.nx env') cs' ∧ R l env' cs' := ls_keep en R l [] env cs h h0
end
end DX
namespace DX
variable [TabT]
open PySem PySem.Spec PyProof.Rows L2
theorem vals_idx : ∀ (xs : List V) (us : List Value), us.length = xs.length → (∀ (j : Nat) (u : Value), us[j]? = some u → ∃ x, xs[j]? = some x ∧ RelV x u) → Vals xs us
  | [], [], _, _ => .nil
  | [], _ :: _, h, _ => by simp at h
  | _ :: _, [], h, _ => by simp at h
  | x :: xs, u :: us, h, k => by
    obtain ⟨y, e, r⟩ := k 0 u rfl
    cases e
    exact .cons r (vals_idx xs us (by simpa using h) fun j v hv => by simpa using k (j + 1) v (by simpa using hv))
def rListS : List V → Hp → VK → Prop := fun xs H Q => ∃ z : Str, xs = [V.str z] ∧ z.cps.size ≤ sizeLine ∧ ∀ l, H l = none → Q (.ref l) (upd H l (.lst (z.cps.toList.map fun c => V.str ⟨#[c]⟩)))
theorem call_listS {X : Cx} (hc : X.calm = true) : CallR X (.type "list") rListS := by
  intro pins s σ H xs us Q I r h
  obtain ⟨z, rfl, hz, q⟩ := h
  obtain ⟨u, rfl, t, rfl⟩ := vals1 r
  refine PySem.call_list_str (I.ok.hd hc) z t (hn := hz) fun h' tk acc' c' kp e hi => ?_
  have hv : Vals (z.cps.toList.map fun c => V.str ⟨#[c]⟩) acc'.toList := vals_idx _ _ (by simp [hi.1]) fun j u hj => by
    obtain ⟨c, t, h1, rfl⟩ := hi.2 j u (by simpa using hj)
    exact ⟨.str ⟨#[c]⟩, by simp [h1], ⟨t, rfl⟩⟩
  refine ⟨.ref s.heap.objs.size, _, I.laid (t' := tk) kp (Nat.le_refl _) (show ObjOk X.prog X.w _ h' _ (.lst _) from ⟨by simpa using hz, acc'.toList, c', hv, by simpa using e⟩), rfl, q _ (I.hok.fresh (Nat.le_refl _))⟩
def dListS : Dt → Option Dt
  | .str s => if szOk s.length = true then some (.lst (signD s)) else none
  | _ => none
theorem rep_signs {K : Frag} {H : Hp} : ∀ l : List Nat, RepL K H (l.map fun c => V.str ⟨#[c]⟩) (l.map fun c => Dt.str ⟨#[c]⟩)
  | [] => .nil
  | c :: l => .cons (.str _) (rep_signs l)
theorem co_listS {K : Frag} : CallO K rListS (o1 dListS) := fun ω H cs vs ws z k rv e Q q => by
  obtain ⟨d, rfl, e⟩ := o1_of e
  obtain ⟨v, rfl, r⟩ := rv.one
  cases d with
  | str s =>
    have e : (if szOk s.length = true then some (Dt.lst (signD s)) else none) = some z := e
    by_cases hs : szOk s.length = true
    · rw [if_pos hs] at e
      cases e
      cases r
      exact ⟨s, rfl, szOk_of hs, froze_use k q fun p hp => .lst upd_same (rep_signs _)⟩
    · rw [if_neg hs] at e
      cases e
  | _ => cases e
def oListOf : List Wv → List Cell → Option Dt := fun ws cs => (oSeq dListOf .lst ws cs).or (o1 dListS ws cs)
section
variable {X : Cx} {E : XK} {e : Expr} {p pos : Pos} {ga : EvA}
theorem b_list2 (hc : X.calm = true) (hg : Gl X "list") (hm : X.mg "list" = none) (ha : EVA X E [e] ga) (he : starEach [e] X.env = (false, eval e X.env) :: starEach [] X.env := by rfl) : EV X E (.Call (.Name "list" p) [e] [] pos) (eCall oListOf ga) := ev_callTy (CallR.or call_list_of (call_listS hc)) (CallO.or co_list co_listS) hg hm boot_list ha (by decide) (by decide) he rfl
end
def kCat (x y : Wv) : M (List Wv) := match x, y with
  | .dat (.lst ds), .dat (.lst es) => if decide (ds.length + es.length ≤ 16777216) = true then M.ret ((ds ++ es).map .dat) else M.bad
  | _, _ => M.bad
def fCat (f g : Ev) : EvF := fun env => M.bind (f env) fun x => M.bind (g env) fun y => kCat x y
end DX
namespace DX
open PySem PySem.Spec PyProof.Rows L2
section
variable {cs : List Cell} {env : En} {f g : Ev} {ds es : List Dt} {u : Wv}
def kCatA (g : Ev) (env : En) (x : Wv) : M (List Wv) := M.bind (g env) fun y => kCat x y
theorem dk_cat : fCat f g env cs = rb (f env cs) (kCatA g env) := mb _ _ _
theorem dk_cat2 : kCatA g env u cs = rb (g env cs) (kCat u) := mb _ _ _
theorem dk_cat3 (h : ds.length + es.length ≤ 16777216) : kCat (.dat (.lst ds)) (.dat (.lst es)) cs = .ok ((ds ++ es).map .dat) cs := by
  show (if decide (ds.length + es.length ≤ 16777216) = true then M.ret ((ds ++ es).map Wv.dat) else M.bad) cs = _
  rw [if_pos (decide_eq_true h)]
  rfl
end
section
variable {cs : List Cell} {env : En} {f : Ev} {k : Key} {u : Wv} {x : Dt} {l : List (Key × Ev)} {kw : List (Key × Wv)} {kd : List (Key × Dt)}
def kVal (k : Key) (l : List (Key × Ev)) (env : En) (x : Wv) : M (List (Key × Wv)) := M.bind (mVals l env) fun r => M.ret ((k, x) :: r)
def kVal2 (k : Key) (x : Wv) (r : List (Key × Wv)) : M (List (Key × Wv)) := M.ret ((k, x) :: r)
theorem dk_nil : mVals [] env cs = .ok [] cs := (rfl)
theorem dk_cons : mVals ((k, f) :: l) env cs = rb (f env cs) (kVal k l env) := mb _ _ _
theorem dk_val : kVal k l env u cs = rb (mVals l env cs) (kVal2 k u) := mb _ _ _
theorem dk_val2 : kVal2 k u kw cs = .ok ((k, u) :: kw) cs := (rfl)
def kDicC (ws : List (Key × Wv)) : M Wv := mCell (.dic ws)
theorem dk_dicC : eDicC l env cs = rb (mVals l env cs) kDicC := mb _ _ _
theorem dk_dicC2 : kDicC kw cs = .ok (.cel cs.length) (cs ++ [.dic kw]) := (rfl)
def rK (o : Option (List (Key × Dt))) (cs : List Cell) : R Wv := match o with
  | some ds => .ok (.dat (.dic ds)) cs
  | none => .bad
def kDic (ws : List (Key × Wv)) : M Wv := M.bind (M.opt (datK ws)) fun ds => M.ret (.dat (.dic ds))
theorem dk_dic : eDic l env cs = rb (mVals l env cs) kDic := mb _ _ _
theorem dk_dic2 : kDic kw cs = rK (datK kw) cs := by
  unfold kDic
  rw [mb]
  cases datK kw <;> rfl
theorem dk_rK : rK (some kd) cs = .ok (.dat (.dic kd)) cs := (rfl)
theorem dk_dat : datK ((k, .dat x) :: kw) = (datK kw).map ((k, x) :: ·) := (rfl)
theorem dk_datn : datK [] = some [] := (rfl)
theorem eq_nn : eqC false (.dat (.lst [])) (.dat (.lst [])) cs = some (.bl true) := (rfl)
theorem ne_nn : eqC true (.dat (.lst [])) (.dat (.lst [])) cs = some (.bl false) := (rfl)
end
section
variable {ds : List Dt} {cs : List Cell} {i : Nat} {ws : List Wv}
theorem lo_l : oListOf [.dat (.lst ds)] cs = some (.lst ds) := (rfl)
theorem lo_t : oListOf [.dat (.tup ds)] cs = some (.lst ds) := (rfl)
theorem lo_s {a : Str} (h : a.length ≤ 16777216) : oListOf [.dat (.str a)] cs = some (.lst (signD a)) := by
  show Option.or none (if szOk a.length = true then some (Dt.lst (signD a)) else none) = _
  rw [if_pos (show szOk _ = true from decide_eq_true h)]
  rfl
end
section
variable {cs : List Cell} {env : En} {f g : Ev} {ds es : List Dt} {d x y : Dt} {u w : Wv} {i : Nat} {ws : List Wv} {ga : EvA} {r : R Wv} {C : Addr} {k : Str} {l : List (Str × Wv)}
def rF (o : Option Dt) (i : Nat) (cs : List Cell) : R Wv := match o with
  | some d => .ok (.dat d) (cs.set i .dead)
  | none => .bad
theorem dk_frz : mFrz (.cel i) cs = rF (cFrz cs[i]?) i cs := by
  unfold mFrz rF
  all_goals dsimp only
  all_goals (cases cFrz cs[i]? <;> rfl)
theorem dk_rF : rF (some d) i cs = .ok (.dat d) (cs.set i .dead) := (rfl)
theorem dk_cfrz : cFrz (some (.lst ws)) = (dats ws).map .lst := (rfl)
def rLst (c : Option Cell) (r : R Wv) : R Wv := match c with
  | some (.lst _) => r
  | _ => .bad
def isLstC (c : Option Cell) : Bool := match c with
  | some (.lst _) => true
  | _ => false
theorem okl : okLst (.cel i) cs = isLstC cs[i]? := by
  unfold okLst isLstC
  all_goals dsimp only
  all_goals generalize cs[i]? = c
  all_goals (rcases c with _ | c)
  all_goals (first | rfl | (cases c <;> rfl))
theorem dk_methc {o : Wv → List Wv → M Wv} : kMeth okLst o ga env (.cel i) cs = rLst cs[i]? (rb (ga env cs) (o (.cel i))) := by
  obtain ⟨c, h⟩ : ∃ c, cs[i]? = c := ⟨_, rfl⟩
  rw [h]
  have no : okLst (.cel i) cs = false → kMeth okLst o ga env (.cel i) cs = .bad := fun e => by
    unfold kMeth
    rw [e]
    rfl
  have val : okLst (.cel i) cs = isLstC c := by rw [okl, h]
  cases c with
  | none => exact no val
  | some c =>
    cases c with
    | lst l => exact k_meth val
    | _ => exact no val
theorem dk_rLst : rLst (some (.lst ws)) r = r := (rfl)
def rApp (c : Option Cell) (i : Nat) (u : Wv) (cs : List Cell) : R Wv := match c with
  | some (.lst ws) => if ws.length < 16777216 then .ok (.dat .non) (cs.set i (.lst (ws ++ [u]))) else .bad
  | _ => .bad
theorem dk_app : oAppend (.cel i) [u] cs = rApp cs[i]? i u cs := by
  unfold oAppend rApp
  dsimp only
  cases cs[i]? with
  | none => rfl
  | some c =>
    cases c with
    | lst ws =>
      dsimp only
      by_cases h : ws.length < 16777216
      · rw [if_pos (decide_eq_true h), if_pos h]
      · rw [if_neg (by simpa using h), if_neg h]
    | _ => rfl
theorem dk_rApp (h : ws.length < 16777216) : rApp (some (.lst ws)) i u cs = .ok (.dat .non) (cs.set i (.lst (ws ++ [u]))) := if_pos h
def rExt (c : Option Cell) (i : Nat) (ds : List Dt) (cs : List Cell) : R Wv := match c with
  | some (.lst ws) => if ws.length + ds.length ≤ 16777216 then .ok (.dat .non) (cs.set i (.lst (ws ++ ds.map .dat))) else .bad
  | _ => .bad
theorem dk_ext : oExtend (.cel i) [.dat (.lst ds)] cs = rExt cs[i]? i ds cs := by
  unfold oExtend rExt
  dsimp only
  cases cs[i]? with
  | none => rfl
  | some c =>
    cases c with
    | lst ws =>
      dsimp only
      by_cases h : ws.length + ds.length ≤ 16777216
      · rw [if_pos (decide_eq_true h), if_pos h]
      · rw [if_neg (by simpa using h), if_neg h]
    | _ => rfl
theorem dk_rExt (h : ws.length + ds.length ≤ 16777216) : rExt (some (.lst ws)) i ds cs = .ok (.dat .non) (cs.set i (.lst (ws ++ ds.map .dat))) := if_pos h
theorem dk_snoc : ∀ {ws : List Wv}, dats (ws ++ [.dat x]) = (dats ws).map (· ++ [x])
  | [] => rfl
  | .dat d :: ws => by
    show (dats (ws ++ [.dat x])).map (d :: ·) = ((dats ws).map (d :: ·)).map (· ++ [x])
    rw [dk_snoc (ws := ws)]
    cases dats ws <;> rfl
  | .cel j :: ws => rfl
theorem dk_last {α : Type} {l : List α} {a : α} : (l ++ [a])[l.length]? = some a := List.getElem?_concat_length
theorem dk_setl {α : Type} {l : List α} {a b : α} : (l ++ [a]).set l.length b = l ++ [b] := by simp
def kPutFA (C : Addr) (k : Str) (o : Ev) (env : En) (w : Wv) : M Fl := M.bind (o env) fun x => M.bind (mPutF C k x w) fun _ => M.ret (.nx env)
def kPutFB (C : Addr) (k : Str) (env : En) (w x : Wv) : M Fl := M.bind (mPutF C k x w) fun _ => M.ret (.nx env)
theorem dk_putF : sPutF C k f g env cs = rb (g env cs) (kPutFA C k f env) := mb _ _ _
theorem dk_putF2 : kPutFA C k f env w cs = rb (f env cs) (kPutFB C k env w) := mb _ _ _
theorem dk_putF3 : kPutFB C k env w u cs = rb (mPutF C k u w cs) (kPut4 env) := mb _ _ _
def rPF (c : Option Cell) (C : Addr) (k : Str) (w : Wv) (i : Nat) (cs : List Cell) : R Unit := match c with
  | some (.ins D l) => if D = C ∧ l.length < 1000 then .ok () (cs.set i (.ins C (putFW k w l))) else .bad
  | _ => .bad
theorem dk_putF4 : mPutF C k (.cel i) w cs = rPF cs[i]? C k w i cs := by
  unfold mPutF rPF
  all_goals dsimp only
  all_goals generalize cs[i]? = c
  all_goals (rcases c with _ | c)
  all_goals (first | rfl | (cases c <;> rfl))
theorem dk_rPF (h : l.length < 1000) : rPF (some (.ins C l)) C k w i cs = .ok () (cs.set i (.ins C (putFW k w l))) := if_pos ⟨rfl, h⟩
theorem dk_new {fz : Bool} {m : Fn} : mNew fz C m ws cs = rb (m (.cel cs.length :: ws) (cs ++ [.ins C []])) (kNew fz cs.length) := mb _ _ _
theorem dk_newT : kNew true i (.dat .non) cs = rF (cFrz cs[i]?) i cs := dk_frz
theorem dk_cfrzI : cFrz (some (.ins C l)) = (datF l).map (.obj C) := (rfl)
end
theorem dk_mulT (h : 2 ≤ n) (h2 : n ≤ 1000) (h3 : 1 ≤ ds.length) (h4 : ds.length ≤ 1000) : dMul (.tup ds) (.int n) = some (.tup (List.replicate n.toNat ds).flatten) := by
  show ((none : Option Dt).or ((none : Option Dt).or ((none : Option Dt).or (dMulT (.tup ds) (.int n))))) = _
  rw [Option.none_or, Option.none_or, Option.none_or]
  unfold dMulT
  dsimp only
  rw [if_pos (by simp only [Bool.and_eq_true, decide_eq_true_eq]; exact ⟨⟨h, h2⟩, h3, h4⟩)]
def tLstG (n : Nat) (u : Tgs) : Tg := fun w env => match w with
  | .dat (.lst ds) => if ds.length = n then u ds env else none
  | _ => none
theorem dk_tlst {n : Nat} {tu : Tgs} (h : ds.length = n) : tLstG n tu (.dat (.lst ds)) env = tu ds env := (if_pos h)
theorem nat_c2 : ((2 : Nat) : Int) = 2 := (rfl)
theorem nat_c3 : ((3 : Nat) : Int) = 3 := (rfl)
end DX
namespace DX
open PySem PySem.Spec PyProof.Rows L2
/-- a tuple's place in the order: its numbers as figures, behind them noughts -/
def pcode (B : Int) : Nat → List Int → Int
  | 0, _ => 0
  | _ + 1, [] => 0
  | D + 1, n :: r => (n + 1) * (B + 1) ^ D + pcode B D r
section
variable {prog : Program} {w : World} {A : Around} {E : Value → Shared → Prop} {s : Shared} {Q : Bool → Shared → Prop}
/-- what is sorted -/
def VTups (h : Heap) (B : Int) (D : Nat) (vs : List Value) : Prop := ∀ v ∈ vs, ∃ ns, TS.TupInts h v ns ∧ 1 ≤ ns.length ∧ ns.length ≤ D ∧ TS.Bd B ns
theorem VTups.keeps {h h' : Heap} {D : Nat} {B : Int} {vs : List Value} (x : VTups h B D vs) (k : ∀ b o, h.get? b = some o → o.cls = .type "tuple" → h'.get? b = some o) : VTups h' B D vs := fun v hv => by
  obtain ⟨ns, t, r⟩ := x v hv
  exact ⟨ns, t.keeps k, r⟩
end
section
variable {prog : Program} {w : World} {A : Around} {E : Value → Shared → Prop} {s : Shared}
theorem VTups.rank {h : Heap} {B : Int} {D : Nat} {vs : List Value} (x : VTups h B D vs) {v : Value} (hv : v ∈ vs) {ns : List Int} {h' : Heap} (k : ∀ b o, h.get? b = some o → o.cls = .type "tuple" → h'.get? b = some o) (t : TS.TupInts h' v ns) : TS.intsOf h v = ns := by
  obtain ⟨ms, q, _⟩ := x v hv
  rw [q.ints]
  exact (q.keeps k).ints.symm.trans t.ints
end
def lexLt : List Int → List Int → Bool
  | [], [] => false
  | [], _ :: _ => true
  | _ :: _, [] => false
  | n :: r, m :: q => decide (n < m) || (decide (n = m) && lexLt r q)
def tupI (ns : List Int) : Dt := .tup (ns.map .int)
def tupsI : List Dt → Option (List (List Int))
  | [] => some []
  | .tup l :: r => match DX.intsOf l, tupsI r with
    | some n, some ns => some (n :: ns)
    | _, _ => none
  | _ :: _ => none
def bigB (ns : List (List Int)) : Int := ns.flatten.sum + 1
def bigD (ns : List (List Int)) : Nat := ns.flatten.length
def okV (ns : List (List Int)) : Bool := decide (ns.length < 64) && ns.all fun n => decide (1 ≤ n.length) && n.all fun k => decide (0 ≤ k)
def sortV (ns : List (List Int)) : List (List Int) := ns.mergeSort fun a b => decide (pcode (bigB ns) (bigD ns) a ≤ pcode (bigB ns) (bigD ns) b)
def dSortV : Dt → Option Dt
  | .lst l => match tupsI l with
    | some ns => if okV ns = true then some (.lst ((sortV ns).map DX.tupI)) else none
    | none => none
  | _ => none
theorem ints_map : ∀ ns : List Int, DX.intsOf (ns.map .int) = some ns
  | [] => rfl
  | n :: ns => by simp [DX.intsOf, ints_map ns]
def sortI (ns : List Int) : List Int := ns.mergeSort fun a b => decide (a ≤ b)
def dSortI : Dt → Option Dt
  | .lst l => (DX.intsOf l).map fun ns => .lst ((sortI ns).map .int)
  | _ => none
def oSorted : List Wv → List Cell → Option Dt := fun ws cs => (o1 dSortV ws cs).or (o1 dSortI ws cs)
section
variable [TabT] {X : Cx} {E : XK} {e : Expr} {p pos : Pos} {ga : EvA}
def dBits : Dt → Option Dt
  | .int i => some (.int (Builtin.Int.intBits i : Nat))
  | _ => none
end
def starW : Wv → Option (List Dt)
  | .dat (.lst l) => some l
  | .dat (.tup l) => some l
  | _ => none
def aStar (f : Ev) (g : EvA) : EvA := fun env => M.bind (f env) fun x => M.bind (M.opt (starW x)) fun ds => M.bind (g env) fun xs => M.ret (ds.map .dat ++ xs)
end DX
namespace DX
open PySem PySem.Spec PyProof.Rows L2
def Wo.lk (ω : Wo) (a : Addr) (p : Obj × HO) : Wo := ⟨ω.Hs, ω.ad, fun b => if b = a then some p else ω.T b, ω.fr⟩
section
variable [TabT] {K : Frag} {ω ω' : Wo} {H H' : Hp} {cs cs' : List Cell} {a : Addr} {i : Nat} {od : Obj} {vs : List (Key × V)} {ws : List (Key × Wv)} {T : Addr → Option (Obj × HO)}
theorem Ok.slot {j : Nat} {b : Addr} {c : Cell} (k : Ok K ω H cs) (e : ω.ad[i]? = some a) (hj : ¬ i = j) (e1 : ω.ad[j]? = some b) : b ≠ a := fun z => by
  subst z
  obtain ⟨h1, g1⟩ := List.getElem?_eq_some_iff.mp e
  obtain ⟨h2, g2⟩ := List.getElem?_eq_some_iff.mp e1
  exact hj ((List.getElem_inj k.nd).mp (g1.trans g2.symm))
end
def unlkR {α : Type} (k : Nat) (r : R α) : R α := match r with
  | .ok x cs => match cs[k]? with
    | some (.lck ws) => .ok x (cs.set k (.dic ws))
    | some (.dit true ws) => .ok x (cs.set k (.dit false ws))
    | _ => .bad
  | _ => .bad
/-- the statement while the dict at slot i is locked -/
def sLock (i : Nat) (s : Sv) : Sv := fun env cs => match env[i]? with
  | some (some (.cel k)) => match cs[k]? with
    | some (.dic ws) => unlkR k (s env (cs.set k (.lck ws)))
    | some (.dit false ws) => unlkR k (s env (cs.set k (.dit true ws)))
    | _ => .bad
  | _ => .bad
section
variable [TabT] {X : Cx} {E : XK} {st : Stmt} {e tg : Expr} {f : Ev}
def keyD : Key → Dt
  | .inl i => .int i
  | .inr s => .str s
def asKeys (w : Wv) : M (List Wv) := fun cs => match w with
  | .cel k => match cs[k]? with
    | some (.lck ws) => .ok (ws.map fun p => .dat (keyD p.1)) cs
    | some (.dit true ws) => .ok (ws.map fun p => .dat (.tup (p.1.map keyD))) cs
    | _ => .bad
  | _ => .bad
def iKeysE (f : Ev) : EvI := fun env => M.bind (f env) asKeys
end
end DX
namespace DX
open PySem PySem.Spec PyProof.Rows L2
section
variable {d x y z : Dt} {u v w : Wv} {cs cs1 : List Cell} {env env1 : En} {f g h : Ev} {p q : EvT} {i j l k : Nat} {ga gb : EvA} {s t : Sv} {ws vs : List Wv} {ds es : List Dt} {n m : Int} {kw : List (Key × Wv)} {α : Type} {a b : α}
def rLk (ow : Option (Option Wv)) (s : Sv) (env : En) (cs : List Cell) : R Fl := match ow with
  | some (some (.cel k)) => match cs[k]? with
    | some (.dic ws) => unlkR k (s env (cs.set k (.lck ws)))
    | some (.dit false ws) => unlkR k (s env (cs.set k (.dit true ws)))
    | _ => .bad
  | _ => .bad
theorem s_lock : sLock i s env cs = rLk env[i]? s env cs := (rfl)
theorem s_keys : iKeysE f env cs = rb (f env cs) asKeys := mb _ _ _
theorem cix_k : cIx (some (.lck kw)) y = (keyOf y).bind fun k => valK kw k := (rfl)
theorem k_bits : dBits (.int n) = some (.int (Builtin.Int.intBits n : Nat)) := (rfl)
def kStar (g : EvA) (env : En) (x : Wv) : M (List Wv) := M.bind (M.opt (starW x)) fun ds => M.bind (g env) fun xs => M.ret (ds.map .dat ++ xs)
def kStar2 (g : EvA) (env : En) (ds : List Dt) : M (List Wv) := M.bind (g env) fun xs => M.ret (ds.map .dat ++ xs)
def kStar3 (ds : List Dt) (xs : List Wv) : M (List Wv) := M.ret (ds.map .dat ++ xs)
theorem s_star : aStar f ga env cs = rb (f env cs) (kStar ga env) := mb _ _ _
theorem k_star : kStar ga env u cs = rb (M.opt (starW u) cs) (kStar2 ga env) := mb _ _ _
theorem k_star2 : kStar2 ga env ds cs = rb (ga env cs) (kStar3 ds) := mb _ _ _
theorem k_star3 : kStar3 ds ws cs = .ok (ds.map .dat ++ ws) cs := (rfl)
theorem k_starl : starW (.dat (.lst ds)) = some ds := (rfl)
theorem k_start : starW (.dat (.tup ds)) = some ds := (rfl)
theorem k_mcell {c : Cell} : mCell c cs = .ok (.cel cs.length) (cs ++ [c]) := (rfl)
end
end DX
namespace DX
open PySem PySem.Spec PyProof.Rows L2
def bigM : Int := 4294967296
def nsCode (n : Int) (c : Nat) : Int := n * bigM + (c : Int)
/-- a pair of a number and a sign -/
def NsAt (h : Heap) (v : Value) (n : Int) (c : Nat) : Prop := ∃ (a : Addr) (o : Obj) (k : Nat) (t u : Tok), v = .ref a ∧ h.get? a = some o ∧ o.cls = .type "tuple" ∧ o.data = .seq #[.int n t, .str ⟨#[c]⟩ u] k
theorem NsAt.keeps {h h' : Heap} {v : Value} {n : Int} {c : Nat} (x : NsAt h v n c) (kp : ∀ b o, h.get? b = some o → o.cls = .type "tuple" → h'.get? b = some o) : NsAt h' v n c := by
  obtain ⟨a, o, k, t, u, e, ho, hc, hd⟩ := x
  exact ⟨a, o, k, t, u, e, kp _ _ ho hc, hc, hd⟩
def nsRank (h : Heap) (v : Value) : Int := match v with
  | .ref a => match h.get? a with
    | some o => match o.data with
      | .seq its _ => match its.toList with
        | [.int n _, .str z _] => nsCode n (z.cps.toList.headD 0)
        | _ => 0
      | _ => 0
    | none => 0
  | _ => 0
theorem NsAt.rank {h : Heap} {v : Value} {n : Int} {c : Nat} (x : NsAt h v n c) : nsRank h v = nsCode n c := by
  obtain ⟨a, o, k, t, u, rfl, ho, hc, hd⟩ := x
  unfold nsRank
  dsimp only
  rw [ho]
  dsimp only
  rw [hd]
  rfl
def nsD (p : Int × Nat) : Dt := .tup [.int p.1, .str ⟨#[p.2]⟩]
def nssOf : List Dt → Option (List (Int × Nat))
  | [] => some []
  | .tup [.int n, .str z] :: r => match z.cps.toList, nssOf r with
    | [c], some l => if c < 4294967296 then some ((n, c) :: l) else none
    | _, _ => none
  | _ :: _ => none
def nsLe (p q : Int × Nat) : Bool := decide (nsCode p.1 p.2 ≤ nsCode q.1 q.2)
def sortNs (ns : List (Int × Nat)) : List (Int × Nat) := ns.mergeSort nsLe
def dSortNs : Dt → Option Dt
  | .lst l => (nssOf l).bind fun ns => if ns.length < 64 then some (.lst ((sortNs ns).map nsD)) else none
  | _ => none
def oSorted2 : List Wv → List Cell → Option Dt := fun ws cs => (oSorted ws cs).or (o1 dSortNs ws cs)
end DX
namespace DX
open PySem PySem.Spec PyProof.Rows L2
def listW : List Wv → List Cell → Option (List Wv) := fun ws cs => match ws with
  | [.dat (.lst l)] => some (l.map .dat)
  | [.dat (.tup l)] => some (l.map .dat)
  | [.cel k] => match cs[k]? with
    | some (.lst ws) => some ws
    | _ => none
  | _ => none
def fListOf (g : EvA) : EvF := fun env => M.bind (g env) fun ws => fun cs => M.opt (listW ws cs) cs
section
variable {cs : List Cell} {env : En} {ga : EvA} {ws : List Wv} {ds : List Dt} {k : Nat}
def kListW (ws : List Wv) : M (List Wv) := fun cs => M.opt (listW ws cs) cs
theorem s_flist : fListOf ga env cs = rb (ga env cs) kListW := mb _ _ _
theorem k_flist : kListW [.dat (.lst ds)] cs = .ok (ds.map .dat) cs := (rfl)
theorem k_flistt : kListW [.dat (.tup ds)] cs = .ok (ds.map .dat) cs := (rfl)
end
end DX
namespace DX
open PySem PySem.Spec PyProof.Rows L2
open AutoSeq1 (wpAny_loadPart')
theorem enumT_new (t : Addr) (items : Array Value) (n : Nat) (dct : Option Addr) (sl : Array (Option Value)) :
    Meets (Builtin.«enumerate.__new__» ⟨[.type "enumerate", .ref t], []⟩) fun _ R s => s.heap.get? t = some { cls := .type "tuple", dict := dct, data := .seq items n, slots := sl } ∧
      R (.ok (.ret (.ref (s.heap.push { cls := .type "tuple_iterator", data := .fields #[.ref t, .int 0 0] }).objs.size)))
        { s with heap := (s.heap.push { cls := .type "tuple_iterator", data := .fields #[.ref t, .int 0 0] }).push { cls := .type "enumerate", data := .fields #[.none, .bool false, .ref s.heap.objs.size, rawInt 0, .none, .none] } } :=
  .of_wp fun prog w A R s hh => by
    obtain ⟨hp, g, d, tk, os⟩ := s
    obtain ⟨ht, hR⟩ := hh
    have hsub := sub_enumerate
    have hT : Heap.IsTuple (Shared.heap ⟨hp, g, d, tk, os⟩) t items := ⟨_, ht, rfl, n, rfl⟩
    wp_walk using wpAny_loadPart' ht
    refine wpAny_stack_any fun st => wpAny_pure ?_
    split
    · rename_i c _ _ _ _ _
      cases (c == Value.type "enumerate") <;> (wp_walk using wpAny_loadPart' ht, wpAny_pyIter_tuple hT; exact ⟨_, rfl, hR⟩)
    · wp_walk using wpAny_loadPart' ht, wpAny_pyIter_tuple hT
      exact ⟨_, rfl, hR⟩
section
variable {prog : Program} {w : World} {A : Around} {E : Value → Shared → Prop} {s : Shared}
theorem enumT_call {t : Addr} {items : Array Value} {Q : Value → Shared → Prop} (ht : s.heap.IsTuple t items)
    (hQ : ∀ h', IsEnum h' (s.heap.objs.size + 1) s.heap.objs.size 0 .none → h'.IsTupleIter s.heap.objs.size t 0 → (∀ b o, s.heap.get? b = some o → h'.get? b = some o) → Q (.ref (s.heap.objs.size + 1)) { s with heap := h' }) :
    wpAny (model prog w) A (call (.type "enumerate") [.ref t]) Q E s := by
  obtain ⟨⟨c, dct, dt, sl⟩, ho, hc, n, hd⟩ := ht
  obtain rfl : c = .type "tuple" := hc
  obtain rfl : dt = .seq items n := hd
  refine callType_new F.called_enumerate (by decide) (F.typeCall_enumerate_1 _) (F.newCall_enumerate_1 _) (fun obj => F.args_object_init_2 obj _) F.entry_enumerate_new (enumT_new t items n dct sl) ⟨ho, ?_⟩
  obtain ⟨g, eg⟩ : ∃ g, g = s.heap.push { cls := .type "tuple_iterator", data := .fields #[.ref t, .int 0 0] } := ⟨_, rfl⟩
  have gs : g.objs.size = s.heap.objs.size + 1 := by rw [eg]; exact Heap.size_push ..
  have gi : g.get? s.heap.objs.size = some { cls := .type "tuple_iterator", data := .fields #[.ref t, .int 0 0] } := by rw [eg]; exact Heap.get?_push_size _ rfl
  show _ ∧ _
  rw [← eg, gs]
  have en : IsEnum (g.push { cls := .type "enumerate", data := .fields #[.none, .bool false, .ref s.heap.objs.size, rawInt 0, .none, .none] }) (s.heap.objs.size + 1) s.heap.objs.size 0 .none := by
    have z := Heap.get?_push_size g (o := { cls := .type "enumerate", data := .fields #[.none, .bool false, .ref s.heap.objs.size, rawInt 0, .none, .none] }) rfl
    rw [gs] at z
    exact z
  exact ⟨⟨_, en, rfl⟩, hQ _ en ⟨_, Heap.get?_push_of_some _ gi, rfl, rfl⟩ fun b o x => Heap.get?_push_of_some _ (eg ▸ Heap.get?_push_of_some _ x)⟩
end
def IteT (K : Frag) (a : Addr) : It :=
  ⟨fun i H => ∃ (xs : List V) (x : V), SqT K H a xs ∧ xs[i]? = some x, fun i H v H' => ∃ T x, v = .ref T ∧ H T = none ∧ H' = upd H T (.tup [.int (i : Nat), x]) ∧ ∀ xs, SqT K H a xs → xs[i]? = some x, fun i H => ∃ xs : List V, SqT K H a xs ∧ xs.length ≤ i⟩
theorem turn_enumT {P : Program} {w : World} {K : Frag} {elts : List Expr} {kk : Nat} {tpos : Pos} (a e it : Addr) :
    Turn P w K (.Tuple elts kk tpos) (IteT K a) [e, it] e (fun i h => (∃ old, IsEnum h e it ((i : Nat) : Int) old) ∧ h.IsTupleIter it a i ∧ e ≠ it) where
  mem := by simp
  obj := fun i h st b hb => by
    obtain ⟨⟨old, he⟩, ⟨o, ho, hc, hd⟩, _⟩ := st
    rcases List.mem_cons.mp hb with rfl | hb
    · exact ⟨_, he, fun v q => nomatch q⟩
    · obtain rfl := List.mem_singleton.mp hb
      exact ⟨o, ho, fun v q => by rw [hd] at q; cases q⟩
  keep := fun i h h' st kp => by
    obtain ⟨⟨old, he⟩, hi, ne⟩ := st
    exact ⟨⟨old, kp e (by simp) _ he⟩, hi.at fun o q => kp it (by simp) o q, ne⟩
  item := by
    intro X hP hw hK hc i pins s σ H E J hf st hg
    subst hP hw hK
    obtain ⟨⟨old, he⟩, hit, ne⟩ := st
    obtain ⟨xs, x, hq, hx⟩ := hg
    obtain ⟨its, rv, p, hz⟩ := J.tuple hq
    obtain ⟨u, hu, ru⟩ := rv.get hx
    have hel : e < s.heap.objs.size := Heap.lt_size he
    have hil : it < s.heap.objs.size := by obtain ⟨_, q, _⟩ := hit; exact Heap.lt_size q
    have hT : s.heap.IsTuple a its.toArray := p
    have ai : a ≠ it := fun z => by
      obtain ⟨o, ho, hcl, _⟩ := hT
      obtain ⟨o', ho', hcl', _⟩ := hit
      rw [z, ho'] at ho
      cases ho
      rw [hcl'] at hcl
      exact absurd hcl (by decide)
    have ae : e ≠ a := fun z => by
      obtain ⟨o, ho, hcl, _⟩ := hT
      rw [← z, he] at ho
      cases ho
      exact absurd (show Value.type "enumerate" = Value.type "tuple" from hcl) (by decide)
    have D := Draws.tuple (prog := X.prog) (w := X.w) (A := X.A.in1) (J.ok.hd hc) it a ai its.toArray
    have hi : i < its.toArray.size := by
      have := (List.getElem?_eq_some_iff.mp hu).1
      simpa using this
    refine wpAny_pyNext_enum_itemD D he ⟨hit, hT⟩ hi ne (by simpa using ⟨ne, ae⟩) fun y h' tk hy ho st' hn hsz hk => ?_
    have ey : y = u := by
      have hy : its.toArray[i]? = some y := hy
      have : its[i]? = some y := by simpa using hy
      rw [hu] at this
      exact (Option.some.inj this).symm
    subst ey
    refine ⟨_, rfl, wpAny_letOwnedTupleGo_enum (s := { s with heap := h', toks := tk + 1 }) ho fun h'' he' sb => ?_⟩
    have hT2 : h''.get? s.heap.objs.size = some { cls := .type "tuple", data := .seq #[.int i tk, y] } := (sb.2 _ (Nat.ne_of_gt hel)).trans hn
    have new : ObjOk X.prog X.w (upd H s.heap.objs.size (.tup [.int (i : Nat), x])) h'' s.heap.objs.size (.tup [.int (i : Nat), x]) :=
      ⟨by show 2 ≤ sizeLine; decide, [.int i tk, y], .cons ⟨_, rfl⟩ (.cons ru .nil), ⟨_, hT2, rfl, _, rfl⟩⟩
    have J1 : Inv X pins σ (upd H s.heap.objs.size (.tup [.int (i : Nat), x])) { s with heap := h'', toks := tk + 1 } :=
      J.turnedNew (t' := tk + 1) (ch := [e, it]) (fun b ob hb q => (sb.2 b (fun z => hb (by simp [z]))).trans (hk b ob (fun z => hb (by simp [z])) (fun z => hb (by simp [z])) q)) hf (Nat.le_refl _) new
    refine ⟨.ref s.heap.objs.size, _, J1, rfl, ⟨_, x, rfl, J.hok.fresh (Nat.le_refl _), rfl, fun ys hy => by rw [J.tuple_inj hy hq]; exact hx⟩, ⟨⟨y, ?_⟩, st'.1.at fun o q => (sb.2 it (Ne.symm ne)).trans q, ne⟩, fun b hb => ?_⟩
    · rw [show ((i + 1 : Nat) : Int) = (i : Int) + 1 by omega]
      exact he'
    · have lt : b < s.heap.objs.size := by
        rcases List.mem_cons.mp hb with rfl | hb
        · exact hel
        · exact (List.mem_singleton.mp hb) ▸ hil
      rw [upd_ne (Nat.ne_of_lt lt)]
      exact (hf b hb).1
  done := by
    intro X hP hw hK hc i pins s σ H E J hf st hg
    subst hP hw hK
    obtain ⟨⟨old, he⟩, hit, ne⟩ := st
    obtain ⟨xs, hq, hx⟩ := hg
    obtain ⟨its, rv, p, hz⟩ := J.tuple hq
    obtain ⟨f0, f1, f2, f3, f4, f5⟩ := hf it (by simp)
    have hl := rv.length
    have hT : s.heap.IsTuple a its.toArray := p
    have D : Draws X.prog X.w X.A.in1 it [it, a] 0 (fun _ _ => False) (fun _ h => h.IsTupleIter it a i ∧ h.IsTuple a its.toArray) := {
      live := fun _ _ q => let ⟨o, ho, _⟩ := q.1; ⟨o, ho⟩
      frame := fun _ _ _ q hk => ⟨q.1.at fun o e => hk it (by simp) o e, q.2.at fun o e => hk a (by simp) o e⟩
      item := fun j _ _ _ hj _ _ => absurd hj (Nat.not_lt_zero j)
      done := fun s Q E q hE => wpAny_nextOf_tuple_end (J.ok.hd hc) q.1 q.2 (by simp; omega) hE }
    refine wpAny_pyNext_enum_endD D he ⟨hit, hT⟩ fun h' eb => ⟨rfl, J.turned (t' := s.toks) (fun b o hb q => eb b o hb q) f0 f1 f3 f4 f5⟩
  self := fun A i s Q E st h => let ⟨⟨_, he⟩, _⟩ := st; wpAny_pyIter_enum he h
section
variable [TabT] {X : Cx} {E : XK} {e : Expr} {ta : TA} {g : EvA} {p pos tpos : Pos} {elts : List Expr} {kk : Nat}
def iEnT (K : Frag) (ta : TA) : TI := fun σ H R => ta σ H fun vs H1 => ∃ a xs, vs = [.ref a] ∧ SqT K H1 a xs ∧ R (IteT K a) H1
theorem pi_enT (hg : Gl X "enumerate") (hm : X.mg "enumerate" = none) (ha : PA X [e] ta) (hs : starEach [e] X.env = [(false, eval e X.env)] := by rfl) : PI X (.Tuple elts kk tpos) (.Call (.Name "enumerate" p) [e] [] pos) (iEnT X.K ta) := by
  refine ⟨fun pins s σ H R J h => PyProof.Rows.Call_ (ld_blt J hg hm PyProof.Rows.boot_enumerate (PyProof.Rows.callWith_type1 (thn (ha.run pos pins s σ H _ J h) fun us s1 q => ?_) hs rfl))⟩
  obtain ⟨vs, H1, J1, r1, a, xs, ez, hq, qR⟩ := q
  subst ez
  cases r1 with
  | cons r rr =>
    cases rr
    cases r
    obtain ⟨its, rv, p', hz⟩ := J1.tuple hq
    refine enumT_call (show s1.heap.IsTuple a its.toArray from p') fun h' he hit hk => wpAny_pyIter_enum he ?_
    have J2 : Inv X pins σ H1 { s1 with heap := h' } := J1.kept (t' := s1.toks) hk
    refine ⟨s1.heap.objs.size + 1, [s1.heap.objs.size + 1, s1.heap.objs.size], _, _, H1, rfl, J2, turn_enumT a (s1.heap.objs.size + 1) s1.heap.objs.size, ⟨⟨.none, he⟩, hit, Nat.succ_ne_self _⟩, fun b hb => ?_, qR⟩
    have hle : s1.heap.objs.size ≤ b := by
      rcases List.mem_cons.mp hb with y | y
      · rw [y]; exact Nat.le_succ _
      · rw [List.mem_singleton.mp y]; exact Nat.le_refl _
    exact J1.fpOk hle (J1.hok.fresh hle)
theorem wok_enT {K : Frag} {ω : Wo} {a : Addr} {vs : List V} {ds : List Dt} (h : TupAt K ω.Hs a vs) (r : RepL K ω.Hs vs ds) : WOk K (IteT K a) ω (enumW ds) := by
  have en : (enumW ds).length = vs.length := by rw [r.len]; simp [enumW]
  refine ⟨fun i ω' H cs hi l k => ?_, fun ω' H cs l k => ⟨vs, (ex_t k.ex (ex_t l.ex h)).sq, by omega⟩, fun i ω' H cs x H' hi l k q => ?_⟩
  · have hi : i < vs.length := by omega
    exact ⟨vs, vs[i], (ex_t k.ex (ex_t l.ex h)).sq, List.getElem?_eq_getElem hi⟩
  · obtain ⟨T, x, rfl, hT, rfl, e1⟩ := q
    obtain ⟨d, e3, r1⟩ := r.at (e1 vs (ex_t k.ex (ex_t l.ex h)).sq)
    obtain ⟨ω'', l1, k1, r3⟩ := pair_use k hT (RepL.two (.int (i : Nat)) (RepD.mono l.ex _ _ r1))
    exact ⟨ω'', l1, k1, _, by simp [enumW, e3], r3⟩
def asEnumT : List Wv → M (List Wv)
  | [.dat (.tup l)] => M.ret (enumW l)
  | ws => asEnum ws
def iEnumT (g : EvA) : EvI := fun env => M.bind (g env) asEnumT
def fstTup : List Wv → Bool
  | [.dat (.tup _)] => true
  | _ => false
def fstTupR : R (List Wv) → Bool
  | .ok ws _ => fstTup ws
  | _ => false
theorem ei_enumT (hg : Gl X "enumerate") (hm : X.mg "enumerate" = none) (ha : EVA X E [e] g) (hs : starEach [e] X.env = [(false, eval e X.env)] := by rfl) : EVI X E (.Tuple elts kk tpos) (.Call (.Name "enumerate" p) [e] [] pos) (iEnumT g) :=
  PI.imp (PI.orr (ei_enum (E := E) hg hm ha hs) (pi_enT hg hm ha hs)) fun σ H R ⟨env, cs, ω, hst, hk, h⟩ => by
    cases hkd : fstTupR (g env cs) with
    | false =>
      refine .inl ⟨env, cs, ω, hst, hk, ?_⟩
      have e : iEnumT g env cs = iEnumE g env cs := by
        unfold iEnumT iEnumE M.bind
        cases e1 : g env cs with
        | ok ws c =>
          rw [e1] at hkd
          have hkd : fstTup ws = false := hkd
          show asEnumT ws c = asEnum ws c
          unfold asEnumT
          split
          · cases hkd
          · rfl
        | exc x c => rfl
        | bad => rfl
      rw [e] at h
      exact h
    | true =>
      refine .inr ⟨env, cs, ω, hst, hk, h.bind.impE fun ws ω1 cs1 H1 e1 l1 k1 h1 vs rv => ?_⟩
      rw [e1] at hkd
      have hkd : fstTup ws = true := hkd
      unfold fstTup at hkd
      split at hkd
      · obtain ⟨v, rfl, r⟩ := rv.one'
        cases (show RepD X.K ω1.Hs v _ from r) with
        | tup g1 g2 => exact ⟨_, _, rfl, (ex_t k1.ex g1).sq, h1.now k1 _ (wok_enT g1 g2)⟩
      · cases hkd
end
section
variable {cs : List Cell} {env : En} {ga : EvA} {ds : List Dt} {a : Str}
theorem s_enumT : iEnumT ga env cs = rb (ga env cs) asEnumT := mb _ _ _
theorem k_enumT_t : asEnumT [.dat (.tup ds)] cs = .ok (enumW ds) cs := (rfl)
theorem k_enumT_l : asEnumT [.dat (.lst ds)] cs = .ok (enumW ds) cs := (rfl)
theorem k_enumT_s : asEnumT [.dat (.str a)] cs = .ok (enumW (signD a)) cs := (rfl)
end
end DX
namespace DX
open PySem PySem.Spec PyProof.Rows L2
open HT
def dGeT : Dt → Dt → Option Dt
  | .tup a, .tup b => match DX.intsOf a, DX.intsOf b with
    | some ns, some ms => some (.bl (!lexLt ns ms))
    | _, _ => none
  | _, _ => none
theorem s_geT {ns ms : List Int} : dGeT (tupI ns) (tupI ms) = some (.bl (!lexLt ns ms)) := by
  show (match DX.intsOf (ns.map .int), DX.intsOf (ms.map .int) with | some ns, some ms => some (Dt.bl (!lexLt ns ms)) | _, _ => none) = _
  rw [ints_map, ints_map]
def revS (a : Str) : Str := ⟨a.cps.toList.reverse.toArray⟩
def dRevT : Dt → Option Dt
  | .tup l => some (.tup l.reverse)
  | .str a => if decide (a.length ≤ 16777216) = true then some (.str (revS a)) else none
  | _ => none
def wRevT : Wv → Option Dt
  | .dat d => dRevT d
  | _ => none
def mRevT (x : Wv) : M Wv := fun cs => M.opt ((wRevT x).map .dat) cs
def eRevT (f : Ev) : Ev := fun env => M.bind (f env) mRevT
theorem s_revTe {f : Ev} {env : En} {cs : List Cell} : eRevT f env cs = rb (f env cs) mRevT := mb _ _ _
theorem s_revS {a : Str} {cs : List Cell} (h : a.length ≤ 16777216) : mRevT (.dat (.str a)) cs = .ok (.dat (.str (revS a))) cs := by
  unfold mRevT wRevT dRevT
  dsimp only
  rw [if_pos (decide_eq_true h)]
  rfl
theorem s_revT {l : List Dt} {cs : List Cell} : mRevT (.dat (.tup l)) cs = .ok (.dat (.tup l.reverse)) cs := (rfl)
end DX
namespace DX
open PySem PySem.Spec PyProof.Rows L2
def dReprP : Dt → Option Dt
  | .non => some (.str "None")
  | .bl b => some (.str (if b then "True" else "False"))
  | .str x => if szOk (reprText x).length = true then some (.str (reprText x)) else none
  | _ => none
def rReprP : List V → Hp → VK → Prop := fun xs H Q => (xs = [.non] ∧ Q (.str "None") H) ∨ (∃ b, xs = [.bl b] ∧ Q (.str (if b then "True" else "False")) H) ∨ ∃ x : Str, xs = [.str x] ∧ (reprText x).length ≤ sizeLine ∧ Q (.str (reprText x)) H
theorem cr_reprP {X : Cx} : CallR X (.builtin "repr") rReprP := by
  intro pins s σ H xs us Q I r h
  rcases h with ⟨rfl, q⟩ | ⟨b, rfl, q⟩ | ⟨x, rfl, hz, q⟩
  · obtain ⟨u, rfl, e⟩ := vals1 r
    cases (show u = Value.none from e)
    exact PySem.P.repr_of_none ⟨.str _, H, I.tok _, ⟨_, rfl⟩, q⟩
  · obtain ⟨u, rfl, e⟩ := vals1 r
    cases (show u = Value.bool b from e)
    refine PySem.P.repr_of_bool ⟨.str (if b then "True" else "False"), H, I.tok _, ⟨s.toks, ?_⟩, q⟩
    cases b <;> rfl
  · obtain ⟨u, rfl, t, rfl⟩ := vals1 r
    exact PySem.P.repr_of_str ⟨.str _, H, I.tok _, ⟨_, rfl⟩, q⟩ hz
theorem co_reprP [TabT] {K : Frag} : CallO K rReprP (o1 dReprP) := fun ω H cs vs ws z k rv e Q q => by
  obtain ⟨d, rfl, e⟩ := o1_of e
  obtain ⟨v, rfl, r⟩ := rv.one
  cases d with
  | non => cases r; cases e; exact .inl ⟨rfl, q ω H _ (Le.refl _) k (.str _)⟩
  | bl b => cases r; cases e; exact .inr (.inl ⟨b, rfl, q ω H _ (Le.refl _) k (.str _)⟩)
  | str x =>
    cases r
    have e : (if szOk (reprText x).length = true then some (Dt.str (reprText x)) else none) = some z := e
    split at e
    · rename_i h
      cases e
      exact .inr (.inr ⟨x, rfl, szOk_of h, q ω H _ (Le.refl _) k (.str _)⟩)
    · cases e
  | _ => cases e
def oReprA : List Wv → List Cell → Option Dt := fun ws cs => (o1 dRepr ws cs).or (o1 dReprP ws cs)
section
variable [TabT] {X : Cx} {E : XK} {e : Expr} {p pos : Pos} {ga : EvA}
theorem b_reprA (hgd : X.A.guards = some []) (hu : X.A.units + 66 < cLine) (hg : Gl X "repr") (hm : X.mg "repr" = none) (ha : EVA X E [e] ga) (he : starEach [e] X.env = (false, eval e X.env) :: starEach [] X.env := by rfl) : EV X E (.Call (.Name "repr" p) [e] [] pos) (eCall oReprA ga) := ev_callB (CallR.or (CallR.or (cr_repr hgd hu) SkE.call_repr_int) cr_reprP) (CallO.or co_repr co_reprP) hg hm boot_repr ha (by decide) (by decide) he rfl
end
theorem reprA_of {d z : Dt} {cs : List Cell} (h : dRepr d = some z) : oReprA [.dat d] cs = some z := by
  show (dRepr d).or _ = _
  rw [h]
  rfl
end DX
namespace DX
open PySem PySem.Spec PyProof.Rows L2
theorem fng_any [TabT] {P : Program} {w : World} {K : Frag} {mg : MG} {base : Heap} {gd gd' : Bool} {k : Nat} {f : Addr} {fd : FuncData} {ps : List Str} {m : Fn} (h : gd = true → gd' = true) (F : FnG P w K mg base gd k f fd ps m) : FnG P w K mg base gd' k f fd ps m :=
  ⟨fun A outer s H args us vs Q E ω cs ws hr hgd => F.run A outer s H args us vs Q E ω cs ws hr fun e => hgd (h e)⟩
end DX
namespace DX
open PySem PySem.Spec PyProof.Rows L2
def sNever : Sv := fun _ _ => .bad
def mKd (l : List (Str × Str)) (y : Wv) : M Wv := match y with
  | .dat (.str z) => M.opt ((l.lookup z).map fun v => .dat (.str v))
  | _ => M.bad
def eKd (l : List (Str × Str)) (g : Ev) : Ev := fun env => M.bind (g env) (mKd l)
def wRevL : Wv → Option Dt
  | .dat (.lst l) => some (.lst l.reverse)
  | _ => none
def mRevL (x : Wv) : M Wv := fun cs => M.opt ((wRevL x).map .dat) cs
def eRevL (f : Ev) : Ev := fun env => M.bind (f env) mRevL
section
variable [TabT] {X : Cx} {E : XK} {a b : Expr} {f g : Ev} {pos : Pos}
theorem ev_kd {p : Addr} {l : List (Str × Str)} (hk : ∀ z v, l.lookup z = some v → KDct X.K X.w p z (.str v)) (ha : EV X E a (eC (.op (.ref p)))) (hb : EV X E b g) (hs : PlainIx b := by exact fun _ _ => rfl) : EV X E (.Subscript a b pos) (eKd l g) :=
  PE.imp (pe_ix ix_kdict ha hb hs) fun σ H Q ⟨env, cs, ω, hst, hk0, h⟩ => ⟨env, cs, ω, hst, hk0, fun ω1 H1 l1 k1 v rv => by
    cases rv
    exact ⟨env, cs, ω1, hst.mono l1, k1, (Out.le l1 h).bind.imp fun y ω2 cs2 H2 l2 k2 h2 u ru => by
      cases y with
      | cel k => exact (show False from h2).elim
      | dat d =>
        cases d with
        | str z =>
          cases ru
          have h2 : Out X.K X.mg E ω2 (M.opt ((l.lookup z).map fun v => Wv.dat (.str v)) cs2) _ := h2
          cases e : l.lookup z with
          | none => rw [e] at h2; exact (show False from h2).elim
          | some v =>
            rw [e] at h2
            exact ⟨p, z, .str v, rfl, rfl, hk z v e, (show Out X.K X.mg E ω2 (.ok (Wv.dat (.str v)) cs2) _ from h2) ω2 H2 (Le.refl ω2) k2 _ (.str v)⟩
        | _ => exact (show False from h2).elim⟩⟩
end
section
variable {f g : Ev} {env : En} {cs : List Cell} {u : Wv} {l : List (Str × Str)} {ds : List Dt} {z v : Str}
theorem k_kde : eKd l g env cs = rb (g env cs) (mKd l) := mb _ _ _
theorem k_kd (h : l.lookup z = some v) : mKd l (.dat (.str z)) cs = .ok (.dat (.str v)) cs := by
  unfold mKd
  dsimp only
  rw [h]
  rfl
theorem k_revLe : eRevL f env cs = rb (f env cs) mRevL := mb _ _ _
theorem k_revL : mRevL (.dat (.lst ds)) cs = .ok (.dat (.lst ds.reverse)) cs := (rfl)
end
end DX
namespace DX
open PySem PySem.Spec PyProof.Rows L2
theorem Lf.at {ω ω' : Wo} (h : Lf ω ω') {k : Nat} {a : Addr} (e : ω.ad[k]? = some a) : ω'.ad[k]? = some a := by
  obtain ⟨t, ht⟩ := h.ad
  rw [← ht, List.getElem?_append_left (List.getElem?_eq_some_iff.mp e).1]
  exact e
end DX
namespace SX
open PySem PySem.W PySem.Calls PyProof.Rows PySem.HandSPX
def argT (f : Str) (p1 p2 : Pos) : Arguments := { posonlyargs := [], args := [{ arg := "self", annotation := none, pos := p1 }, { arg := f, annotation := none, pos := p2 }], vararg := none, kwonlyargs := [], kw_defaults := [], kwarg := none, defaults := [] }
def supT (txt : Str) (k : Nat) (r0 r1 r2 r3 r4 r5 : Pos) : Stmt := .Expr (.Call (.Attribute (.Call (.Name "super" r0) [] [] r1) "__init__" r2) [.Constant (.str txt) k r3] [] r4) r5
def setT (f : Str) (q1 q2 q3 q4 : Pos) : Stmt := .Assign [.Attribute (.Name "self" q1) f q2] (.Name f q3) q4
def scpT (f : Str) : Scope := { kind := .function, names := [(PySem.Str.ofString "self", .local), (f, .local), (PySem.Str.ofString "__class__", .free), (PySem.Str.ofString "super", .globalImplicit)], isGenerator := false, isCoroutine := false, more := [] }
/-- how super().__init__(text) is worked out -/
def SupEv (txt : Str) (k : Nat) (r0 r1 r2 r3 r4 : Pos) : Prop := ∀ env : Env, ∃ pl : Sem Bool, eval (.Call (.Attribute (.Call (.Name "super" r0) [] [] r1) "__init__" r2) [.Constant (.str txt) k r3] [] r4) env = (do
  let ov ← attributeBase (.Call (.Name "super" r0) [] [] r1) "__init__" env (eval (.Call (.Name "super" r0) [] [] r1) env)
  standAt r2.atName
  let (f, first) ← holding [ov] (getMethod ov "__init__" pl)
  callWith r4 f first (backTo r4 (starEach [.Constant (.str txt) k r3] env)) [])
/-- the function that is the __init__ of the class at C: its cell's content, its code's file -/
def InitFn (P : Program) (K : Frag) (f : Str) (C fI : Addr) : Prop :=
  ∃ (qual txt : Str) (k : Nat) (p1 p2 r0 r1 r2 r3 r4 r5 q1 q2 q3 q4 : Pos) (oc doc pm ct cl ccl : Value) (od an cld cdd : Option Addr) (osl csl ccs : Array (Option Value)) (cda cc : Addr) (vs : Array Value) (file : Str) (tf : Tok),
    K.lookup fI = some ⟨oc, od, .func (ksFn "__init__" qual (argT f p1 p2) [supT txt k r0 r1 r2 r3 r4 r5, setT f q1 q2 q3 q4] (scpT f) .none .none doc pm an (.ref cda) ct cc), osl⟩ ∧ codeIn K (.ref cda) qual = true ∧
    K.lookup cda = some ⟨ccl, cdd, .fields vs, ccs⟩ ∧ vs[2]? = some (.str file tf) ∧ ((P.main.file : Str) == file) = true ∧ K.lookup cc = some ⟨cl, cld, .cell (some (.ref C)), csl⟩ ∧
    (∀ u v : Value, bindArgs (ksFn "__init__" qual (argT f p1 p2) [supT txt k r0 r1 r2 r3 r4 r5, setT f q1 q2 q3 q4] (scpT f) .none .none doc pm an (.ref cda) ct cc) ⟨[u, v], []⟩ = pure [(PySem.Str.ofString "self", u), (f, v)]) ∧ SupEv txt k r0 r1 r2 r3 r4 ∧ ∀ env : Env, swapsWith (.Name f q3) (some (.Attribute (.Name "self" q1) f q2)) q4.line env = pure false
/-- what is known of the class at C -/
structure Cls1 (P : Program) (K : Frag) (mg : Str → Option Value) (x f : Str) (C fI : Addr) : Prop where
  gC : mg x = some (.ref C)
  cls : ∃ nm q N bs bm sn sub ab col dd k0 k1 k2 k3 k5, K.lookup C = some (excClassObj nm q C N bs bm true sn sub ab col dd k0 k1 k2 k3 k5 "ValueError.__new__") ∧ refsVE bm = true
  sa : findIn K (.ref C) "__setattr__" = some (some (.builtin "object.__setattr__"))
  no : findIn K (.ref C) f = some none
  iC : findIn K (.ref C) "__init__" = some (some (.ref fI))
  tI : typeIn K (.ref fI) = some (.type "function")
  kC : keepIn K (.ref C) = true
  eC : subIn K (.ref C) (.type "BaseException") = some true
  tC : typeIn K (.ref C) = some (.type "type")
  mC : mroIn K C (.ref C) = some true
  vE : subIn K (.ref C) (.type "ValueError") = some true
  al : ks_superIn K C C "__init__" = some (some (.builtin "ValueError.__init__"))
  op : nsIn K cStatics "thirdparty.any" = some none
  su : mg "super" = none
  top : (P.main.scope.names.lookup ("super" : Str)).isSome = false
  hf : f ≠ "self" ∧ f ≠ "super" ∧ f ≠ "__class__" ∧ (f == ("__debug__" : Str)) = false
  fn : InitFn P K f C fI
/-- what a state tells of the modules' names -/
structure Names (K : Frag) (mg : Str → Option Value) (h : Heap) : Prop where
  kin : K.In h
  glob : h.Ns mainGlobals mg
  blt : ∃ mb, h.Ns builtinsNs mb ∧ mb "super" = some (.type "super")
  lim : h.NoLimit
theorem Names.keeps {K : Frag} {mg : Str → Option Value} {h h' : Heap} (N : Names K mg h) (k : ∀ b o, h.get? b = some o → h'.get? b = some o) : Names K mg h' :=
  ⟨N.kin.keeps k, N.glob.keeps k, N.blt.imp fun mb q => ⟨q.1.keeps k, q.2⟩, N.lim.keeps k⟩
/-- what the __init__ leaves -/
structure Left (h h' : Heap) (x C dx t1 : Addr) (f : Str) (v : Value) : Prop where
  kp : ∀ b o, b ≠ x → h.get? b = some o → h'.get? b = some o
  ob : h'.get? x = some { cls := .ref C, dict := some dx, data := .fields #[.ref t1, .none, .none, .none, .bool false, .none] }
  big : h.objs.size ≤ dx
  ne : dx ≠ x
  ns : h'.Ns1 dx (fun y => if y = f then some v else none)
/-- what the call of the class leaves -/
structure Made (h h' : Heap) (e C d t1 : Addr) (f : Str) (v : Value) : Prop where
  kp : ∀ b o, h.get? b = some o → h'.get? b = some o
  new : h.objs.size ≤ e
  ob : h'.get? e = some { cls := .ref C, dict := some d, data := .fields #[.ref t1, .none, .none, .none, .bool false, .none] }
  big : h.objs.size ≤ d
  ne : d ≠ e
  ns : h'.Ns1 d (fun y => if y = f then some v else none)
section
variable {prog : Program} {w : World} {A : Around} {E : Value → Shared → Prop} {R : Result → Shared → Prop} {s : Shared} {K : Frag} {mg : Str → Option Value} {x f : Str} {C fI : Addr}
/-- the bound ValueError.__init__ is called -/
theorem mw_call {u e t0 : Addr} {us : List Value} {bm : List Value} {nm q : Str} {N : Addr} {bs : List Value} {sn : List Str} {sub : List Value} {ab : Bool} {col : Option Bool} {dd : Option Addr} {k0 k1 k2 k3 k5 : Option Value} {Q : Value → Shared → Prop} (hu : s.heap.get? u = some (kxs_mw "ValueError.__init__" e))
    (hC : s.heap.get? C = some (excClassObj nm q C N bs bm true sn sub ab col dd k0 k1 k2 k3 k5 "ValueError.__new__")) (he : s.heap.get? e = some (excO C t0)) (hz : us.length ≤ sizeLine)
    (h : ∀ h' t1, (∀ b o, b ≠ e → s.heap.get? b = some o → h'.get? b = some o) → h'.get? e = some (excO C t1) → Q .none { s with heap := h' }) : wpAny (model prog w) A (call (.ref u) us) Q E s := by
  obtain ⟨hh, g, d, tk, os⟩ := s
  refine wpAny_call (codeAny_of_tree ?_)
  show wpAny _ A.in1 (callAny (.ref u) ⟨us, []⟩) _ _ _
  simp only [callAny]
  refine wpAny_bind (wpAny_load hu ?_)
  simp only [kxs_mw, show (Value.type "method-wrapper" == Value.type "method" || Value.type "method-wrapper" == Value.type "builtin_function_or_method" || Value.type "method-wrapper" == Value.type "method-wrapper") = true by decide, if_true]
  refine KFB.if_so (by decide) (wpAny_bind (check_bound_init F.excBase_ValueError.toExcCallFacts hC he rfl (wpAny_bind (wpAny_pure (wpAny_pure ?_)))))
  exact ⟨plainId_quiet F.excBase_ValueError.init.plain _, codeAny_builtin F.excBase_ValueError.initEntry (exc_init_tree (cls := .ref C) (t0 := t0) (dv := none) (c2 := .none) (c3 := .none) (b4 := .bool false) he hz fun h' k e' _ => h h' _ k e')⟩
theorem lk_self {f : Str} : (scpT f).names.lookup ("self" : Str) = some .local := by rfl
theorem lk_fld {f : Str} (h : f ≠ "self") : (scpT f).names.lookup f = some .local := by
  show List.lookup f [(PySem.Str.ofString "self", NameKind.local), (f, .local), (PySem.Str.ofString "__class__", .free), (PySem.Str.ofString "super", .globalImplicit)] = _
  rw [List.lookup_cons, show (f == PySem.Str.ofString "self") = false from beq_eq_false_iff_ne.mpr h]
  simp only [List.lookup_cons, beq_self_eq_true]
theorem lk_far {f y : Str} {k : Option NameKind} (h1 : f ≠ y) (h2 : (y == PySem.Str.ofString "self") = false) (h3 : List.lookup y [(PySem.Str.ofString "__class__", NameKind.free), (PySem.Str.ofString "super", .globalImplicit)] = k) : (scpT f).names.lookup y = k := by
  show List.lookup y [(PySem.Str.ofString "self", NameKind.local), (f, .local), (PySem.Str.ofString "__class__", .free), (PySem.Str.ofString "super", .globalImplicit)] = _
  rw [List.lookup_cons, h2, List.lookup_cons, show (y == f) = false from beq_eq_false_iff_ne.mpr (Ne.symm h1)]
  exact h3
theorem sup_init (T : Cls1 prog K mg x f C fI) {e t0 : Addr} {v : Value} (N : Names K mg s.heap) (hx : s.heap.get? e = some (excO C t0)) (hnx : K.lookup e = none) (hd : A.depth < recursionLimit)
    (hq : ∀ h' tk dx t1, Left s.heap h' e C dx t1 f v → R (.ok (.ret .none)) { s with heap := h', toks := tk }) : codeAny (model prog w) A (.call (.ref fI) ⟨[.ref e, v], []⟩) R s := by
  obtain ⟨qual, txt, k, p1, p2, r0, r1, r2, r3, r4, r5, q1, q2, q3, q4, oc, doc, pm, ct, cl, ccl, od, an, cld, cdd, osl, csl, ccs, cda, cc, vs, file, tf, ho, hcd, hcode, hvs, hfile, hcell, hbd, hev, hsw⟩ := T.fn
  obtain ⟨nm, q, NN, bs, bm, sn, sub, ab, col, dd, k0, k1, k2, k3, k5, hC, hbm⟩ := T.cls
  have hcl : clsIn K C = some { name := nm, bases := bs, mro := .ref C :: bm, ns := NN, qualname := q, hasDict := true, slotNames := sn, subclasses := sub, abstract := ab, collection := col, hasDel := false } := by unfold clsIn; rw [hC] <;> rfl
  obtain ⟨f1, f2, f3, f4⟩ := T.hf
  have ks : (scpT f).names.lookup ("super" : Str) = some .globalImplicit := lk_far f2 (by decide) (by rfl)
  have kc : (scpT f).names.lookup ("__class__" : Str) = some .free := lk_far f3 (by decide) (by rfl)
  have kf : (scpT f).names.lookup f = some .local := lk_fld f1
  refine ks_codeAny_call_defAt (binds := [("self", .ref e), (f, v)]) hd (N.kin _ _ ho) rfl N.lim (codeRec_of N.kin hcd) rfl (BindsTo.of_eq (hbd _ _)) ?_ ?_ (fun h₁ hn kk => ?_) rfl rfl rfl
  · intro y hy
    rcases List.mem_cons.mp hy with rfl | hy
    · decide
    rcases List.mem_cons.mp hy with rfl | hy
    · exact fun z => nomatch z
    rcases List.mem_cons.mp hy with rfl | hy
    · decide
    rcases List.mem_cons.mp hy with rfl | hy
    · decide
    · cases hy
  · intro y hy
    rcases List.mem_cons.mp hy with rfl | hy
    · exact lk_self
    rcases List.mem_cons.mp hy with rfl | hy
    · exact kf
    · cases hy
  have N₁ := N.keeps kk
  have x₁ := kk _ _ hx
  have eL : e ≠ s.heap.objs.size := Nat.ne_of_lt (Heap.lt_size hx)
  have vS : [(f, v), ((PySem.Str.ofString "self"), Value.ref e)].lookup ("self" : Str) = some (.ref e) := by
    rw [List.lookup_cons, show ((PySem.Str.ofString "self") == f) = false from beq_eq_false_iff_ne.mpr (Ne.symm f1)]
    rfl
  have vF : [(f, v), ((PySem.Str.ofString "self"), Value.ref e)].lookup f = some v := by
    rw [List.lookup_cons, beq_self_eq_true]
  obtain ⟨oD, hD1, hD2⟩ : ∃ oD, h₁.get? C = some oD ∧ oD.data = .cls { name := nm, bases := bs, mro := .ref C :: bm, ns := NN, qualname := q, hasDict := true, slotNames := sn, subclasses := sub, abstract := ab, collection := col, hasDel := false } := ⟨_, N₁.kin _ _ hC, rfl⟩
  obtain ⟨mb, hb1, hb2⟩ := N₁.blt
  obtain ⟨hp, g, d, tk, os⟩ := s
  obtain ⟨pl, hev⟩ := hev (ksEnv qual (scpT f) hp.objs.size fI (.ref cda) cc)
  refine ks_wpAt_execs_cons (ks_wpAt_Expr_any (ks_wpAt_MethodCall (pl := pl) (ks_wpAt_super_base (f := fI) (cc := cda) ks kc (by decide) rfl (N₁.kin _ _ ho) rfl rfl rfl (N₁.kin _ _ hcode) rfl hvs hfile T.top ?_) hev))
  refine ks_loadName_global rfl ks (loadGlobal_builtin N₁.glob T.su hb1 hb2 ⟨rfl, ?_⟩)
  refine wpAny_loadName_free rfl kc rfl ⟨_, N₁.kin _ _ hcell, rfl⟩ (wpAny_loadName_local rfl lk_self hn vS (ks_wpAny_isType_cls hD1 hD2 ⟨rfl, ?_⟩))
  refine ks_wpAny_call_super hD1 hD2 x₁ rfl (fun c z => nomatch z) (looks_mroIn N₁.kin T.mC) (fun h₂ so k₂ => ?_)
  have N₂ := N₁.keeps k₂
  have x₂ := k₂ _ _ x₁
  have I₂ : InstAt h₂ e (excO C t0) C none := ⟨x₂, rfl, rfl, trivial⟩
  have hm := T.al
  unfold ks_superIn at hm
  rw [hcl] at hm
  refine kxs_getMethod kxs_ValueError so (looks_opaque N₂.kin T.op) (l₀ := .ref C :: bm) (fun A Q E s k q => wpAny_bind ((looks_clsIn N₂.kin hcl) A _ E s k (wpAny_pure q))) rfl N₂.kin hm (I₂.type.andThen (looks_subIn N₂.kin T.vE)) (ks_ne N₂.kin I₂ hcl) (by decide) ?_
  have up : ∀ b o, h₂.get? b = some o → (h₂.push (kxs_mw "ValueError.__init__" e)).get? b = some o := fun b o q => Heap.get?_push_of_some _ q
  have N₃ := N₂.keeps up
  have x₃ := up _ _ x₂
  have hmw : (h₂.push (kxs_mw "ValueError.__init__" e)).get? h₂.objs.size = some (kxs_mw "ValueError.__init__" e) := Heap.get?_push_at rfl rfl
  have he : starEach [.Constant (.str txt) k r3] (ksEnv qual (scpT f) hp.objs.size fI (.ref cda) cc) = (false, eval (.Constant (.str txt) k r3) (ksEnv qual (scpT f) hp.objs.size fI (.ref cda) cc)) :: starEach [] (ksEnv qual (scpT f) hp.objs.size fI (.ref cda) cc) := rfl
  show wpAny _ _ (callWith r4 (.ref h₂.objs.size) [] (backTo r4 (starEach [.Constant (.str txt) k r3] (ksEnv qual (scpT f) hp.objs.size fI (.ref cda) cc))) []) _ _ _
  rw [he]
  refine kxs_callWith (i := "ValueError.__init__") (x := e) rfl (evalArgs_plain (spliced_more (wpAny_Constant_str (spliced_none ⟨hmw, ?_⟩))))
  refine mw_call hmw (N₃.kin _ _ hC) x₃ (by rw [sizeLine_eq]; exact (by decide : 1 ≤ 16777216)) fun h₄ t1 k₄ x₄ => ?_
  have hn₄ : h₄.Ns hp.objs.size (fun y => [(f, v), ((PySem.Str.ofString "self"), Value.ref e)].lookup y) := hn.at fun o q => k₄ _ _ (Ne.symm eL) (up _ _ (k₂ _ _ q))
  have kin₄ : K.In h₄ := fun a o z => k₄ a o (fun y => by rw [y, hnx] at z; cases z) (N₃.kin a o z)
  show _root_.PySem.wpAt _ _ _ (execs [setT f q1 q2 q3 q4] _) _ _ _
  refine wpAt_of_wpAny (wpAny_execs_cons (plainObj_wpAny_Assign_Attribute ?_ (hsw _)))
  refine wpAny_Name (wpAny_loadName_local rfl kf hn₄ vF ?_) f4
  refine wpAny_Name (wpAny_loadName_local rfl lk_self hn₄ vS ?_) (by decide)
  refine set_plain kin₄ (ox := excO C t1) (od := none) ⟨x₄, rfl, rfl, trivial⟩ T.sa ?_
  refine exc_osa kin₄ x₄ hcl (show refsVE (.ref C :: bm) = true from hbm) rfl T.no (fun h₅ tk₅ dx k₅ dn dne x₅ hn₅ => ?_)
  show wpAny _ _ (execs _ _) _ _ _
  have all : ∀ b o, b ≠ e → hp.get? b = some o → h₅.get? b = some o := fun b o hb q => k₅ b o hb (k₄ b o hb (up _ _ (k₂ _ _ (kk _ _ q))))
  refine wpAny_execs_nil (hq h₅ tk₅ dx t1 ⟨all, x₅, ?_, dne, hn₅⟩)
  exact Nat.le_of_lt (Nat.lt_of_lt_of_le hn₄.lt dn)
theorem sup_made (T : Cls1 prog K mg x f C fI) {v : Value} (N : Names K mg s.heap) (hd : A.depth + 1 < recursionLimit)
    (hq : ∀ h' tk e d t1, Made s.heap h' e C d t1 f v → R (.ok (.ret (.ref e))) { s with heap := h', toks := tk }) : codeAny (model prog w) A (.call (.ref C) ⟨[v], []⟩) R s := by
  obtain ⟨nm, q, NN, bs, bm, sn, sub, ab, col, dd, k0, k1, k2, k3, k5, hC, hbm⟩ := T.cls
  obtain ⟨hp, g, dr, tk, os⟩ := s
  have up : ∀ b o, hp.get? b = some o → ((hp.push (kdv_tup [v])).push (excO C hp.objs.size)).get? b = some o := fun b o z => Heap.get?_push_of_some _ (Heap.get?_push_of_some _ z)
  have at1 : ((hp.push (kdv_tup [v])).push (excO C hp.objs.size)).get? (hp.objs.size + 1) = some (excO C hp.objs.size) := by heap_get
  have fresh : K.lookup (hp.objs.size + 1) = none := by
    cases z : K.lookup (hp.objs.size + 1) with
    | none => rfl
    | some o => exact absurd (Nat.lt_of_succ_lt (Heap.lt_size (N.kin _ _ z))) (Nat.lt_irrefl _)
  refine call_own F.excBase_ValueError (fun Y => refsVE_contains Y bm hbm) (N.kin _ _ hC) (looks_findIn N.kin T.iC) (fun self => bind_fn N.kin self T.tI) (by rw [sizeLine_eq]; exact (by decide : 1 ≤ 16777216)) ?_
  refine sup_init (s := ⟨(hp.push (kdv_tup [v])).push (excO C hp.objs.size), g, dr, tk, os⟩) T (N.keeps up) at1 fresh (show A.depth + 1 < recursionLimit from hd) fun h' tk' dx t1 L => ?_
  refine ⟨rfl, hq h' tk' (hp.objs.size + 1) dx t1 ⟨fun b o z => L.kp b o (Nat.ne_of_lt (Nat.lt_succ_of_lt (Heap.lt_size z))) (up b o z), Nat.le_succ _, L.ob, ?_, L.ne, L.ns⟩⟩
  have z := L.big
  simp only [Heap.size_push] at z
  show hp.objs.size ≤ dx
  omega
end
end SX
namespace DX
open PySem PySem.Spec PyProof.Rows L2
/-- C(a), C an own exception with one field -/
def tMk1 (C : Addr) (f : Str) (ta : TA) : L2.St → Hp → XK → Prop := fun σ H Q => ta σ H fun vs H1 => ∃ v, vs = [v] ∧ ∀ d, H1 d = none → Q (.ref C) (some d) (upd H1 d (.xd [(f, v)]))
theorem relO_one {f : Str} {v : V} {u : Value} (r : RelV v u) (y : Str) : RelO (List.lookup y [(f, v)]) (if y = f then some u else none) := by
  rw [List.lookup_cons]
  by_cases h : y = f
  · rw [if_pos h, h, beq_self_eq_true]
    exact r
  · rw [if_neg h, show (y == f) = false from beq_eq_false_iff_ne.mpr h]
    trivial
theorem names_of {X : Cx} {pins : List (Addr × Obj)} {σ : L2.St} {H : Hp} {s : Shared} (I : Inv X pins σ H s) : SX.Names X.K X.mg s.heap :=
  ⟨I.kIn, I.mod.glob.keeps I.bk, let ⟨mb, h1, h2⟩ := I.mod.blt; ⟨mb, h1.keeps I.bk, (h2 _ (by decide)).trans PyProof.Rows.Boot.«super»⟩, I.nolimit⟩
theorem pmk_one {X : Cx} {x f : Str} {C fI : Addr} {a : Expr} {ta : TA} {p pos : Pos} {k : Nat} (T : SX.Cls1 X.prog X.K X.mg x f C fI) (hr : Room k X.A) (ha : PA X [a] ta) (hg : Gl X x) (hdb : (x == ("__debug__" : Str)) = false := by decide)
    (he : starEach (a :: []) X.env = (false, eval a X.env) :: starEach [] X.env := by rfl) (hpl : (backTo pos (starEach [] X.env)).any (·.1) = false := by rfl) : PMk X (.Call (.Name x p) [a] [] pos) (tMk1 C f ta) := by
  intro pins s σ H Q I h
  refine wpAny_Call_Name_kw (ld_glob I hg T.gC ?_ hdb)
  refine PySem.W.callWith_K (h₀ := X.base) I.ok.mod.kin T.kC (thn (ha.run pos pins s σ H _ I h) fun us s1 ⟨vs, H1, I1, r1, v, ev, q1⟩ => ⟨I1.kIn, ?_⟩) he hpl
  subst ev
  cases r1 with
  | @cons _ u _ ur rv rn =>
    cases rn
    have N1 := names_of I1
    obtain ⟨hp, g, dr, tk, os⟩ := s1
    refine wpAny_call (SX.sup_made T N1 (by have := hr.dp; omega) fun h' tk' e d t1 W => ?_)
    obtain ⟨G, g1, g2⟩ := restrict h' fun b => decide (b ≠ e)
    have same : ∀ b, b ≠ e → G.get? b = h'.get? b := fun b hb => g1 b (decide_eq_true hb)
    have gone : G.get? e = none := g2 e (by simp)
    have J : Inv X pins σ (upd H1 d (.xd [(f, v)])) ⟨G, g, dr, tk', os⟩ :=
      I1.laid (t' := tk') (fun b o q => (same b (Nat.ne_of_lt (Nat.lt_of_lt_of_le (Heap.lt_size q) W.new))).trans (W.kp b o q)) W.big ⟨_, W.ns.at fun o q => (same d W.ne).trans q, relO_one rv⟩
    refine ⟨e, _, _, ⟨G, g, dr, tk', os⟩, _, .ref C, some d, rfl, J, fun b o q => ?_, gone, W.ob, ⟨rfl, rfl⟩, rfl, rfl, ?_, rfl, I1.bare, raises_own T.eC T.tC, q1 d (I1.hok.fresh W.big)⟩
    · by_cases hb : b = e
      · have q : G.get? b = some o := q
        rw [hb, gone] at q
        cases q
      · exact (same b hb).symm.trans q
    · rw [upd_ne (Ne.symm W.ne)]
      exact I1.hok.fresh W.new
end DX
namespace DX
open PySem PySem.Spec PyProof.Rows L2
def mRaise1 (x f : Str) (w : Wv) : M Fl := fun cs => match w with
  | .dat d => .exc ⟨x, [(f, d)]⟩ cs
  | .cel _ => .bad
def sRaise1 (x f : Str) (g : Ev) : Sv := fun env => M.bind (g env) (mRaise1 x f)
def wXf (Ds : List Addr) (f : Str) : Wv → Option Wv
  | .dat (.exn C l) => if decide (C ∈ Ds) = true then (l.lookup f).map .dat else none
  | _ => none
def mXf (Ds : List Addr) (f : Str) (w : Wv) : M Wv := fun cs => M.opt (wXf Ds f w) cs
def eXf (Ds : List Addr) (f : Str) (g : Ev) : Ev := fun env => M.bind (g env) (mXf Ds f)
section
variable [TabT] {X : Cx} {E : XK} {a e : Expr} {f g : Ev} {pos : Pos}
theorem sv_raise1 {x n : Str} {C fI : Addr} {p pos2 : Pos} {k : Nat} (hc : X.calm = true) (tk : Takes X fun cls d _ H => E cls d H) (T : SX.Cls1 X.prog X.K X.mg x n C fI) (hr : Room k X.A) (ha : EV X E a g) (hg : Gl X x) (hdb : (x == ("__debug__" : Str)) = false := by decide)
    (he : starEach (a :: []) X.env = (false, eval a X.env) :: starEach [] X.env := by rfl) (hpl : (backTo pos2 (starEach [] X.env)).any (·.1) = false := by rfl) : SV X E (.Raise (some (.Call (.Name x p) [a] [] pos2)) none pos) (sRaise1 x n g) :=
  PS.imp (ps_raise hc tk (pmk_one T hr (pa_cons ha pa_nil (hs := he)) hg hdb he hpl)) fun D σ H ⟨env, cs, ω, hs, hk, h⟩ => ⟨env, cs, ω, hs, hk, h.bind.imp fun w ω1 cs1 H1 l1 k1 h1 v rv => ⟨v, rfl, fun d hd => by
    cases w with
    | cel k => exact (show False from h1).elim
    | dat dt =>
      have h1 : ∀ C ω' H', X.mg x = some (.ref C) → Le ω1 ω' → Ok X.K ω' H' cs1 → ∀ dd xs, H' dd = none → RepF X.K ω'.Hs xs [(n, dt)] → E (.ref C) (some dd) (upd H' dd (.xd xs)) := h1
      exact h1 C ω1 H1 T.gC (Le.refl _) k1 d [(n, v)] hd (.cons rv .nil)⟩⟩
theorem pe_xft {te : TE} {n : Str} (he : PE X e te) (hb : attributeBase e n X.env (eval e X.env) = eval e X.env := by rfl) : PE X (.Attribute e n pos) (fun σ H Q => te σ H fun x H1 => ∃ (p C dd : Addr) (fs : List (Str × V)) (v : V), x = .ref p ∧ H1 p = some (ExT C (some dd) p) ∧ H1 dd = some (.xd fs) ∧ fs.lookup n = some v ∧ XfC X.K C ∧ PySem.W.findIn X.K (.ref C) n = some none ∧ Q v H1) := by
  refine ⟨fun pins s σ H Q I h => attr_of hb (thn (he.run pins s σ H _ I h) fun u s1 ⟨x, H1, I1, rx, p, C, dd, fs, v, ex, hp, hd, hl, T, hno, q⟩ => ?_)⟩
  subst ex
  obtain rfl : u = Value.ref p := rx
  obtain ⟨⟨oe, vs, ho, hz, hv⟩, _, _⟩ := I1.hok p _ hp
  obtain ⟨mA, hns, hr⟩ := (show ObjOk X.prog X.w H1 s1.heap dd (.xd fs) from I1.hok dd _ hd)
  obtain ⟨od, hod, hlk⟩ := lookIn_ns hns
  have rn := hr n
  rw [hl] at rn
  cases hm : mA n with
  | none => rw [hm] at rn; exact rn.elim
  | some u =>
    rw [hm] at rn
    exact HandSPX.exc_get I1.kIn (C := C) (ox := oe) (od := some od) ⟨ho, hz.1, by unfold PySem.W.notCls; rw [hv] <;> rfl, by rw [hz.2]; exact hod⟩ T.ga T.gg T.exC (PySem.W.findObj_own T.hdC hno rfl (by rw [hlk, hm])) (handed_of rn) ⟨v, H1, I1.tok _, rn, q⟩
theorem RepF.at {K : Frag} {H : Hp} {n : Str} : ∀ {xs : List (Str × V)} {ds : List (Str × Dt)} {d : Dt}, RepF K H xs ds → ds.lookup n = some d → ∃ v, xs.lookup n = some v ∧ RepD K H v d
  | _, [], _, _, e => nomatch e
  | _, (m, d) :: ds, _, h, e => by
    cases h with
    | cons h1 h2 =>
      rw [List.lookup_cons] at e ⊢
      cases q : (n == m) with
      | true =>
        rw [q] at e
        cases e
        exact ⟨_, rfl, h1⟩
      | false =>
        rw [q] at e
        exact RepF.at h2 e
theorem ev_xf {n : Str} {Ds : List Addr} (hD : ∀ D ∈ Ds, XfC X.K D ∧ PySem.W.findIn X.K (.ref D) n = some none) (he : EV X E e g) (hb : attributeBase e n X.env (eval e X.env) = eval e X.env := by rfl) : EV X E (.Attribute e n pos) (eXf Ds n g) :=
  PE.imp (pe_xft he hb) fun σ H Q ⟨env, cs, ω, hs, hk, h⟩ => ⟨env, cs, ω, hs, hk, h.bind.imp fun w ω1 cs1 H1 l1 k1 h1 v rv => by
    cases w with
    | cel k => exact (show False from h1).elim
    | dat dt =>
      cases dt with
      | exn C l =>
        obtain ⟨y, e1, h2⟩ := Out.opt (show Out X.K X.mg E ω1 (M.opt (wXf Ds n (.dat (.exn C l))) cs1) _ from h1)
        have e1 : (if decide (C ∈ Ds) = true then (l.lookup n).map Wv.dat else none) = some y := e1
        split at e1
        · rename_i hC
          obtain ⟨hx, hn⟩ := hD C (of_decide_eq_true hC)
          cases hl : l.lookup n with
          | none => rw [hl] at e1; cases e1
          | some d =>
            rw [hl] at e1
            cases e1
            cases rv with
            | exn ha hF hr =>
              obtain ⟨u, hu, ru⟩ := hr.at hl
              rcases hF with ⟨_, rfl⟩ | ⟨_, dd, rfl, hdd⟩
              · cases hu
              · exact ⟨_, C, dd, _, u, rfl, k1.ex _ _ ha, k1.ex _ _ hdd, hu, hx, hn, h2.now k1 u ru⟩
        · cases e1
      | _ => exact (show False from h1).elim⟩
end
section
variable {f g : Ev} {env : En} {cs : List Cell} {x n : Str} {d : Dt} {Ds : List Addr} {C : Addr} {l : List (Str × Dt)}
theorem k_r1e : sRaise1 x n g env cs = rb (g env cs) (mRaise1 x n) := mb _ _ _
theorem k_r1 : mRaise1 x n (.dat d) cs = .exc ⟨x, [(n, d)]⟩ cs := (rfl)
theorem k_xfe : eXf Ds n f env cs = rb (f env cs) (mXf Ds n) := mb _ _ _
theorem k_xf (h : C ∈ Ds) : mXf Ds n (.dat (.exn C ((n, d) :: l))) cs = .ok (.dat d) cs := by
  unfold mXf wXf
  dsimp only
  rw [if_pos (decide_eq_true h), List.lookup_cons, beq_self_eq_true]
  rfl
end
def kApp2 (ws zs : List Wv) : M (List Wv) := M.ret (ws ++ zs)
def kApp (np : Nat) (h : EvA) (env : En) (ws : List Wv) : M (List Wv) := if ws.length = np then M.bind (h env) (kApp2 ws) else M.bad
def aApp (np : Nat) (g h : EvA) : EvA := fun env => M.bind (g env) (kApp np h env)
section
variable [TabT] {X : Cx} {E : XK} {gd : Bool} {k np : Nat} {f : Addr} {fd : FuncData} {ps ks : List Str} {m : Fn} {x : Str} {e : Expr} {es : List Expr} {kws : List Keyword} {g h : EvA} {p pos : Pos}
theorem RepWs.more {K : Frag} {ω ω' : Wo} {vs us : List V} {ws zs : List Wv} (a : RepWs K ω vs ws) (l : Le ω ω') (b : RepWs K ω' us zs) : RepWs K ω' (vs ++ us) (ws ++ zs) := (a.mono l).app b
end
section
variable {g h : EvA} {env : En} {cs : List Cell} {np : Nat} {u v : Wv} {ws zs : List Wv}
theorem s_aapp : aApp np g h env cs = rb (g env cs) (kApp np h env) := mb _ _ _
theorem k_app1 : kApp 1 h env [u] cs = rb (h env cs) (kApp2 [u]) := mb _ _ _
theorem k_app2 : kApp 2 h env [u, v] cs = rb (h env cs) (kApp2 [u, v]) := mb _ _ _
theorem k_appc1 : kApp2 [u] zs cs = .ok (u :: zs) cs := (rfl)
theorem k_appc2 : kApp2 [u, v] zs cs = .ok (u :: v :: zs) cs := (rfl)
end
end DX
namespace DX
open PySem PySem.Spec PyProof.Rows L2
section
variable [TabT] {X : Cx} {E : XK} {a b e e2 e3 : Expr} {f : Ev} {g ga : EvA} {tg : Expr} {p p2 pos pos2 apos cpos : Pos}
theorem RepWs.reverse {K : Frag} {ω : Wo} : ∀ {vs : List V} {ws : List Wv}, RepWs K ω vs ws → RepWs K ω vs.reverse ws.reverse
  | _, _, .nil => .nil
  | _, _, .cons h r => by
    rw [List.reverse_cons, List.reverse_cons]
    exact (RepWs.reverse r).app (.cons h .nil)
end
end DX
namespace DX
open PySem PySem.Spec PyProof.Rows L2
section
variable [TabT] {X : Cx} {E : XK} {pos : Pos}
theorem evV (i : Nat) {x : Str} (hN : X.N[i]? = some x := by rfl) (hv : Vis X.env.scope x := by first | exact .inl rfl | exact .inr (.inl rfl) | exact .inr (.inr rfl)) (hd : (x == ("__debug__" : Str)) = false := by decide) (hcd : (x == ("__classdict__" : Str)) = false := by decide) : EV X E (.Name x pos) (eVar i) := ev_var hN hv hd hcd
end
def mPutL (x y w : Wv) : M Unit := fun cs => match x, y with
  | .cel k, .dat (.int i) => match cs[k]? with
    | some (.lst l) => match ixN l.length i with
      | some j => .ok () (cs.set k (.lst (l.set j w)))
      | none => .bad
    | _ => .bad
  | _, _ => .bad
theorem RepWs.put {K : Frag} {ω : Wo} {vs : List V} {ws : List Wv} (r : RepWs K ω vs ws) {v : V} {w : Wv} (h : RepW K ω v w) : ∀ j : Nat, RepWs K ω (vs.set j v) (ws.set j w) := by
  induction r with
  | nil => intro j; exact .nil
  | cons h1 h2 ih =>
    intro j
    cases j with
    | zero => exact .cons h h2
    | succ j => exact .cons h1 (ih j)
end DX
namespace DX
open PySem PySem.Spec PyProof.Rows L2
structure ZSt (h : Heap) (z TI TO i1 i2 l1 l2 S : Addr) (us ws : List Value) (i : Nat) : Prop where
  ti : IsPair h TI (.ref i1) (.ref i2)
  h1 : h.IsListIter i1 l1 i
  h2 : h.IsListIter i2 l2 i
  g1 : h.IsList l1 us.toArray
  g2 : h.IsList l2 ws.toArray
  st : (IsZip h z TI TO .none ∧ ∃ a b, IsPair h TO a b) ∨ ∃ T f oT, IsZipHeld h z TI TO T f ∧ h.get? T = some oT ∧ T ≠ z ∧ T ≠ i1 ∧ T ≠ i2 ∧ T ≠ S
structure ZOff (z TI TO i1 i2 l1 l2 S : Addr) : Prop where
  z : S ≠ z
  ti : S ≠ TI
  to : S ≠ TO
  i1 : S ≠ i1
  i2 : S ≠ i2
  l1 : S ≠ l1
  l2 : S ≠ l2
theorem ZSt.frame {h h' : Heap} {z TI TO i1 i2 l1 l2 S : Addr} {us ws : List Value} {i : Nat} (o : ZOff z TI TO i1 i2 l1 l2 S) (st : ZSt h z TI TO i1 i2 l1 l2 S us ws i) (hk : ∀ b ob, b ≠ S → h.get? b = some ob → h'.get? b = some ob) : ZSt h' z TI TO i1 i2 l1 l2 S us ws i := by
  obtain ⟨a1, a2, a3, a4, a5, a6⟩ := st
  refine ⟨hk _ _ (Ne.symm o.ti) a1, a2.at fun q e => hk _ q (Ne.symm o.i1) e, a3.at fun q e => hk _ q (Ne.symm o.i2) e, a4.at fun q e => hk _ q (Ne.symm o.l1) e, a5.at fun q e => hk _ q (Ne.symm o.l2) e, ?_⟩
  rcases a6 with ⟨hz, a, b, hTO⟩ | ⟨T, f, oT, hz, hT, r1, r2, r3, r4⟩
  · exact .inl ⟨hk _ _ (Ne.symm o.z) hz, a, b, hk _ _ (Ne.symm o.to) hTO⟩
  · exact .inr ⟨T, f, oT, hk _ _ (Ne.symm o.z) hz, hk _ _ r4 hT, r1, r2, r3, r4⟩
end DX
namespace DX
open PySem PySem.Spec PyProof.Rows L2
def gO (x y : Wv) (cs : List Cell) : Option (Option Wv) := match x, y with
  | .dat (.dic l), .dat d => (keyOf d).map fun k => (valK l k).map .dat
  | .dat (.dit l), .dat d => (keyT d).map fun k => (valT l k).map .dat
  | .cel i, .dat d => match cs[i]? with
    | some (.dic l) => (keyOf d).map fun k => valK l k
    | some (.lck l) => (keyOf d).map fun k => valK l k
    | some (.dit _ l) => (keyT d).map fun k => valT l k
    | _ => none
  | _, _ => none
def isDicO (x : Wv) (cs : List Cell) : Bool := match x with
  | .dat (.dic _) => true
  | .dat (.dit _) => true
  | .cel i => match cs[i]? with
    | some (.dic _) => true
    | some (.lck _) => true
    | some (.dit _ _) => true
    | _ => false
  | _ => false
/-- the look-up's answer and its reading -/
def RepO (K : Frag) (ω : Wo) (r : Option V) (o : Option Wv) : Prop := match o with
  | some w => ∃ v, r = some v ∧ RepW K ω v w
  | none => r = none
def mGet (x y : Wv) : M (Option Wv) := fun cs => M.opt (gO x y cs) cs
def isDM (x : Wv) : M Unit := fun cs => if isDicO x cs = true then .ok () cs else .bad
def eHasT (neg : Bool) (f g : Ev) : Ev := fun env => M.bind (f env) fun x => M.bind (g env) fun y => M.bind (mGet y x) fun o => M.ret (.dat (.bl (if neg then !o.isSome else o.isSome)))
def eGet2 (f g h : Ev) : Ev := fun env => M.bind (f env) fun x => M.bind (isDM x) fun _ => M.bind (g env) fun y => M.bind (h env) fun z => M.bind (mGet x y) fun o => M.ret (o.getD z)
section
variable [TabT] {X : Cx} {E : XK} {a b c : Expr} {f g h : Ev} {pos apos cpos : Pos}
theorem RepO.some {K : Frag} {ω : Wo} {r : Option V} {o : Option Wv} (h : RepO K ω r o) : r.isSome = o.isSome := by
  cases o with
  | none => rw [show r = none from h]; rfl
  | some w => obtain ⟨v, rfl, _⟩ := h; rfl
theorem RepO.getD {K : Frag} {ω : Wo} {r : Option V} {o : Option Wv} {d : V} {z : Wv} (h : RepO K ω r o) (hd : RepW K ω d z) : RepW K ω (r.getD d) (o.getD z) := by
  cases o with
  | none => rw [show r = none from h]; exact hd
  | some w => obtain ⟨v, rfl, hv⟩ := h; exact hv
end
def putT {α : Type} (l : List (List Key × α)) (k : List Key) (w : α) : List (List Key × α) := if (l.any fun p => decide (p.1 = k)) = true then l.map (fun p => if p.1 = k then (p.1, w) else p) else l ++ [(k, w)]
theorem RepWt.any {K : Frag} {ω : Wo} {vs : List (List Key × V)} {ws : List (List Key × Wv)} (r : RepWt K ω vs ws) (k : List Key) : (vs.any fun p => decide (p.1 = k)) = ws.any fun p => decide (p.1 = k) := by
  induction r with
  | nil => rfl
  | cons _ _ ih => simp only [List.any_cons, ih]
theorem RepWt.map {K : Frag} {ω : Wo} {k : List Key} {v : V} {w : Wv} {vs : List (List Key × V)} {ws : List (List Key × Wv)} (r : RepWt K ω vs ws) (h : RepW K ω v w) : RepWt K ω (vs.map fun p => if p.1 = k then (p.1, v) else p) (ws.map fun p => if p.1 = k then (p.1, w) else p) := by
  induction r with
  | nil => exact .nil
  | @cons k' v' vs' w' ws' h1 _ ih =>
    simp only [List.map_cons]
    by_cases e : k' = k
    · simp only [e, if_true]
      exact .cons h ih
    · simp only [e, if_false]
      exact .cons h1 ih
theorem RepWt.app {K : Frag} {ω : Wo} {vs us : List (List Key × V)} {ws zs : List (List Key × Wv)} (r : RepWt K ω vs ws) (q : RepWt K ω us zs) : RepWt K ω (vs ++ us) (ws ++ zs) := by
  induction r with
  | nil => exact q
  | cons h1 _ ih => exact .cons h1 ih
theorem RepWt.put {K : Frag} {ω : Wo} {k : List Key} {v : V} {w : Wv} {vs : List (List Key × V)} {ws : List (List Key × Wv)} (r : RepWt K ω vs ws) (h : RepW K ω v w) : RepWt K ω (putK vs k v) (putT ws k w) := by
  unfold putK putT
  rw [r.any k]
  split
  · exact r.map h
  · exact r.app (.cons h .nil)
theorem RepWt.len {K : Frag} {ω : Wo} {vs : List (List Key × V)} {ws : List (List Key × Wv)} (r : RepWt K ω vs ws) : vs.length = ws.length := by
  induction r with
  | nil => rfl
  | cons _ _ ih => simp [ih]
def mPutT (x y w : Wv) : M Unit := fun cs => match x, y with
  | .cel k, .dat y => match cs[k]?, keyT y with
    | some (.dit false l), some key => if decide (l.length < 16777216) = true then .ok () (cs.set k (.dit false (putT l key w))) else .bad
    | _, _ => .bad
  | _, _ => .bad
def sPutT (fo fi fv : Ev) : Sv := fun env => M.bind (fv env) fun w => M.bind (fo env) fun x => M.bind (fi env) fun y => M.bind (mPutT x y w) fun _ => M.ret (.nx env)
/-- l[i], m[j] = pair -/
def sPutTup (fo fi go gi fv : Ev) : Sv := fun env => M.bind (fv env) fun w => match w with
  | .dat (.tup [d, e]) => M.bind (fo env) fun x => M.bind (fi env) fun y => M.bind (mPutL x y (.dat d)) fun _ => M.bind (go env) fun x' => M.bind (gi env) fun y' => M.bind (mPutL x' y' (.dat e)) fun _ => M.ret (.nx env)
  | _ => M.bad
/-- l[i] = m[j] = x -/
def sPut2 (fo fi go gi fv : Ev) : Sv := fun env => M.bind (fv env) fun w => M.bind (fo env) fun x => M.bind (fi env) fun y => M.bind (mPutL x y w) fun _ => M.bind (go env) fun x' => M.bind (gi env) fun y' => M.bind (mPutL x' y' w) fun _ => M.ret (.nx env)
def frzAll : List Wv → M (List Dt)
  | [] => M.ret []
  | w :: ws => M.bind (mFrz w) fun x => match x with
    | .dat d => M.bind (frzAll ws) fun ds => M.ret (d :: ds)
    | .cel _ => M.bad
/-- a live list of live lists -/
def mFrz2 (w : Wv) : M Wv := fun cs => match w with
  | .cel k => match cs[k]? with
    | some (.lst ws) => M.bind (frzAll ws) (fun ds => fun cs' => if cs'[k]? = none then .bad else match cs'[k]? with
      | some (.lst _) => .ok (.dat (.lst ds)) (cs'.set k .dead)
      | _ => .bad) cs
    | _ => .bad
  | _ => .bad
def eFrz2 (f : Ev) : Ev := fun env => M.bind (f env) mFrz2
end DX
namespace DX
open PySem PySem.Spec PyProof.Rows L2
def loopD (put : Wv → Wv → Wv → M Unit) (c : Wv) (t : Tg) (p : EvT) (fk fv : Ev) (env : En) : List Wv → M Unit
  | [] => M.ret ()
  | w :: ws => M.bind (M.opt (t w env)) fun env' => M.bind (M.nx (p env')) fun b => if b = true then M.bind (M.nx (fk env')) fun y => M.bind (M.nx (fv env')) fun z => M.bind (put c y z) fun _ => loopD put c t p fk fv env ws else loopD put c t p fk fv env ws
/-- a dict comprehension: the new dict is a cell -/
def eDc (e0 : Cell) (put : Wv → Wv → Wv → M Unit) (fi : EvI) (t : Tg) (p : EvT) (fk fv : Ev) (own : List Nat) : Ev := fun env => M.bind (fi env) fun ws => if szOk ws.length = true then M.bind (mCell e0) fun c => M.bind (loopD put c t p fk fv (wipeE env own) ws) fun _ => M.ret c else M.bad
end DX
namespace DX
open PySem PySem.Spec PyProof.Rows L2
def kMulA (x y : Wv) : M (List Wv) := match x, y with
  | .dat (.lst z), .dat (.int n) => if (decide (0 ≤ n) && decide (n ≤ 16777216) && szOk (z.length * n.toNat)) = true then M.ret ((List.replicate n.toNat z).flatten.map .dat) else M.bad
  | _, _ => M.bad
def fMul (f g : Ev) : EvF := fun env => M.bind (f env) fun x => M.bind (g env) fun y => kMulA x y
section
variable {d x y z : Dt} {u v w : Wv} {cs cs1 : List Cell} {env : En} {f g h : Ev} {fo fi go gi fv : Ev} {i j : Nat} {o : Option Wv} {neg : Bool} {b : Bool} {kt : List (List Key × Wv)} {ky : List Key} {n : Int} {zs : List Dt}
def rH (neg : Bool) (o : Option (Option Wv)) (cs : List Cell) : R Wv := match o with
  | some o => .ok (.dat (.bl (if neg then !o.isSome else o.isSome))) cs
  | none => .bad
def rG (o : Option (Option Wv)) (z : Wv) (cs : List Cell) : R Wv := match o with
  | some o => .ok (o.getD z) cs
  | none => .bad
def kHasT (neg : Bool) (g : Ev) (env : En) (x : Wv) : M Wv := M.bind (g env) fun y => M.bind (mGet y x) fun o => M.ret (.dat (.bl (if neg then !o.isSome else o.isSome)))
def kHasT2 (neg : Bool) (x y : Wv) : M Wv := M.bind (mGet y x) fun o => M.ret (.dat (.bl (if neg then !o.isSome else o.isSome)))
theorem s_hasT : eHasT neg f g env cs = rb (f env cs) (kHasT neg g env) := mb _ _ _
theorem k_hasT : kHasT neg g env u cs = rb (g env cs) (kHasT2 neg u) := mb _ _ _
theorem k_hasT2 : kHasT2 neg u v cs = rH neg (gO v u cs) cs := by
  unfold kHasT2 rH
  rw [mb]
  unfold mGet
  cases gO v u cs <;> rfl
theorem k_rH : rH neg (some o) cs = .ok (.dat (.bl (if neg then !o.isSome else o.isSome))) cs := (rfl)
def kGet2 (g h : Ev) (env : En) (x : Wv) : M Wv := M.bind (isDM x) fun _ => M.bind (g env) fun y => M.bind (h env) fun z => M.bind (mGet x y) fun o => M.ret (o.getD z)
def kGet2b (h : Ev) (env : En) (x y : Wv) : M Wv := M.bind (h env) fun z => M.bind (mGet x y) fun o => M.ret (o.getD z)
def kGet2c (x y z : Wv) : M Wv := M.bind (mGet x y) fun o => M.ret (o.getD z)
theorem s_get2 : eGet2 f g h env cs = rb (f env cs) (kGet2 g h env) := mb _ _ _
theorem k_get2 (hd : isDicO u cs = true) : kGet2 g h env u cs = rb (g env cs) (kGet2b h env u) := by
  unfold kGet2
  rw [mb]
  unfold isDM
  rw [if_pos hd]
  exact mb _ _ _
theorem k_get2b : kGet2b h env u v cs = rb (h env cs) (kGet2c u v) := mb _ _ _
theorem k_get2c : kGet2c u v w cs = rG (gO u v cs) w cs := by
  unfold kGet2c rG
  rw [mb]
  unfold mGet
  cases gO u v cs <;> rfl
theorem k_rG : rG (some o) w cs = .ok (o.getD w) cs := (rfl)
theorem cix_dit : cIx (some (.dit b kt)) y = (keyT y).bind fun k => valT kt k := (rfl)
def kPutT (fo fi : Ev) (env : En) (w : Wv) : M Fl := M.bind (fo env) fun x => M.bind (fi env) fun y => M.bind (mPutT x y w) fun _ => M.ret (.nx env)
def kPutT2 (fi : Ev) (env : En) (w x : Wv) : M Fl := M.bind (fi env) fun y => M.bind (mPutT x y w) fun _ => M.ret (.nx env)
def kPutT3 (env : En) (w x y : Wv) : M Fl := M.bind (mPutT x y w) fun _ => M.ret (.nx env)
theorem s_putT : sPutT fo fi f env cs = rb (f env cs) (kPutT fo fi env) := mb _ _ _
theorem k_putT : kPutT fo fi env w cs = rb (fo env cs) (kPutT2 fi env w) := mb _ _ _
theorem k_putT2 : kPutT2 fi env w u cs = rb (fi env cs) (kPutT3 env w u) := mb _ _ _
theorem k_putT3 : kPutT3 env w u v cs = rb (mPutT u v w cs) (kPut4 env) := mb _ _ _
def kLA (fo fi : Ev) (env : En) (k : M Fl) (w : Wv) : M Fl := M.bind (fo env) fun x => M.bind (fi env) fun y => M.bind (mPutL x y w) fun _ => k
def kLB (fi : Ev) (env : En) (k : M Fl) (w x : Wv) : M Fl := M.bind (fi env) fun y => M.bind (mPutL x y w) fun _ => k
def kLC (k : M Fl) (w x y : Wv) : M Fl := M.bind (mPutL x y w) fun _ => k
def kLD (k : M Fl) (_ : Unit) : M Fl := k
def kNx (env : En) : M Fl := M.ret (.nx env)
def kP2 (fo fi go gi : Ev) (env : En) (w : Wv) : M Fl := kLA fo fi env (kLA go gi env (kNx env) w) w
def kPT (fo fi go gi : Ev) (env : En) (w : Wv) : M Fl := match w with
  | .dat (.tup [d, e]) => kLA fo fi env (kLA go gi env (kNx env) (.dat e)) (.dat d)
  | _ => M.bad
theorem s_put2 : sPut2 fo fi go gi fv env cs = rb (fv env cs) (kP2 fo fi go gi env) := mb _ _ _
theorem k_p2 : kP2 fo fi go gi env w cs = kLA fo fi env (kLA go gi env (kNx env) w) w cs := (rfl)
theorem s_putTup : sPutTup fo fi go gi fv env cs = rb (fv env cs) (kPT fo fi go gi env) := by
  unfold sPutTup
  rw [mb]
  congr 1
theorem k_pt : kPT fo fi go gi env (.dat (.tup [x, y])) cs = kLA fo fi env (kLA go gi env (kNx env) (.dat y)) (.dat x) cs := (rfl)
variable {k : M Fl}
theorem k_la : kLA fo fi env k w cs = rb (fo env cs) (kLB fi env k w) := mb _ _ _
theorem k_lb : kLB fi env k w u cs = rb (fi env cs) (kLC k w u) := mb _ _ _
theorem k_lcc : kLC k w u v cs = rb (mPutL u v w cs) (kLD k) := mb _ _ _
theorem k_ld {un : Unit} : kLD k un cs = k cs := (rfl)
theorem k_nx : kNx env cs = .ok (.nx env) cs := (rfl)
def kMul (g : Ev) (env : En) (x : Wv) : M (List Wv) := M.bind (g env) fun y => kMulA x y
theorem s_fmul : fMul f g env cs = rb (f env cs) (kMul g env) := mb _ _ _
theorem k_mul : kMul g env u cs = rb (g env cs) (kMulA u) := mb _ _ _
theorem k_mulA (h0 : 0 ≤ n) (h1 : zs.length * n.toNat ≤ 16777216) (h2 : n ≤ 16777216) : kMulA (.dat (.lst zs)) (.dat (.int n)) cs = .ok ((List.replicate n.toNat zs).flatten.map .dat) cs := by
  unfold kMulA
  dsimp only
  rw [if_pos (by simp only [Bool.and_eq_true, decide_eq_true_eq]; exact ⟨⟨h0, h2⟩, decide_eq_true h1⟩)]
  rfl
theorem s_frz2 : eFrz2 f env cs = rb (f env cs) mFrz2 := mb _ _ _
variable {e0 : Cell} {put : Wv → Wv → Wv → M Unit} {gi0 : EvI} {t : Tg} {p : EvT} {fk : Ev} {own : List Nat} {ws : List Wv}
def kDc (e0 : Cell) (put : Wv → Wv → Wv → M Unit) (t : Tg) (p : EvT) (fk fv : Ev) (own : List Nat) (env : En) (ws : List Wv) : M Wv := if szOk ws.length = true then M.bind (mCell e0) fun c => M.bind (loopD put c t p fk fv (wipeE env own) ws) fun _ => M.ret c else M.bad
def kDcR (c : Wv) (_ : Unit) : M Wv := M.ret c
theorem s_dc : eDc e0 put gi0 t p fk fv own env cs = rb (gi0 env cs) (kDc e0 put t p fk fv own env) := mb _ _ _
theorem k_dc (h : ws.length ≤ 16777216) : kDc e0 put t p fk fv own env ws cs = rb (loopD put (.cel cs.length) t p fk fv (wipeE env own) ws (cs ++ [e0])) (kDcR (.cel cs.length)) := by
  unfold kDc szOk
  rw [if_pos (decide_eq_true h), mb]
  exact mb _ _ _
theorem k_dcr {un : Unit} : kDcR u un cs = .ok u cs := (rfl)
theorem k_frzT {ks : List (List Key × Dt)} (hc : cs[i]? = some (.dit false kt)) (hd : datT kt = some ks) : mFrz (.cel i) cs = .ok (.dat (.dit ks)) (cs.set i .dead) := by
  unfold mFrz
  dsimp only
  rw [hc]
  show (match (datT kt).map Dt.dit with
    | some d => R.ok (Wv.dat d) (cs.set i .dead)
    | none => .bad) = _
  rw [hd]
  rfl
end
end DX
namespace DX
open PySem PySem.Spec PyProof.Rows L2
def sAug (o : Dt → Dt → Option Dt) (i : Nat) (f : Ev) : Sv := fun env cs => match env[i]? with
  | some (some x) => M.bind (f env) (fun y => M.bind (liftB o x y) fun z => M.ret (.nx (env.set i (some z)))) cs
  | _ => .bad
section
variable {env : En} {cs : List Cell} {f : Ev} {o : Dt → Dt → Option Dt} {i : Nat} {w : Wv} {z : Dt}
def kAug (o : Dt → Dt → Option Dt) (i : Nat) (f : Ev) (env : En) (ow : Option (Option Wv)) : M Fl := fun cs => match ow with
  | some (some x) => M.bind (f env) (fun y => M.bind (liftB o x y) fun z => M.ret (.nx (env.set i (some z)))) cs
  | _ => .bad
def kAug2 (o : Dt → Dt → Option Dt) (i : Nat) (env : En) (x y : Wv) : M Fl := M.bind (liftB o x y) fun z => M.ret (.nx (env.set i (some z)))
def kAug3 (i : Nat) (env : En) (z : Wv) : M Fl := M.ret (.nx (env.set i (some z)))
theorem s_aug : sAug o i f env cs = kAug o i f env env[i]? cs := (rfl)
theorem k_aug : kAug o i f env (some (some w)) cs = rb (f env cs) (kAug2 o i env w) := mb _ _ _
theorem k_aug2 {x y : Wv} : kAug2 o i env x y cs = rb (liftB o x y cs) (kAug3 i env) := mb _ _ _
theorem k_aug3 : kAug3 i env w cs = .ok (.nx (env.set i (some w))) cs := (rfl)
end
end DX
namespace DX
open PySem PySem.Spec PyProof.Rows L2
theorem lamO_ok {P : Program} {w : World} {H : Hp} {h : Heap} {f c' : Addr} {L : LamK} {pm ctv : Value} (e : h.get? f = some (PySem.W.kla_obj "<lambda>" L.q L.pa L.bd L.sc (cloFrom L.cl L.sc.names []) pm c' ctv)) : ObjOk P w H h f (LamO f c' L) :=
  ⟨⟨pm, ctv, e⟩, ⟨_, e⟩, fun _ _ ⟨pm, ctv, q⟩ k => ⟨pm, ctv, k _ q⟩⟩
section
variable {X : Cx} {pins : List (Addr × Obj)} {σ : L2.St} {H HZ : Hp} {s : Shared}
/-- the lambda is made and known from now on -/
theorem lam_new {T : List (Addr × Str)} {c P : Addr} {params : Arguments} {body : Expr} {scope : Scope} {pos : Pos} {E : Value → Shared → Prop} {Q : Value → Shared → Prop} (I : Inv X pins σ H s) (TB : LamX.TabB X.base X.mg c P) (hcode : X.env.code = .ref c)
    (hm : (P, X.env.qual ++ "<lambda>") ∈ T) (hu : ∀ p ∈ T, p.1 = P → p.2 = X.env.qual ++ "<lambda>") (hT : LamX.Tabs T H) (hdef : defaultsOf params X.env = ([], [])) (hfree : ∀ y ∈ scope.names, y.2 = .free → ∃ c, X.env.cells.lookup y.1 = some c)
    (h : ∀ (f c' : Addr) (H1 : Hp) (s' : Shared), LamX.ExtN H H1 → LamX.Tabs T H1 → H1 c' = some (LamX.CodeO c' (X.env.qual ++ "<lambda>")) → H1 f = none → Inv X pins σ (upd H1 f (LamO f c' ⟨X.env.qual ++ "<lambda>", params, body, scope, X.env.cells⟩)) s' → Q (.ref f) s') :
    wpAny (model X.prog X.w) X.A (eval (.Lambda params body scope pos) X.env) Q E s := by
  obtain ⟨ps, hP, ht, ha⟩ := hT _ hm
  have hP' : s.heap.get? P = some { cls := .none, data := .fields ps } := I.hok P _ hP
  have bP : s.heap.BuiltinsAt X.mg P := TB.bm.keeps I.bk
  have go : ∀ (c' : Addr) (ctv pm : Value) (h' : Heap) (tk : Nat) (H1 : Hp), s.heap.objs.size ≤ h'.objs.size → LamX.ExtN H H1 → LamX.Tabs T H1 → H1 c' = some (LamX.CodeO c' (X.env.qual ++ "<lambda>")) → Inv X pins σ H1 { s with heap := h', toks := tk } →
      Q (.ref h'.objs.size) { s with heap := h'.push (PySem.W.kla_obj "<lambda>" (X.env.qual ++ "<lambda>") params body scope (cloFrom X.env.cells scope.names []) pm c' ctv), toks := tk } := fun c' ctv pm h' tk H1 hsz hE hT1 hc I1 => by
    have nf : H1 h'.objs.size = none := I1.hok.fresh (Nat.le_refl _)
    refine h h'.objs.size c' H1 _ hE hT1 hc nf ?_
    exact I1.laid (t' := tk) (h' := h'.push (PySem.W.kla_obj "<lambda>" (X.env.qual ++ "<lambda>") params body scope (cloFrom X.env.cells scope.names []) pm c' ctv)) (fun b o e => Heap.get?_push_of_some _ e) (Nat.le_refl _) (lamO_ok (L := ⟨X.env.qual ++ "<lambda>", params, body, scope, X.env.cells⟩) (pm := pm) (ctv := ctv) (Heap.get?_push_size _ rfl))
  refine PySem.W.kla_eval hdef ?_
  cases hc : codeAmong pos ps.toList with
  | some cv =>
    obtain ⟨c', e, hco⟩ := ha pos cv hc
    subst e
    refine PySem.W.kla_makeFunctionHit (mg := X.mg) (c := c) (P := P) (ps := ps) (closure_ok hfree) I.ok.glob (I.mod.glob.keeps I.bk) hcode (TB.code.keeps I.bk) hP' ht hc bP fun ctv h' tk hx hsz => ?_
    exact go c' ctv _ h' tk H hsz (LamX.ExtN.refl H) hT hco (I.kept fun b o e => hx b o e)
  | none =>
    refine PySem.W.kla_makeFunction (mg := X.mg) (c := c) (P := P) (ps := ps) (closure_ok hfree) I.ok.glob (I.mod.glob.keeps I.bk) hcode (TB.code.keeps I.bk) hP' ht hc TB.gP bP fun c' ctv h' tk hx hge hlt hrec htb => ?_
    obtain ⟨c2, oc, vs, t, e2, hoc, hd, hv⟩ := hrec
    cases e2
    have nC : H c' = none := I.hok.fresh hge
    have hE : LamX.ExtN H (upd (upd H P (.tbl (ps ++ #[rawInt pos.line, rawInt pos.col, .ref c']))) c' (LamX.CodeO c' (X.env.qual ++ "<lambda>"))) := fun b o e n => by
      rw [upd_ne (ne_of_none e nC), upd_ne (fun z => n ps (Option.some.inj (e.symm.trans (by rw [z]; exact hP))))]
      exact e
    refine go c' ctv _ h' tk _ (Nat.le_trans hge (Nat.le_of_lt hlt)) hE (fun p hp => ?_) upd_same (LamX.inv_table (t' := tk) (more := #[rawInt pos.line, rawInt pos.col, .ref c']) I hP (fun b o hb e => hx b o hb e) htb hge ⟨oc, vs, t, hoc, hd, hv⟩)
    by_cases hb : p.1 = P
    · rw [hu p hp hb, hb]
      refine ⟨_, by rw [upd_ne (ne_of_none hP nC), upd_same], ?_, fun p' cv hcv => ?_⟩
      · rw [show (ps ++ #[rawInt pos.line, rawInt pos.col, .ref c']).toList = ps.toList ++ [rawInt pos.line, rawInt pos.col, .ref c'] by simp]
        exact PySem.TriplesOk_snoc _ _ _ _ ht
      · rw [show (ps ++ #[rawInt pos.line, rawInt pos.col, .ref c']).toList = ps.toList ++ [rawInt pos.line, rawInt pos.col, .ref c'] by simp] at hcv
        rcases LamX.among_app _ ht hcv with z | z
        · obtain ⟨c0, e1, e2⟩ := ha p' cv z
          exact ⟨c0, e1, hE _ _ e2 LamX.codeO_ne⟩
        · exact ⟨c', z, upd_same⟩
    · obtain ⟨ps', a1, a2, a3⟩ := hT p hp
      refine ⟨ps', by rw [upd_ne (ne_of_none a1 nC), upd_ne hb]; exact a1, a2, fun p' cv hcv => ?_⟩
      obtain ⟨c0, e1, e2⟩ := a3 p' cv hcv
      exact ⟨c0, e1, hE _ _ e2 LamX.codeO_ne⟩
end
section
variable [TabT] {K : Frag} {ω : Wo} {H : Hp} {cs : List Cell}
/-- what is known of an object becomes known for good -/
theorem Ok.adoptX {q : Addr} {φ : Heap → Prop} (k : Ok K ω H cs) (hq : H q = some (.ext φ)) : ∃ ω', Le ω ω' ∧ Ok K ω' H cs ∧ ω'.Hs q = some (.ext φ) := by
  have hf : ω.fr q = none := by
    cases e : ω.fr q with
    | none => rfl
    | some o =>
      have e2 := k.frx q o e
      rw [hq] at e2
      cases e2
      exact (k.nf q _ e).elim
  cases e : ω.Hs q with
  | some o =>
    have e2 := k.ex q o e
    rw [hq] at e2
    cases e2
    exact ⟨ω, Le.refl ω, k, e⟩
  | none =>
    have le : Le ω ⟨upd ω.Hs q (.ext φ), ω.ad, ω.T, ω.fr⟩ := ⟨Ex.new e, List.prefix_refl _, rfl, rfl⟩
    refine ⟨⟨upd ω.Hs q (.ext φ), ω.ad, ω.T, ω.fr⟩, le, ⟨fun a u h => ?_, k.len, k.nd, fun i a c e1 e2 => ?_, k.tab, k.frx, fun a u h => ?_, fun a u h => ?_, k.nf, k.lk⟩, upd_same⟩
    · have h : upd ω.Hs q (.ext φ) a = some u := h
      by_cases ha : a = q
      · rw [ha, upd_same] at h
        cases h
        rw [ha]
        exact hq
      · rw [upd_ne ha] at h
        exact k.ex a u h
    · have z := k.cel i a c e1 e2
      have ne : a ≠ q := fun ha => by
        subst ha
        cases c with
        | lst ws => obtain ⟨_, vs, h1, _⟩ := z; rw [hq] at h1; cases h1
        | dic ws => obtain ⟨_, vs, h1, _⟩ := z; rw [hq] at h1; cases h1
        | ins C ws => obtain ⟨_, dx, vs, h1, _⟩ := z; rw [hq] at h1; cases h1
        | dead => obtain ⟨o, h1⟩ := z; rw [e] at h1; cases h1
        | lck ws => obtain ⟨_, o, vs, _, h1, _⟩ := z; rw [hq] at h1; cases h1
        | dit b ws =>
          obtain ⟨_, vs, h1, _⟩ := z
          rcases h1.at with h1 | ⟨o, h1⟩ <;> rw [hq] at h1 <;> cases h1
      exact z.mono le (fun h => by show upd ω.Hs q _ a = none; rw [upd_ne ne]; exact h) fun _ h => h
    · have h : ω.fr a = some u := h
      show upd ω.Hs q _ a = none
      rw [upd_ne (ne_of_none h hf)]
      exact k.dj a u h
    · have h : upd ω.Hs q (.ext φ) a = some u := h
      by_cases ha : a = q
      · rw [ha, upd_same] at h
        cases h
        exact True.intro
      · rw [upd_ne ha] at h
        exact k.nt a u h
end
section
variable [TabT] {X : Cx} {E : XK}
def eLam (k : Nat) (L : LamK) : Ev := fun _ => M.ret (.dat (.lam k L))
theorem ev_lam {k : Nat} {c P : Addr} {params : Arguments} {body : Expr} {scope : Scope} {pos : Pos} {L : LamK} (hL : L = ⟨X.env.qual ++ "<lambda>", params, body, scope, X.env.cells⟩) (TB : LamX.TabB X.base X.mg c P) (hcode : X.env.code = .ref c)
    (hmT : (P, X.env.qual ++ "<lambda>") ∈ TabT.T) (hu : ∀ p ∈ TabT.T, p.1 = P → p.2 = X.env.qual ++ "<lambda>") (LS : LamX.LamS X.env.scope scope) (hdef : defaultsOf params X.env = ([], [])) :
    EV X E (.Lambda params body scope pos) (eLam k L) := by
  refine ⟨fun pins s σ H Q I h => ?_⟩
  obtain ⟨env, cs, ω, hs, hk, h⟩ := h
  refine lam_new I TB hcode hmT hu hk.tab hdef (LS.has I.ok) fun f c' H1 s' eN T1 hc nf I1 => ?_
  obtain ⟨ω1, l1, k1, h1⟩ := (hk.extN eN T1).adoptX (q := c') hc
  have k2 := k1.froze (o := LamO f c' L) nf
  have l2 := l1.trans (Le.froze (o := LamO f c' L) k1 nf)
  have h : Out X.K X.mg E ω (.ok (Wv.dat (.lam k L)) cs) _ := h
  have ne : c' ≠ f := fun z => by rw [z, nf] at hc; cases hc
  subst hL
  exact ⟨.ref f, _, I1, rfl, h _ _ l2 k2 _ (.lam upd_same ((upd_ne ne).trans h1))⟩
/-- what the call of a def that catches asks of what it got -/
def GivesL (X : Cx) (Ng : List Str) (x : Str) (sg : Scope) (g : Addr) (cdg : Value) (bg : List Stmt) (a : Str) (TT : (XK → Hp → VK → Prop) → Hp → VK → Prop) : Prop :=
  ∀ (f c' : Addr) (L : LamK) (s : Shared) (H : Hp) (Q : VK) (tl : XK → Hp → VK → Prop),
    (∀ (W : WX) (pn : List (Addr × Obj)) (xe : Value → Shared → Prop) (E : XK) (p1 p2 : Pos), Takes ((cxOf C8.CX0 X.prog X.w X.K X.mg X.base Ng x sg g cdg X.A X.stack s H C8.E0).tr pn xe) W → (∀ cls d σ' H', E cls d H' → W cls d σ' H') →
      PE ((cxOf C8.CX0 X.prog X.w X.K X.mg X.base Ng x sg g cdg X.A X.stack s H C8.E0).tr pn xe) (.Call (.Name a p1) [] [] p2) (fun σZ HZ Q => σZ[0]? = some (some (.ref f)) ∧ HZ f = some (LamO f c' L) ∧ HZ c' = some (LamX.CodeO c' L.q) ∧ tl E HZ Q)) →
    H f = some (LamO f c' L) → H c' = some (LamX.CodeO c' L.q) → TT tl H Q →
    ∃ t, PSs (cxOf C8.CX0 X.prog X.w X.K X.mg X.base Ng x sg g cdg X.A X.stack s H C8.E0).nox bg t ∧ t { nx := fun _ H' => Q .non H', rt := Q } (L2.start Ng [.ref f]) H
theorem act_lam {pins : List (Addr × Obj)} {σ : L2.St} {H : Hp} {s : Shared} {CXg : CXT} {Eg : XK} {Ng : List Str} {qg : Str} {sg : Scope} {g f c' : Addr} {cdg : Value} {L : LamK} {k i : Nat} {a : Str} {pn : List (Addr × Obj)} {xe : Value → Shared → Prop} {W : WX} {E : XK} {tb : TE} {p1 p2 : Pos}
    (I : Inv X pins σ H s) (LS : LamX.LamS X.env.scope L.sc) (hq : L.q = X.env.qual ++ "<lambda>") (hcl : L.cl = X.env.cells)
    (hbind : ∀ (q : Str) (cl : List (Str × Addr)) (pm cv ctv : Value), bindArgs (PySem.W.kla_fn "<lambda>" q L.pa L.bd L.sc cl pm cv ctv) ⟨[], []⟩ = pure [])
    (tk : Takes ((cxOf CXg X.prog X.w X.K X.mg X.base Ng qg sg g cdg X.A X.stack s H Eg).tr pn xe) W) (hW : ∀ cls d σ' H', E cls d H' → W cls d σ' H') (hr : Room (k + 1) (X.A.deeper (envOfC qg sg s.heap.objs.size g cdg)))
    (hbody : ∀ (A : Around) (outer : List Env) (s : Shared) (H : Hp), Room k (A.deeper (LamX.lamEnv X L.sc s.heap.objs.size f c')) → PE (LamX.lamCx X A outer s H E L.sc f c') L.bd tb)
    (hN : Ng[i]? = some a) (hv : Vis sg a) (hd : (a == ("__debug__" : Str)) = false := by decide) (hcd : (a == ("__classdict__" : Str)) = false := by decide) :
    PE ((cxOf CXg X.prog X.w X.K X.mg X.base Ng qg sg g cdg X.A X.stack s H Eg).tr pn xe) (.Call (.Name a p1) [] [] p2)
      (fun σZ HZ Q => σZ[i]? = some (some (.ref f)) ∧ HZ f = some (LamO f c' L) ∧ HZ c' = some (LamX.CodeO c' L.q) ∧ tb σ HZ Q) := by
  obtain ⟨q, pa, bd, sc, cl⟩ := L
  dsimp only at hq hcl
  subst hq hcl
  refine ⟨fun pinsZ sZ σZ HZ Q IZ h => ?_⟩
  obtain ⟨hs, hf, hc, ht⟩ := h
  refine wpAny_Call_Name_kw (thn ((pe_var (pos := p1) (i := i) hN hv hd hcd).run pinsZ sZ σZ HZ (fun v H1 => v = .ref f ∧ H1 = HZ) IZ ⟨.ref f, hs, rfl, rfl⟩) fun u s1 ⟨v, H1, I1, r1, q1⟩ => ?_)
  obtain ⟨ev, eH⟩ := q1
  subst ev
  rw [eH] at I1
  obtain rfl : u = Value.ref f := r1
  obtain ⟨⟨pm, ctv, of1⟩, _, _⟩ := I1.hok f _ hf
  dsimp only at of1
  refine PySem.W.callWith_F0 ⟨_, _, _, _, of1⟩ ?_
  have un : Un (frs X.stack) [] H HZ s.heap s1.heap := I1.base
  obtain ⟨⟨oc, vs, t, hoc, hdc, hvc⟩, _, _⟩ := I1.hok c' _ hc
  have rc : codeAny (model X.prog X.w) (X.A.deeper (envOfC qg sg s.heap.objs.size g cdg)) (.call (.ref f) ⟨[], []⟩) (CR (L2.CX X.prog X.w) (envOfC qg sg s.heap.objs.size g cdg :: X.stack) X.prog X.w HZ s1 Q E) s1 := by
    refine PySem.W.kla_callFunE hr.depth of1 rfl LS.co LS.gen rfl ⟨c', oc, vs, t, rfl, hoc, hdc, hvc⟩ ?_
    rw [hbind]
    refine wpAny_pure (wpAny_newFunctionEnv (fun y hy => (LS.own y hy).2) (fun y hy => absurd hy (by simp)) (fun h₁ hns hsb => ⟨I1.nolimit.fresh _ hsb, ?_⟩) LS.kind)
    show codeAny _ _ (.expr bd (LamX.lamEnv X sc s1.heap.objs.size f c')) _ _
    have kp : ∀ b o, s1.heap.get? b = some o → h₁.get? b = some o := fun b o e => hsb.extBut b o (Nat.ne_of_lt (Heap.lt_size e)) (Heap.get?_push_of_some _ e)
    have J : Inv (LamX.lamCx X (X.A.deeper (envOfC qg sg s.heap.objs.size g cdg)) (envOfC qg sg s.heap.objs.size g cdg :: X.stack) s1 HZ E sc f c') [] σ HZ { s1 with heap := h₁, toks := s1.toks + ([] : List (Str × Value)).length } :=
      LamX.lam_start2 I LS I1.env0 hr.hd un hns kp
    refine PySem.W.kla_codeExpr (wpAny_mono ((hbody _ _ s1 HZ (hr.deeper _)).run [] _ _ HZ Q J ht) (fun v s' hq => ?_) fun e s' hq => hq)
    obtain ⟨w', H', J', rv, q⟩ := hq
    exact ⟨w', H', J'.os, J'.bare, J'.base, J'.hok, rv, q⟩
  have hx : Passes (L2.CX X.prog X.w) ((cxOf CXg X.prog X.w X.K X.mg X.base Ng qg sg g cdg X.A X.stack s H Eg).tr pn xe) E := passes_call tk hW
  refine wpAny_call (codeAny_mono rc fun r s' hq => ?_)
  cases r with
  | error e => exact hx pinsZ σZ HZ s1 e s' I1 hq
  | ok fl =>
    cases fl with
    | ret u => exact I1.after hq
    | next => exact False.elim hq
    | brk => exact False.elim hq
    | cont => exact False.elim hq
/-- the lambdas that a name may hold: number, lambda, reading -/
noncomputable def kLamV (L : List (Str × Addr)) (tb : List (Nat × LamK × Ev)) (env : En) (w : Wv) : M Wv := fun cs => match w with
  | .dat (.lam k J) => match tb.find? (fun q => decide (q.1 = k)) with
    | some q => (open Classical in if J = q.2.1 then mCaught L (q.2.2 env) cs else .bad)
    | none => .bad
  | _ => .bad
noncomputable def eLamV (L : List (Str × Addr)) (i : Nat) (tb : List (Nat × LamK × Ev)) : Ev := fun env => M.bind (eVar i env) (kLamV L tb env)
/-- a lambda of this frame reads so -/
structure HeldL (X : Cx) (E : XK) (k : Nat) (q : Nat × LamK × Ev) : Prop where
  hq : q.2.1.q = X.env.qual ++ "<lambda>"
  hcl : q.2.1.cl = X.env.cells
  LS : LamX.LamS X.env.scope q.2.1.sc
  bind : ∀ (q' : Str) (cl : List (Str × Addr)) (pm cv ctv : Value), bindArgs (PySem.W.kla_fn "<lambda>" q' q.2.1.pa q.2.1.bd q.2.1.sc cl pm cv ctv) ⟨[], []⟩ = pure []
  body : ∀ (A : Around) (outer : List Env) (s : Shared) (H : Hp) (E : XK) (f c' : Addr), Room k (A.deeper (LamX.lamEnv X q.2.1.sc s.heap.objs.size f c')) → EV (LamX.lamCx X A outer s H E q.2.1.sc f c') E q.2.1.bd q.2.2
theorem heldl_n {k : Nat} : ∀ q ∈ ([] : List (Nat × LamK × Ev)), HeldL X E k q := fun _ h => (List.not_mem_nil h).elim
theorem heldl_c {k : Nat} {q : Nat × LamK × Ev} {tb : List (Nat × LamK × Ev)} (h1 : HeldL X E k q) (h2 : ∀ q ∈ tb, HeldL X E k q) : ∀ r ∈ q :: tb, HeldL X E k r := fun r h => (List.mem_cons.mp h).elim (fun e => e ▸ h1) (h2 r)
/-- x(y), y holding one of the lambdas: what is raised becomes the value -/
theorem ev_lamcallV {x a cT y : Str} {g CT : Addr} {k i : Nat} {pg : Arguments} {bg : List Stmt} {sg : Scope} {dV kV doc pm cdv ct oc : Value} {an od : Option Addr} {osl : Array (Option Value)} {Ng : List Str} {L : List (Str × Addr)} {tb : List (Nat × LamK × Ev)} {p p2 pos : Pos}
    (hg : Gl X x) (hm : X.mg x = some (.ref g)) (hk : PySem.W.keepIn X.K (.ref g) = true)
    (lk : X.K.lookup g = some ⟨oc, od, .func (PySem.W.fnOf x x pg bg sg dV kV doc pm an cdv ct), osl⟩) (hcg : PySem.W.codeIn X.K cdv x = true) (hb : L2.Binds X.K (PySem.W.fnOf x x pg bg sg dV kV doc pm an cdv ct) [a] []) (Sg : FnScope Ng [a] sg) (hNg : Ng[0]? = some a) (hva : Vis sg a)
    (hG : GivesL X Ng x sg g cdv bg a (tCaught X.K (.ref CT))) (hL : ∀ x C, L.lookup x = some C → X.mg x = some (.ref C) ∧ PySem.W.exmOne X.K (.ref C) (.ref CT) = some true)
    (hr : Room (k + 2) X.A) (hT : ∀ q ∈ tb, HeldL X E k q) (hN : X.N[i]? = some y) (hv : Vis X.env.scope y)
    (hdb : (x == ("__debug__" : Str)) = false := by decide) (hd : (a == ("__debug__" : Str)) = false := by decide) (hcd : (a == ("__classdict__" : Str)) = false := by decide) (hdy : (y == ("__debug__" : Str)) = false := by decide) (hcy : (y == ("__classdict__" : Str)) = false := by decide)
    (he : starEach [.Name y p2] X.env = (false, eval (.Name y p2) X.env) :: starEach [] X.env := by rfl) (hpl : (backTo pos (starEach [] X.env)).any (·.1) = false := by rfl) :
    EV X E (.Call (.Name x p) [.Name y p2] [] pos) (eLamV L i tb) := by
  refine ⟨fun pins s σ H Q I h => ?_⟩
  obtain ⟨env, cs, ω, hs, hk0, h⟩ := h
  replace h : Out X.K X.mg E ω (M.bind (M.opt (env[i]?.join)) (kLamV L tb env) cs) _ := h
  obtain ⟨w, e1, h'⟩ := Out.opt h.bind
  clear h
  obtain ⟨v, e2, r⟩ := hs.get i w (Option.join_eq_some_iff.mp e1)
  have h : Out X.K X.mg E ω (kLamV L tb env w cs) _ := h'.now hk0
  clear h'
  unfold kLamV at h
  cases w with
  | cel i => exact (show False from h).elim
  | dat d =>
  cases d with
  | lam k' J =>
    dsimp only at h
    cases hq : tb.find? (fun q => decide (q.1 = k')) with
    | none =>
      rw [hq] at h
      exact (show False from h).elim
    | some q =>
      rw [hq] at h
      dsimp only at h
      by_cases hJ : J = q.2.1
      · rw [if_pos hJ] at h
        subst hJ
        have hqm := List.mem_of_find?_eq_some hq
        have HL := hT q hqm
        have r : RepD X.K ω.Hs v (.lam k' q.2.1) := r
        cases r with
        | @lam f c' _ _ h1 h2 =>
          have hh : tEv X.K X.mg E (eCaught L q.2.2) σ H Q := ⟨env, cs, ω, hs, hk0, h⟩
          have hc0 := (caught_use hL hh).2 H (LamX.ExtN.refl H) hk0.tab
          refine wpAny_Call_Name_kw (ld_glob I hg hm ?_ hdb)
          refine PySem.W.callWith_K (h₀ := X.base) I.ok.mod.kin hk (thn ((pa_cons (pe_var (pos := p2) hN hv hdy hcy) pa_nil he).run pos pins s σ H (fun vs H1 => vs = [.ref f] ∧ H1 = H) I ⟨.ref f, e2, rfl, rfl⟩) fun us s1 ⟨vs, H1, I1, r, q1⟩ => ⟨I1.kIn, ?_⟩) he hpl
          obtain ⟨rfl, rfl⟩ := q1
          have hf := hk0.ex _ _ h1
          have hc := hk0.ex _ _ h2
          obtain ⟨u, rfl, r1⟩ : ∃ u, us = [u] ∧ RelV (.ref f) u := by
            cases r with
            | cons r1 r2 => cases r2; exact ⟨_, rfl, r1⟩
          cases r1
          have rc : codeAny (model X.prog X.w) X.A (.call (.ref g) ⟨[.ref f], []⟩) (CR C8.CX0 X.stack X.prog X.w H1 s1 Q C8.E0) s1 := by
            refine LamX.run_ofS (N := Ng) (ps := [a]) (us := [.ref f]) (vs := [.ref f]) lk hcg Sg hr I1.env0 (hb s1 [.ref f] I1.kIn rfl) (.cons rfl .nil) rfl fun hr' => ?_
            obtain ⟨t', ht', hq'⟩ := hG f c' q.2.1 s1 H1 Q (fun E H' Q' => tEv X.K X.mg E q.2.2 σ H' Q') (fun W pn xe E p1 p2 tk hW => act_lam (i := 0) I1 HL.LS HL.hq HL.hcl HL.bind tk hW hr' (fun A outer s H hr2 => HL.body A outer s H E f c' hr2) hNg hva hd hcd) hf hc hc0
            exact ⟨t', ht'.nox, hq'⟩
          refine wpAny_call (codeAny_mono rc fun r s2 hq => ?_)
          cases r with
          | error e => exact (show False from hq).elim
          | ok fl =>
            cases fl with
            | ret u => exact I1.after hq
            | next => exact False.elim hq
            | brk => exact False.elim hq
            | cont => exact False.elim hq
      · rw [if_neg hJ] at h
        exact (show False from h).elim
  | _ => exact (show False from h).elim
end
end DX
namespace DX
open PySem PySem.Spec PyProof.Rows L2
section
variable [TabT] {X : Cx} {E : XK}
theorem caughtL_gives {Ng : List Str} {x a y n cT : Str} {sg : Scope} {g CT : Addr} {cdg : Value} {j0 : Nat} {p1 p2 p3 p4 p5 p6 p7 p8 p9 p10 p11 p12 : Pos} (hNg : Ng = [a, y, n]) (hnd : Ng.Nodup) (hly : sg.names.lookup y = some .local) (hln : sg.names.lookup n = some .local)
    (hge : sg.names.lookup cT = some .globalImplicit) (hme : X.mg cT = some (.ref CT)) (hde : (cT == ("__debug__" : Str)) = false) (hdn : (n == ("__debug__" : Str)) = false) (hdc : (n == ("__classdict__" : Str)) = false) (hdy : (y == ("__debug__" : Str)) = false) (hdz : (y == ("__classdict__" : Str)) = false) :
    GivesL X Ng x sg g cdg [.Assign [.Name y p1] (.Constant .none j0 p2) p3, .Try [.Expr (.Call (.Name a p4) [] [] p5) p5] [.ExceptHandler (some (.Name cT p6)) (some n) [.Assign [.Name y p7] (.Name n p8) p9] p10] [] [] p11, .Return (some (.Name y p12)) p12'] a (tCaught X.K (.ref CT)) := by
  intro f c' L s H Q tl act hf hc h
  subst hNg
  have hgl : Gl (cxOf C8.CX0 X.prog X.w X.K X.mg X.base [a, y, n] x sg g cdg X.A X.stack s H C8.E0).nox cT := hge
  refine ⟨_, pss_cons (ps_set (X := (cxOf C8.CX0 X.prog X.w X.K X.mg X.base [a, y, n] x sg g cdg X.A X.stack s H C8.E0).nox) (i := 1) hnd rfl (.inl hly) pe_non (by rfl) (.inr hly))
    (pss_cons (ps_try_keep (X := (cxOf C8.CX0 X.prog X.w X.K X.mg X.base [a, y, n] x sg g cdg X.A X.stack s H C8.E0).nox) (c := .ref CT) (i := 2) (j := 1) (Wout := fun _ _ _ _ => False)
      (tb := fun W D σ H => ∃ Ech : XK, (∀ cls d σ' H', Ech cls d H' → σ'.length = 3 → W cls d σ' H') ∧ σ[0]? = some (some (.ref f)) ∧ H f = some (LamO f c' L) ∧ H c' = some (LamX.CodeO c' L.q) ∧ tl Ech H fun _ H' => D.nx σ H')
      rfl rfl rfl hnd rfl hln rfl hly (by show 2 < 3; decide) ⟨hgl, hde, .inl hme⟩ LamX.takes0 hdn hdc (fun W pn xe tk _ => ?_)) (pss_one (ps_ret (pe_var (i := 1) rfl (.inl hly) hdy hdz)))), ?_⟩
  · refine ⟨fun pins s' σ H' D I h' => ?_⟩
    obtain ⟨Ech, hW, h1, h2, h3, h4⟩ := h'
    have hp := act (fun cls d σ H => σ.length = 3 → W cls d σ H) pn xe Ech p4 p5 (Takes.len tk) hW
    have hq := pss_one (ps_expr (pos := p5) hp)
    exact hq.run pins s' σ H' D I ⟨h1, h2, h3, h4⟩
  · refine ⟨fun cls d H' => ∃ C, cls = .ref C ∧ PySem.W.exmOne X.K cls (.ref CT) = some true ∧ ∀ a, H' a = none → Q (.ref a) (upd H' a (ExT C d a)), fun cls d σ' H' ⟨C, hC, e1, e2⟩ hl => ⟨true, e1, fun _ => ⟨C, hC, fun b hb => ?_⟩, fun z => nomatch z⟩, rfl, hf, hc, ?_⟩
    · match σ', hl with
      | [_, _, _], _ => exact ⟨.ref b, rfl, e2 b hb⟩
    · have eP : (fun (_ : V) (H' : Hp) => tRet (tVar 1) { nx := fun _ H' => Q V.non H', rt := Q } (List.set (L2.start [a, y, n] [V.ref f]) 1 (some V.non)) H') = fun _ H' => Q .non H' := by
        funext v H'
        refine propext ⟨fun ⟨x, e, q⟩ => ?_, fun q => ⟨.non, rfl, q⟩⟩
        have e : some (some V.non) = some (some x) := e
        cases e
        exact q
      exact eP ▸ h
end
def stKids : Stmt → List Stmt
  | .For _ _ b _ _ => b
  | .While _ b _ _ => b
  | .If _ b o _ => b ++ o
  | _ => []
def stEx : Stmt → List Expr
  | .Assign _ v _ => [v]
  | .Expr v _ => [v]
  | .For _ i _ _ _ => [i]
  | .Return (some v) _ => [v]
  | .If t _ _ _ => [t]
  | _ => []
def exKids : Expr → List Expr
  | .List es _ => es
  | .Call f as _ _ => f :: as
  | .BinOp a _ b _ => [a, b]
  | .Compare a _ cs _ => a :: cs
  | .BoolOp _ vs _ => vs
  | .UnaryOp _ v _ => [v]
  | .Subscript a b _ => [a, b]
  | _ => []
def stAt (l : List Stmt) : List Nat → Option Stmt
  | [] => none
  | [i] => l[i]?
  | i :: r => match l[i]? with
    | some s => stAt (stKids s) r
    | none => none
def exAt (e : Expr) : List Nat → Option Expr
  | [] => some e
  | i :: r => match (exKids e)[i]? with
    | some x => exAt x r
    | none => none
abbrev LamA := Arguments × Expr × Scope
def lamAt (b : List Stmt) (p : List Nat) (j : Nat) (q : List Nat) : Option LamA := match stAt b p with
  | some s => match (stEx s)[j]? with
    | some e => match exAt e q with
      | some (.Lambda pa bd sc _) => some (pa, bd, sc)
      | _ => none
    | none => none
  | none => none
def lamN : LamK := ⟨"", ⟨[], [], none, [], [], none, []⟩, .Constant .none 0 ⟨0, 0, 0, 0⟩, ⟨.function, [], false, false, []⟩, []⟩
/-- the value common to all n -/
noncomputable def allN {α : Type} (F : Nat → R α) : R α := open Classical in if ∀ n, F n = F 0 then F 0 else .bad
theorem allN_of {α : Type} {F : Nat → R α} {r : R α} (h : ∀ n, F n = r) : allN F = r := by
  unfold allN
  rw [if_pos fun n => (h n).trans (h 0).symm, h 0]
theorem allN_at {α : Type} {F : Nat → R α} (n : Nat) : allN F = F n ∨ allN F = .bad := by
  unfold allN
  by_cases h : ∀ n, F n = F 0
  · rw [if_pos h]
    exact .inl (h n).symm
  · rw [if_neg h]
    exact .inr rfl
noncomputable def fnOfN (N : Nat) (b : Nat → Sv) : Fn := fun ws cs => allN fun n => fnOf N (b n) ws cs
/-- all cells are let go -/
def dropC : R Wv → R Wv
  | .ok (.dat d) _ => .ok (.dat d) []
  | .exc x _ => .exc x []
  | _ => .bad
/-- as the first def to be called: no cell before it -/
noncomputable def fnOfT (N : Nat) (b : Nat → Sv) : Fn := fun ws cs => match cs with
  | [] => allN fun n => dropC (fnOf N (b n) ws [])
  | _ => .bad
theorem fnOfT_is {N : Nat} {b : Nat → Sv} {ws : List Wv} {d : Dt} (h : ∀ n, ∃ cs', fnOf N (b n) ws [] = .ok (.dat d) cs') : fnOfT N b ws [] = .ok (.dat d) [] :=
  allN_of fun n => by
    obtain ⟨cs', e⟩ := h n
    rw [e]
    rfl
section
variable [TabT]
theorem Out.dropC {K : Frag} {mg : MG} {E : XK} {ω : Wo} {H : Hp} {r : R Wv} {Q : VK} (k : Ok K ω H []) (h : Out K mg E ω (DX.dropC r) (fun w ω' _ H' => ∀ v, RepW K ω' v w → Q v H')) : Out K mg E ω r (fun w ω' _ H' => ∀ v, RepW K ω' v w → Q v H') := by
  have ad : ω.ad = [] := List.eq_nil_of_length_eq_zero k.len.symm
  have cut : ∀ {ω' : Wo} {H' : Hp} {cs' : List Cell}, Le ω ω' → Ok K ω' H' cs' → Le ω ⟨ω'.Hs, [], ω'.T, ω'.fr⟩ ∧ Ok K ⟨ω'.Hs, [], ω'.T, ω'.fr⟩ H' [] := fun {ω' H' cs'} l k' =>
    ⟨⟨l.ex, by rw [ad]; exact List.prefix_refl _, l.tb, l.fr⟩, ⟨k'.ex, rfl, List.nodup_nil, fun i a c e1 e2 => by simp at e2, k'.tab, k'.frx, k'.dj, k'.nt, k'.nf, k'.lk⟩⟩
  cases r with
  | ok w cs' =>
    cases w with
    | dat d => exact fun ω' H' l k' v rv => h _ H' (cut l k').1 (cut l k').2 v rv
    | cel i => exact (show False from h).elim
  | exc x cs' => exact fun C ω' H' m l k' => h C ⟨ω'.Hs, [], ω'.T, ω'.fr⟩ H' m (cut l k').1 (cut l k').2
  | bad => exact h
theorem Out.allN {K : Frag} {mg : MG} {E : XK} {α : Type} {ω : Wo} {F : Nat → R α} {G : α → Wo → List Cell → Hp → Prop} (h : Out K mg E ω (DX.allN F) G) (n : Nat) : Out K mg E ω (F n) G := by
  rcases allN_at (F := F) n with e | e
  · rw [e] at h; exact h
  · rw [e] at h; exact (show False from h).elim
variable {P : Program} {w : World} {K : Frag} {mg : MG} {base : Heap} {gd : Bool} {k : Nat} {x qual : Str} {st : Stmt} {f : Addr} {fd : FuncData} {N ps : List Str} {b : Nat → Sv}
theorem fng_ofN (F : Fun K x qual st f fd) (S : FnScope N ps (defScope st))
    (hb : ∀ (cdv : Value) (A : Around) (outer : List Env) (s : Shared) (H : Hp) (E : XK), fd.code = cdv → Room k (A.deeper (envOfC qual (defScope st) s.heap.objs.size f cdv)) → (gd = true → A.guards = some []) → SVs (cxOf (L2.CX P w) P w K mg base N qual (defScope st) f cdv A outer s H E) E (defBody st) (b s.heap.objs.size)) :
    FnG P w K mg base gd (k + 1) f fd ps (fnOfN N.length b) := by
  refine ⟨fun A outer s H args us vs Q E ω cs ws hr hgd e0 bt r hl hk rw' hO => ?_⟩
  obtain ⟨oc, od, kV, doc, pm, an, cdv, ct, osl, rfl, lk, hcd⟩ := F.ex
  have hO := Out.allN hO s.heap.objs.size
  refine LamX.run_ofS (N := N) lk hcd S hr e0 bt r (rw'.len.trans hl) fun hr2 => ⟨_, hb cdv A outer s H E rfl hr2 hgd, startE N.length ws, cs, ω, startRep rw', hk, ?_⟩
  refine (Out.bind hO).imp fun fl ω1 cs1 H1 l1 k1 h1 => ?_
  cases fl with
  | nx env => exact fun _ _ => h1.now k1 .non .non
  | rt w => exact fun v rv => h1.now k1 v rv
  | bk env => exact (show False from h1).elim
  | ct env => exact (show False from h1).elim
theorem fng_ofT (F : Fun K x qual st f fd) (S : FnScope N ps (defScope st))
    (hb : ∀ (cdv : Value) (A : Around) (outer : List Env) (s : Shared) (H : Hp) (E : XK), fd.code = cdv → Room k (A.deeper (envOfC qual (defScope st) s.heap.objs.size f cdv)) → (gd = true → A.guards = some []) → SVs (cxOf (L2.CX P w) P w K mg base N qual (defScope st) f cdv A outer s H E) E (defBody st) (b s.heap.objs.size)) :
    FnG P w K mg base gd (k + 1) f fd ps (fnOfT N.length b) := by
  refine ⟨fun A outer s H args us vs Q E ω cs ws hr hgd e0 bt r hl hk rw' hO => ?_⟩
  obtain ⟨oc, od, kV, doc, pm, an, cdv, ct, osl, rfl, lk, hcd⟩ := F.ex
  cases cs with
  | cons c cs => exact (show False from hO).elim
  | nil =>
    have hO := Out.dropC hk (Out.allN hO s.heap.objs.size)
    refine LamX.run_ofS (N := N) lk hcd S hr e0 bt r (rw'.len.trans hl) fun hr2 => ⟨_, hb cdv A outer s H E rfl hr2 hgd, startE N.length ws, [], ω, startRep rw', hk, ?_⟩
    refine (Out.bind hO).imp fun fl ω1 cs1 H1 l1 k1 h1 => ?_
    cases fl with
    | nx env => exact fun _ _ => h1.now k1 .non .non
    | rt w => exact fun v rv => h1.now k1 v rv
    | bk env => exact (show False from h1).elim
    | ct env => exact (show False from h1).elim
end
end DX
set_option maxHeartbeats 3200000
namespace DX
open PySem PySem.Spec PyProof.Rows L2
section
variable [TabT]
theorem Ok.new {K : Frag} {ω : Wo} {H : Hp} {cs : List Cell} {p : Addr} {o : HO} (k : Ok K ω H cs) (hp : H p = none) : Ok K ω (upd H p o) cs :=
  k.extN (fun b u e _ => by rw [upd_ne (ne_of_none e hp)]; exact e) (k.tab.ext (Ex.new hp))
variable {X : Cx} {E : XK} {e : Expr} {p p2 pos pos2 : Pos} {ga : EvA}
end
end DX
namespace DX
open PySem PySem.Spec PyProof.Rows L2
theorem dict_declines_str (a : Addr) (o : Obj) (z : Str) (t : Tok) (hd : o.ExactDict) :
    Meets (Builtin.«dict.__eq__» ⟨[.ref a, .str z t], []⟩) (fun _ R s => s.heap.get? a = some o ∧ R (.ok (.ret .notImplemented)) s) :=
  .of_wp fun prog w A R s h => by
    obtain ⟨hp, g, d, tk, os⟩ := s
    obtain ⟨hl, h⟩ := h
    obtain ⟨cls, dd, dt, sl⟩ := o
    obtain ⟨rfl, hx⟩ := hd
    have f1 := F.sub_str_dict
    wp_walk using wpAny_load hl
    exact ⟨_, rfl, h⟩
theorem str_declines_dict (a : Addr) (o : Obj) (z : Str) (t : Tok) (hd : o.ExactDict) {es : Array DictEntry} {ep : Nat} (he : o.data = .dict es ep) :
    Meets (Builtin.«str.__eq__» ⟨[.str z t, .ref a], []⟩) (fun _ R s => s.heap.get? a = some o ∧ R (.ok (.ret .notImplemented)) s) :=
  .of_wp fun prog w A R s h => by
    obtain ⟨hp, g, d, tk, os⟩ := s
    obtain ⟨hl, h⟩ := h
    obtain ⟨cls, dd, dt, sl⟩ := o
    obtain ⟨rfl, hx⟩ := hd
    simp only at he
    subst he
    wp_walk using wpAny_load hl
    exact ⟨_, rfl, h⟩
section
variable {prog : Program} {w : World} {A : Around} {E : Value → Shared → Prop} {s : Shared} {Q : Value → Shared → Prop}
theorem dict_ne_str {a : Addr} {o : Obj} {z : Str} {t : Tok} (ho : s.heap.get? a = some o) (hd : o.ExactDict) {es : Array DictEntry} {ep : Nat} (he : o.data = .dict es ep) (hu : A.units < cLine) (h : Q (.bool false) s) : wpAny (model prog w) A (richCompare .Eq (.ref a) (.str z t)) Q E s :=
  PySem.SeqAt.rc_eq_decline_or (k := false) ⟨o, ho, hd.1⟩ (typeIs_str s z t) (by decide) F.sub_str_dict F.slot_dict_eq F.slot_str_eq_refl
    (fun _ hq => call_meets F.slot_dict_eq ⟨o, ho, hd.1⟩ F.entry_dict_eq (F.args_dict_eq_2 _ _) (dict_declines_str a o z t hd) ⟨ho, hq⟩)
    (fun _ hq => call_meets F.slot_str_eq_refl (typeIs_str s z t) F.entry_str_eq (F.args_str_eq_2 _ _) (str_declines_dict a o z t hd he) ⟨ho, hq⟩)
    (fun _ hq => wpAny_of_eq (rfl : isSame (.ref a) (.str z t) = pure false) hq) (.inr hu) h
end
/-- d == text -/
def rEqDS : R2 := fun x y H Q => ∃ (a : Addr) (kvs : List (Key × V)) (z : Str), x = .ref a ∧ y = .str z ∧ Rd H a (.dK kvs) ∧ Q (.bl false) H
theorem op_eqDS {X : Cx} (hu : X.A.units < cLine) : OpR X (compareOp .Eq) rEqDS := by
  intro pins s σ H x y v u Q I rx ry h
  obtain ⟨a, kvs, z, rfl, rfl, hd, q⟩ := h
  obtain rfl : v = Value.ref a := rx
  obtain ⟨t, rfl⟩ := ry
  obtain ⟨_, _, vs, _, dd⟩ := dk_rd I.hok hd
  obtain ⟨o, es, ep, ho, hx, he, _⟩ := dd
  exact dict_ne_str ho hx he hu ⟨.bl false, H, I.tok _, rfl, q⟩
def eqDS : Wv → Wv → Option Dt
  | .dat (.dic _), .dat (.str _) => some (.bl false)
  | _, _ => none
/-- x == y, x may be a dict where y is a text -/
def eqCD (x y : Wv) (cs : List Cell) : Option Dt := (eqC false x y cs).or (eqDS x y)
def eEqCD (f g : Ev) : Ev := fun env => M.bind (f env) fun x => M.bind (g env) fun y => fun cs => M.opt ((eqCD x y cs).map .dat) cs
section
variable [TabT] {X : Cx} {E : XK} {a b : Expr} {f g : Ev} {pos : Pos}
theorem eqCD_use {σ : L2.St} {H : Hp} {Q : VK} (hh : tEv X.K X.mg E (eEqCD f g) σ H Q) : tOp (fun x y H Q => rEqN X.K false x y H Q ∨ rEqDS x y H Q) (tEv X.K X.mg E f) (tEv X.K X.mg E g) σ H Q := by
  obtain ⟨env, cs, ω, hs, hk, h⟩ := hh
  refine ⟨env, cs, ω, hs, hk, h.bind.imp fun x ω1 cs1 H1 l1 k1 h1 u ru => ⟨env, cs1, ω1, hs.mono l1, k1, h1.bind.imp fun y ω2 cs2 H2 l2 k2 h2 v rv => ?_⟩⟩
  obtain ⟨z, e, h3⟩ := Out.map_some (show Out X.K X.mg E ω2 (M.opt ((eqCD x y cs2).map Wv.dat) cs2) _ from h2)
  unfold eqCD at e
  cases he : eqC false x y cs2 with
  | some z' =>
    rw [he] at e
    cases e
    unfold eqC at he
    cases hb : eqB x y cs2 with
    | none => rw [hb] at he; cases he
    | some b =>
      rw [hb] at he
      cases he
      exact .inl (eqB_use k2 (ru.mono l2) rv hb (h3.now k2 _ (RepD.bl _)))
  | none =>
    rw [he] at e
    have e : eqDS x y = some z := e
    unfold eqDS at e
    split at e
    · rename_i l z' _
      cases e
      have r1 : RepD X.K ω2.Hs u (.dic l) := ru.mono l2
      have r2 : RepD X.K ω2.Hs v (.str z') := rv
      cases r1 with
      | dic h5 h6 =>
        cases r2
        exact .inr ⟨_, _, _, rfl, rfl, .inl (k2.ex _ _ h5), h3.now k2 _ (RepD.bl _)⟩
    · cases e
theorem ev_eqCD (hu : X.A.units + 64 < cLine) (ha : EV X E a f) (hb : EV X E b g) : EV X E (.Compare a [.Eq] [b] pos) (eEqCD f g) := PE.imp (pe_cmpR (OpR.or (op_eqN hu) (op_eqDS (by omega))) ha hb (nomark _)) fun _ _ _ h => eqCD_use h
theorem et_eqCD (hu : X.A.units + 64 < cLine) (ha : EV X E a f) (hb : EV X E b g) : EVT X E (.Compare a [.Eq] [b] pos) (tCmpE (eEqCD f g)) := PT.imp (pt_cmpR (OpR.or (op_eqN hu) (op_eqDS (by omega))) ha hb (nomark _)) fun _ _ _ h => tEv_test (fun _ _ _ h => eqCD_use h) h
end
section
variable {f g : Ev} {env : En} {cs : List Cell} {x y : Wv}
def kEqCDA (g : Ev) (env : En) (x : Wv) : M Wv := M.bind (g env) fun y => fun cs => M.opt ((eqCD x y cs).map .dat) cs
def kEqCDB (x y : Wv) : M Wv := fun cs => M.opt ((eqCD x y cs).map .dat) cs
theorem s_eqCD : eEqCD f g env cs = rb (f env cs) (kEqCDA g env) := mb _ _ _
theorem k_eqCDA : kEqCDA g env x cs = rb (g env cs) (kEqCDB x) := mb _ _ _
theorem eqCD_of {z : Dt} (h : eqC false x y cs = some z) : eqCD x y cs = some z := by
  unfold eqCD
  rw [h]
  rfl
end
end DX
namespace GF
theorem xor_cancel (x a : Nat) : (x ^^^ a) ^^^ a = x := by rw [Nat.xor_assoc, Nat.xor_self, Nat.xor_zero]
theorem xor_right_comm (x a b : Nat) : (x ^^^ a) ^^^ b = (x ^^^ b) ^^^ a := by rw [Nat.xor_assoc, Nat.xor_comm a b, ← Nat.xor_assoc]
/-- x is a sum of some of the rows -/
def sp : List Nat → Nat → Bool
  | [], x => x == 0
  | a :: L, x => sp L x || sp L (x ^^^ a)
theorem sp_zero : ∀ L : List Nat, sp L 0 = true
  | [] => rfl
  | a :: L => by simp [sp, sp_zero L]
theorem sp_skip {L : List Nat} {a x : Nat} (h : sp L x = true) : sp (a :: L) x = true := by simp [sp, h]
theorem sp_add : ∀ {L : List Nat} {x y : Nat}, sp L x = true → sp L y = true → sp L (x ^^^ y) = true
  | [], x, y, h1, h2 => by
    have e1 : x = 0 := by simpa [sp] using h1
    have e2 : y = 0 := by simpa [sp] using h2
    subst e1 e2
    rfl
  | a :: L, x, y, h1, h2 => by
    have h1 : (sp L x || sp L (x ^^^ a)) = true := h1
    have h2 : (sp L y || sp L (y ^^^ a)) = true := h2
    show (sp L (x ^^^ y) || sp L ((x ^^^ y) ^^^ a)) = true
    rw [Bool.or_eq_true] at h1 h2 ⊢
    rcases h1 with h1 | h1 <;> rcases h2 with h2 | h2
    · exact .inl (sp_add h1 h2)
    · refine .inr ?_
      rw [Nat.xor_assoc]
      exact sp_add h1 h2
    · refine .inr ?_
      rw [xor_right_comm]
      exact sp_add h1 h2
    · refine .inl ?_
      have q := sp_add h1 h2
      have e : (x ^^^ a) ^^^ (y ^^^ a) = x ^^^ y := by
        rw [← Nat.xor_assoc, xor_right_comm x a y, xor_cancel]
      rwa [e] at q
theorem sp_mem : ∀ {L : List Nat} {a : Nat}, a ∈ L → sp L a = true
  | b :: L, a, h => by
    show (sp L a || sp L (a ^^^ b)) = true
    rw [Bool.or_eq_true]
    rcases List.mem_cons.mp h with rfl | h
    · exact .inr (by rw [Nat.xor_self]; exact sp_zero L)
    · exact .inl (sp_mem h)
theorem sp_le : ∀ {L M : List Nat}, (∀ a ∈ L, sp M a = true) → ∀ {x : Nat}, sp L x = true → sp M x = true
  | [], M, _, x, h => by
    have e : x = 0 := by simpa [sp] using h
    subst e
    exact sp_zero M
  | a :: L, M, hL, x, h => by
    have h : (sp L x || sp L (x ^^^ a)) = true := h
    rw [Bool.or_eq_true] at h
    have hL' : ∀ b ∈ L, sp M b = true := fun b hb => hL b (List.mem_cons_of_mem _ hb)
    rcases h with h | h
    · exact sp_le hL' h
    · have q := sp_add (sp_le hL' h) (hL a List.mem_cons_self)
      rwa [xor_cancel] at q
theorem sp_ext {L M : List Nat} (h1 : ∀ a ∈ L, sp M a = true) (h2 : ∀ a ∈ M, sp L a = true) : sp L = sp M := by
  funext x
  rw [Bool.eq_iff_iff]
  exact ⟨sp_le h1, sp_le h2⟩
theorem sp_bit : ∀ {L : List Nat} {k : Nat}, (∀ a ∈ L, a.testBit k = false) → ∀ {x : Nat}, sp L x = true → x.testBit k = false
  | [], k, _, x, h => by
    have e : x = 0 := by simpa [sp] using h
    subst e
    exact Nat.zero_testBit k
  | a :: L, k, hL, x, h => by
    have h : (sp L x || sp L (x ^^^ a)) = true := h
    rw [Bool.or_eq_true] at h
    have hL' : ∀ b ∈ L, b.testBit k = false := fun b hb => hL b (List.mem_cons_of_mem _ hb)
    rcases h with h | h
    · exact sp_bit hL' h
    · have q := sp_bit hL' h
      rw [Nat.testBit_xor, hL a List.mem_cons_self] at q
      simpa using q
theorem sp_lt {L : List Nat} {N : Nat} (hL : ∀ a ∈ L, a < 2 ^ N) {x : Nat} (h : sp L x = true) : x < 2 ^ N := by
  refine Nat.lt_pow_two_of_testBit _ fun i hi => ?_
  exact sp_bit (fun a ha => Nat.testBit_lt_two_pow (Nat.lt_of_lt_of_le (hL a ha) (Nat.pow_le_pow_right (by omega) hi))) h
def rk : List Nat → Nat
  | [] => 0
  | a :: L => if sp L a = true then rk L else rk L + 1
theorem sp_in {L : List Nat} {a : Nat} (h : sp L a = true) : sp (a :: L) = sp L :=
  sp_ext (fun b hb => (List.mem_cons.mp hb).elim (fun e => e ▸ h) sp_mem) fun b hb => sp_skip (sp_mem hb)
theorem count_or {α : Type} (p q : α → Bool) : ∀ l : List α, (∀ x ∈ l, ¬ (p x = true ∧ q x = true)) → l.countP (fun x => p x || q x) = l.countP p + l.countP q
  | [], _ => rfl
  | x :: l, h => by
    have ih := count_or p q l fun y hy => h y (List.mem_cons_of_mem _ hy)
    have h0 := h x List.mem_cons_self
    simp only [List.countP_cons, ih]
    cases hp : p x <;> cases hq : q x <;> simp_all <;> omega
theorem count_xor {N a : Nat} (ha : a < 2 ^ N) (p : Nat → Bool) : (List.range (2 ^ N)).countP (fun x => p (x ^^^ a)) = (List.range (2 ^ N)).countP p := by
  have e : (List.range (2 ^ N)).countP (fun x => p (x ^^^ a)) = ((List.range (2 ^ N)).map (· ^^^ a)).countP p := by rw [List.countP_map]; rfl
  rw [e]
  have inj : ∀ x y : Nat, x ^^^ a = y ^^^ a → x = y := fun x y h => by
    have h2 := congrArg (· ^^^ a) h
    simp only [xor_cancel] at h2
    exact h2
  have nd : ((List.range (2 ^ N)).map (· ^^^ a)).Nodup := by
    rw [List.Nodup, List.pairwise_map]
    exact List.Pairwise.imp (fun {x y} hn he => hn (inj x y he)) List.nodup_range
  refine List.Perm.countP_eq p ((List.perm_ext_iff_of_nodup nd List.nodup_range).mpr fun x => ?_)
  simp only [List.mem_map, List.mem_range]
  constructor
  · rintro ⟨y, hy, rfl⟩
    exact Nat.xor_lt_two_pow hy ha
  · intro hx
    exact ⟨x ^^^ a, Nat.xor_lt_two_pow hx ha, xor_cancel x a⟩
theorem count_sp {N : Nat} : ∀ {L : List Nat}, (∀ a ∈ L, a < 2 ^ N) → (List.range (2 ^ N)).countP (sp L) = 2 ^ rk L
  | [], _ => by
    show (List.range (2 ^ N)).countP (fun x => x == 0) = 2 ^ 0
    have h : (List.range (2 ^ N)).countP (fun x => x == 0) = (List.range (2 ^ N)).count 0 := rfl
    rw [h, List.Nodup.count List.nodup_range, if_pos (List.mem_range.mpr (Nat.two_pow_pos N))]
  | a :: L, hL => by
    have ih := count_sp fun b hb => hL b (List.mem_cons_of_mem _ hb)
    unfold rk
    by_cases h : sp L a = true
    · rw [if_pos h, sp_in h, ih]
    · rw [if_neg h]
      show (List.range (2 ^ N)).countP (fun x => sp L x || sp L (x ^^^ a)) = _
      rw [count_or _ _ _ fun x _ ⟨h1, h2⟩ => h (by
        have q := sp_add h1 h2
        rwa [← Nat.xor_assoc, Nat.xor_self, Nat.zero_xor] at q), count_xor (hL a List.mem_cons_self) (sp L), ih, Nat.pow_succ]
      omega
theorem big_of : ∀ L : List Nat, ∃ N, ∀ a ∈ L, a < 2 ^ N
  | [] => ⟨0, fun a h => nomatch h⟩
  | a :: L => by
    obtain ⟨N, hN⟩ := big_of L
    refine ⟨max N (a + 1), fun b hb => ?_⟩
    rcases List.mem_cons.mp hb with rfl | hb
    · exact Nat.lt_of_lt_of_le Nat.lt_two_pow_self (Nat.pow_le_pow_right (by omega) (by omega))
    · exact Nat.lt_of_lt_of_le (hN b hb) (Nat.pow_le_pow_right (by omega) (by omega))
theorem rk_mono {L M : List Nat} (h : ∀ a ∈ L, sp M a = true) : rk L ≤ rk M := by
  obtain ⟨N, hN⟩ := big_of (L ++ M)
  have h1 := count_sp (N := N) fun a ha => hN a (List.mem_append_left M ha)
  have h2 := count_sp (N := N) fun a ha => hN a (List.mem_append_right L ha)
  have h3 : (List.range (2 ^ N)).countP (sp L) ≤ (List.range (2 ^ N)).countP (sp M) := List.countP_mono_left fun x _ hx => sp_le h hx
  rw [h1, h2] at h3
  exact (Nat.pow_le_pow_iff_right (by omega)).mp h3
theorem rk_ext {L M : List Nat} (h1 : ∀ a ∈ L, sp M a = true) (h2 : ∀ a ∈ M, sp L a = true) : rk L = rk M := Nat.le_antisymm (rk_mono h1) (rk_mono h2)
/-- rows with a figure of their own each -/
theorem rk_own : ∀ {L : List (Nat × Nat)}, (∀ p ∈ L, p.2.testBit p.1 = true) → L.Pairwise (fun p q => q.2.testBit p.1 = false) → rk (L.map (·.2)) = L.length
  | [], _, _ => rfl
  | p :: L, h1, h2 => by
    rw [List.pairwise_cons] at h2
    have ih := rk_own (fun q hq => h1 q (List.mem_cons_of_mem _ hq)) h2.2
    have hn : ¬ sp (L.map (·.2)) p.2 = true := fun h => by
      have q := sp_bit (k := p.1) (fun a ha => by obtain ⟨q, hq, rfl⟩ := List.mem_map.mp ha; exact h2.1 q hq) h
      rw [h1 p List.mem_cons_self] at q
      cases q
    show rk (p.2 :: L.map (·.2)) = _
    unfold rk
    rw [if_neg hn, ih]
    rfl
end GF
namespace GF
/-- key, row, tag -/
abbrev KT := Nat × Nat × Nat
def d1 (p : Nat × Nat) (q : KT) : Nat × Nat := if p.1.testBit q.1 = true then (p.1 ^^^ q.2.1, p.2 ^^^ q.2.2) else p
def down (kept : List KT) (p : Nat × Nat) : Nat × Nat := kept.foldl d1 p
def up1 (at' : Nat) (p : Nat × Nat) (q : KT) : KT := if q.2.1.testBit at' = true then (q.1, q.2.1 ^^^ p.1, q.2.2 ^^^ p.2) else q
def put1 (S : List KT × List Nat) (p : Nat × Nat) : List KT × List Nat :=
  if p.1 = 0 then (S.1, S.2 ++ [p.2]) else (S.1.map (up1 p.1.log2 p) ++ [(p.1.log2, p.1, p.2)], S.2)
def rstep (S : List KT × List Nat) (p : Nat × Nat) : List KT × List Nat := put1 S (down S.1 p)
def red (ps : List (Nat × Nat)) : List KT × List Nat := ps.foldl rstep ([], [])
/-- rows kept: each with its key as the highest figure, no key in another row -/
structure Kp (l : List KT) : Prop where
  top : ∀ q ∈ l, q.2.1.testBit q.1 = true ∧ q.2.1 < 2 ^ (q.1 + 1)
  nd : (l.map (·.1)).Nodup
  own : ∀ q ∈ l, ∀ r ∈ l, q.1 ≠ r.1 → r.2.1.testBit q.1 = false
theorem Kp.nil : Kp [] := ⟨fun q h => (by cases h), List.nodup_nil, fun q h => (by cases h)⟩
theorem Kp.tail {q : KT} {l : List KT} (h : Kp (q :: l)) : Kp l := by
  have nd := h.nd
  rw [List.map_cons, List.nodup_cons] at nd
  exact ⟨fun r hr => h.top r (List.mem_cons_of_mem _ hr), nd.2, fun r hr s hs => h.own r (List.mem_cons_of_mem _ hr) s (List.mem_cons_of_mem _ hs)⟩
theorem Kp.ne {q r : KT} {l : List KT} (h : Kp (q :: l)) (hr : r ∈ l) : q.1 ≠ r.1 := fun e => by
  have nd := h.nd
  rw [List.map_cons, List.nodup_cons] at nd
  exact nd.1 (e ▸ List.mem_map.mpr ⟨r, hr, rfl⟩)
def rows (l : List KT) : List Nat := l.map (·.2.1)
theorem d1_bit {p : Nat × Nat} {q : KT} {k : Nat} (h : q.2.1.testBit k = false) : (d1 p q).1.testBit k = p.1.testBit k := by
  unfold d1
  split
  · show (p.1 ^^^ q.2.1).testBit k = _
    rw [Nat.testBit_xor, h, Bool.xor_false]
  · rfl
theorem down_bit : ∀ {l : List KT} {p : Nat × Nat} {k : Nat}, (∀ q ∈ l, q.2.1.testBit k = false) → (down l p).1.testBit k = p.1.testBit k
  | [], _, _, _ => rfl
  | q :: l, p, k, h => (down_bit (l := l) (p := d1 p q) fun r hr => h r (List.mem_cons_of_mem _ hr)).trans (d1_bit (h q List.mem_cons_self))
theorem down_key : ∀ {l : List KT} {p : Nat × Nat}, Kp l → ∀ q ∈ l, (down l p).1.testBit q.1 = false
  | r :: l, p, h, q, hq => by
    show (down l (d1 p r)).1.testBit q.1 = false
    rcases List.mem_cons.mp hq with rfl | hq
    · rw [down_bit fun s hs => h.own q List.mem_cons_self s (List.mem_cons_of_mem _ hs) (h.ne hs)]
      unfold d1
      split
      · rename_i e
        show (p.1 ^^^ q.2.1).testBit q.1 = false
        rw [Nat.testBit_xor, e, (h.top q List.mem_cons_self).1]
        rfl
      · rename_i e
        simpa using e
    · exact down_key h.tail q hq
theorem sp_sub {L : List Nat} {a b : Nat} (h : sp L a = true) : sp L (b ^^^ a) = sp L b := by
  rw [Bool.eq_iff_iff]
  constructor
  · intro g
    have q := sp_add g h
    rwa [xor_cancel] at q
  · intro g
    exact sp_add g h
theorem down_sp : ∀ {l : List KT} {M : List Nat} {p : Nat × Nat}, (∀ q ∈ l, sp M q.2.1 = true) → sp M ((down l p).1 ^^^ p.1) = true
  | [], M, p, _ => by
    show sp M (p.1 ^^^ p.1) = true
    rw [Nat.xor_self]
    exact sp_zero M
  | q :: l, M, p, h => by
    have ih := down_sp (l := l) (M := M) (p := d1 p q) fun r hr => h r (List.mem_cons_of_mem _ hr)
    show sp M ((down l (d1 p q)).1 ^^^ p.1) = true
    have e : sp M ((d1 p q).1 ^^^ p.1) = true := by
      unfold d1
      split
      · show sp M ((p.1 ^^^ q.2.1) ^^^ p.1) = true
        rw [xor_right_comm, Nat.xor_self, Nat.zero_xor]
        exact h q List.mem_cons_self
      · rw [Nat.xor_self]; exact sp_zero M
    have z := sp_add ih e
    rwa [← Nat.xor_assoc, xor_cancel] at z
theorem down_rel {P : Nat → Nat → Prop} (hP : ∀ a b c d, P a b → P c d → P (a ^^^ c) (b ^^^ d)) : ∀ {l : List KT} {p : Nat × Nat}, (∀ q ∈ l, P q.2.1 q.2.2) → P p.1 p.2 → P (down l p).1 (down l p).2
  | [], _, _, h => h
  | q :: l, p, h, hp => by
    refine down_rel hP (l := l) (p := d1 p q) (fun r hr => h r (List.mem_cons_of_mem _ hr)) ?_
    unfold d1
    split
    · exact hP _ _ _ _ hp (h q List.mem_cons_self)
    · exact hp
theorem log2_top {n : Nat} (h : n ≠ 0) : n.testBit n.log2 = true ∧ n < 2 ^ (n.log2 + 1) := by
  refine ⟨?_, Nat.lt_log2_self⟩
  rw [Nat.testBit_eq_decide_div_mod_eq, decide_eq_true_eq]
  have h1 : 2 ^ n.log2 ≤ n := Nat.log2_self_le h
  have h2 : n < 2 ^ (n.log2 + 1) := Nat.lt_log2_self
  have e : n / 2 ^ n.log2 = 1 := by
    refine Nat.div_eq_of_lt_le (by omega) ?_
    rw [Nat.pow_succ] at h2
    omega
  rw [e]
theorem top_log2 {n k : Nat} (h : n.testBit k = true) (h2 : n < 2 ^ (k + 1)) : n.log2 = k := by
  have h0 : n ≠ 0 := fun z => by rw [z, Nat.zero_testBit] at h; cases h
  have g := log2_top h0
  have h1 : 2 ^ k ≤ n := Nat.ge_two_pow_of_testBit h
  have a1 : n.log2 ≤ k := Nat.le_of_lt_succ ((Nat.pow_lt_pow_iff_right (by omega : 1 < 2)).mp (Nat.lt_of_le_of_lt (Nat.log2_self_le h0) h2))
  have a2 : k ≤ n.log2 := Nat.le_of_lt_succ ((Nat.pow_lt_pow_iff_right (by omega : 1 < 2)).mp (Nat.lt_of_le_of_lt h1 g.2))
  omega
theorem testBit_big {n k : Nat} (h : n < 2 ^ k) {i : Nat} (hi : k ≤ i) : n.testBit i = false := Nat.testBit_lt_two_pow (Nat.lt_of_lt_of_le h (Nat.pow_le_pow_right (by omega) hi))
theorem up1_key {k : Nat} {p : Nat × Nat} {q : KT} : (up1 k p q).1 = q.1 := by unfold up1; split <;> rfl
/-- the rows kept, one more put -/
theorem Kp.put {l : List KT} {p : Nat × Nat} (h : Kp l) (hp : p.1 ≠ 0) (hk : ∀ q ∈ l, p.1.testBit q.1 = false) : Kp (l.map (up1 p.1.log2 p) ++ [(p.1.log2, p.1, p.2)]) := by
  have t := log2_top hp
  have nk : ∀ q ∈ l, q.1 ≠ p.1.log2 := fun q hq e => by
    have := hk q hq
    rw [e, t.1] at this
    cases this
  have ub : ∀ q : KT, ∀ k : Nat, p.1.testBit k = false → (up1 p.1.log2 p q).2.1.testBit k = q.2.1.testBit k := fun q k e => by
    unfold up1
    split
    · show (q.2.1 ^^^ p.1).testBit k = _
      rw [Nat.testBit_xor, e, Bool.xor_false]
    · rfl
  refine ⟨fun r hr => ?_, ?_, fun q hq r hr ne => ?_⟩
  · rcases List.mem_append.mp hr with hr | hr
    · obtain ⟨q, hq, rfl⟩ := List.mem_map.mp hr
      have g := h.top q hq
      rw [up1_key]
      refine ⟨(ub q q.1 (hk q hq)).trans g.1, ?_⟩
      unfold up1
      split
      · rename_i e
        show q.2.1 ^^^ p.1 < 2 ^ (q.1 + 1)
        have lt : p.1.log2 < q.1 + 1 := by
          refine Nat.lt_of_not_le fun z => ?_
          rw [testBit_big g.2 z] at e
          cases e
        exact Nat.xor_lt_two_pow g.2 (Nat.lt_of_lt_of_le t.2 (Nat.pow_le_pow_right (by omega) (by omega)))
      · exact g.2
    · rw [List.mem_singleton.mp hr]
      exact t
  · rw [List.map_append, List.map_map, List.map_congr_left (g := (·.1)) fun q _ => up1_key, List.nodup_append]
    refine ⟨h.nd, by simp, fun a ha b hb e => ?_⟩
    obtain ⟨q, hq, rfl⟩ := List.mem_map.mp ha
    have : b = p.1.log2 := by simpa using hb
    exact nk q hq (e.trans this)
  · rcases List.mem_append.mp hq with hq | hq <;> rcases List.mem_append.mp hr with hr | hr
    · obtain ⟨q, hq', rfl⟩ := List.mem_map.mp hq
      obtain ⟨r, hr', rfl⟩ := List.mem_map.mp hr
      rw [up1_key, up1_key] at ne
      rw [up1_key, ub r q.1 (hk q hq')]
      exact h.own q hq' r hr' ne
    · obtain ⟨q, hq', rfl⟩ := List.mem_map.mp hq
      rw [List.mem_singleton.mp hr, up1_key]
      exact hk q hq'
    · obtain ⟨r, hr, rfl⟩ := List.mem_map.mp hr
      rw [List.mem_singleton.mp hq]
      show (up1 p.1.log2 p r).2.1.testBit p.1.log2 = false
      unfold up1
      split
      · rename_i e
        show (r.2.1 ^^^ p.1).testBit p.1.log2 = false
        rw [Nat.testBit_xor, e, t.1]
        rfl
      · rename_i e
        simpa using e
    · rw [List.mem_singleton.mp hq, List.mem_singleton.mp hr] at ne
      exact absurd rfl ne
theorem rows_up {l : List KT} {p : Nat × Nat} {x : Nat} : sp (rows (l.map (up1 p.1.log2 p) ++ [(p.1.log2, p.1, p.2)])) x = sp (p.1 :: rows l) x := by
  have e : sp (rows (l.map (up1 p.1.log2 p) ++ [(p.1.log2, p.1, p.2)])) = sp (p.1 :: rows l) := by
    refine sp_ext (fun a ha => ?_) fun a ha => ?_
    · unfold rows at ha
      rw [List.map_append, List.mem_append] at ha
      rcases ha with ha | ha
      · obtain ⟨r, hr, rfl⟩ := List.mem_map.mp ha
        obtain ⟨q, hq, rfl⟩ := List.mem_map.mp hr
        have m : sp (p.1 :: rows l) q.2.1 = true := sp_mem (List.mem_cons_of_mem _ (List.mem_map.mpr ⟨q, hq, rfl⟩))
        unfold up1
        split
        · exact sp_add m (sp_mem List.mem_cons_self)
        · exact m
      · have : a = p.1 := by simpa using ha
        rw [this]
        exact sp_mem List.mem_cons_self
    · have mp : sp (rows (l.map (up1 p.1.log2 p) ++ [(p.1.log2, p.1, p.2)])) p.1 = true := sp_mem (List.mem_map.mpr ⟨_, List.mem_append_right _ (List.mem_singleton.mpr rfl), rfl⟩)
      rcases List.mem_cons.mp ha with rfl | ha
      · exact mp
      · obtain ⟨q, hq, rfl⟩ := List.mem_map.mp ha
        have m : sp (rows (l.map (up1 p.1.log2 p) ++ [(p.1.log2, p.1, p.2)])) (up1 p.1.log2 p q).2.1 = true := sp_mem (List.mem_map.mpr ⟨_, List.mem_append_left _ (List.mem_map.mpr ⟨q, hq, rfl⟩), rfl⟩)
        unfold up1 at m
        split at m
        · have z := sp_add m mp
          rwa [xor_cancel] at z
        · exact m
  rw [e]
/-- what the rows kept and the idle tags are, behind some rows -/
structure Rd (ps : List (Nat × Nat)) (S : List KT × List Nat) : Prop where
  kp : Kp S.1
  spn : sp (rows S.1) = sp (ps.map (·.1))
  many : S.1.length + S.2.length = ps.length
theorem down_in {l : List KT} (h : Kp l) {p : Nat × Nat} : (down l p).1 = 0 ↔ sp (rows l) p.1 = true := by
  have s := down_sp (l := l) (M := rows l) (p := p) fun q hq => sp_mem (List.mem_map.mpr ⟨q, hq, rfl⟩)
  constructor
  · intro e
    rw [e, Nat.zero_xor] at s
    exact s
  · intro g
    have m : sp (rows l) (down l p).1 = true := by
      have z := sp_add s g
      rwa [xor_cancel] at z
    refine Nat.eq_of_testBit_eq fun i => ?_
    rw [Nat.zero_testBit]
    -- the highest figure of a sum of kept rows is a key
    have key : ∀ (l : List KT), Kp l → ∀ x, sp (rows l) x = true → (∀ q ∈ l, x.testBit q.1 = false) → x = 0 := by
      intro l
      induction l with
      | nil => intro _ x hx _; simpa [rows, sp] using hx
      | cons q l ih =>
        intro hk x hx hq
        have hx : (sp (rows l) x || sp (rows l) (x ^^^ q.2.1)) = true := hx
        rw [Bool.or_eq_true] at hx
        rcases hx with hx | hx
        · exact ih hk.tail x hx fun r hr => hq r (List.mem_cons_of_mem _ hr)
        · have b : (x ^^^ q.2.1).testBit q.1 = false := sp_bit (fun a ha => by
            obtain ⟨r, hr, rfl⟩ := List.mem_map.mp ha
            exact hk.own q List.mem_cons_self r (List.mem_cons_of_mem _ hr) (hk.ne hr)) hx
          rw [Nat.testBit_xor, hq q List.mem_cons_self, (hk.top q List.mem_cons_self).1] at b
          cases b
    rw [key l h _ m fun q hq => down_key h q hq, Nat.zero_testBit]
theorem Rd.step {ps : List (Nat × Nat)} {S : List KT × List Nat} (h : Rd ps S) (p : Nat × Nat) : Rd (ps ++ [p]) (rstep S p) := by
  have dk : ∀ q ∈ S.1, (down S.1 p).1.testBit q.1 = false := fun q hq => down_key h.kp q hq
  have ds : sp (rows S.1) ((down S.1 p).1 ^^^ p.1) = true := down_sp fun q hq => sp_mem (List.mem_map.mpr ⟨q, hq, rfl⟩)
  have e0 : sp ((ps ++ [p]).map (·.1)) = sp (p.1 :: ps.map (·.1)) := by
    rw [List.map_append]
    refine sp_ext (fun a ha => sp_mem (by simpa [or_comm] using ha)) fun a ha => sp_mem (by simpa [or_comm] using ha)
  have e2 : sp (p.1 :: ps.map (·.1)) = sp (p.1 :: rows S.1) := by
    funext x
    show (sp (ps.map (·.1)) x || sp (ps.map (·.1)) (x ^^^ p.1)) = (sp (rows S.1) x || sp (rows S.1) (x ^^^ p.1))
    rw [h.spn]
  unfold rstep put1
  by_cases hz : (down S.1 p).1 = 0
  · rw [if_pos hz]
    refine ⟨h.kp, ?_, ?_⟩
    · rw [e0, e2, sp_in ((down_in h.kp).mp hz)]
    · have := h.many
      simp only [List.length_append, List.length_singleton]
      omega
  · rw [if_neg hz]
    refine ⟨h.kp.put hz dk, ?_, ?_⟩
    · rw [e0, e2]
      funext x
      rw [rows_up]
      show (sp (rows S.1) x || sp (rows S.1) (x ^^^ (down S.1 p).1)) = (sp (rows S.1) x || sp (rows S.1) (x ^^^ p.1))
      congr 1
      have z := sp_sub (b := x ^^^ p.1) ds
      rw [← z]
      congr 1
      rw [Nat.xor_comm (down S.1 p).1, ← Nat.xor_assoc, xor_cancel]
    · have := h.many
      simp only [List.length_append, List.length_singleton, List.length_map]
      omega
theorem Rd.of (ps : List (Nat × Nat)) : Rd ps (red ps) := by
  have key : ∀ (qs ps : List (Nat × Nat)) (S : List KT × List Nat), Rd ps S → Rd (ps ++ qs) (qs.foldl rstep S) := by
    intro qs
    induction qs with
    | nil => intro ps S h; simpa using h
    | cons q qs ih =>
      intro ps S h
      have z := ih (ps ++ [q]) (rstep S q) (h.step q)
      simpa using z
  exact key ps [] ([], []) ⟨Kp.nil, rfl, rfl⟩
/-- rows and tags -/
theorem red_rel {P : Nat → Nat → Prop} (hP : ∀ a b c d, P a b → P c d → P (a ^^^ c) (b ^^^ d)) {ps : List (Nat × Nat)} (h : ∀ p ∈ ps, P p.1 p.2) : (∀ q ∈ (red ps).1, P q.2.1 q.2.2) ∧ ∀ t ∈ (red ps).2, P 0 t := by
  have key : ∀ (qs : List (Nat × Nat)) (S : List KT × List Nat), (∀ p ∈ qs, P p.1 p.2) → ((∀ q ∈ S.1, P q.2.1 q.2.2) ∧ ∀ t ∈ S.2, P 0 t) → ((∀ q ∈ (qs.foldl rstep S).1, P q.2.1 q.2.2) ∧ ∀ t ∈ (qs.foldl rstep S).2, P 0 t) := by
    intro qs
    induction qs with
    | nil => intro S _ h; exact h
    | cons p qs ih =>
      intro S hq ⟨h1, h2⟩
      refine ih (rstep S p) (fun r hr => hq r (List.mem_cons_of_mem _ hr)) ?_
      have d := down_rel hP h1 (hq p List.mem_cons_self)
      unfold rstep put1
      by_cases hz : (down S.1 p).1 = 0
      · rw [if_pos hz]
        refine ⟨h1, fun t ht => ?_⟩
        rcases List.mem_append.mp ht with ht | ht
        · exact h2 t ht
        · rw [List.mem_singleton.mp ht, ← hz]
          exact d
      · rw [if_neg hz]
        refine ⟨fun q hq => ?_, h2⟩
        rcases List.mem_append.mp hq with hq | hq
        · obtain ⟨r, hr, rfl⟩ := List.mem_map.mp hq
          unfold up1
          split
          · exact hP _ _ _ _ (h1 r hr) d
          · exact h1 r hr
        · rw [List.mem_singleton.mp hq]
          exact d
  exact key ps ([], []) h ⟨fun q h => (by cases h), fun t h => (by cases h)⟩
theorem Kp.rank {l : List KT} (h : Kp l) : rk (rows l) = l.length := by
  have e : rows l = (l.map fun q => (q.1, q.2.1)).map (·.2) := by rw [List.map_map]; rfl
  rw [e, rk_own, List.length_map]
  · intro p hp
    obtain ⟨q, hq, rfl⟩ := List.mem_map.mp hp
    exact (h.top q hq).1
  · rw [List.pairwise_map]
    have nd := h.nd
    rw [List.Nodup, List.pairwise_map] at nd
    refine List.Pairwise.imp_of_mem (fun {a b} ha hb ne => ?_) nd
    exact h.own a ha b hb ne
theorem red_rank (ps : List (Nat × Nat)) : (red ps).1.length = rk (ps.map (·.1)) := by
  have h := Rd.of ps
  rw [← h.kp.rank]
  refine rk_ext (fun a ha => ?_) fun a ha => ?_
  · rw [← h.spn]; exact sp_mem ha
  · rw [h.spn]; exact sp_mem ha
end GF
namespace GF
def xs : List Nat → Nat := List.foldr (· ^^^ ·) 0
theorem xs_cons (a : Nat) (l : List Nat) : xs (a :: l) = a ^^^ xs l := rfl
theorem xs_app : ∀ l m : List Nat, xs (l ++ m) = xs l ^^^ xs m
  | [], m => (Nat.zero_xor _).symm
  | a :: l, m => by rw [List.cons_append, xs_cons, xs_cons, xs_app l m, Nat.xor_assoc]
theorem xs_filter (p : Nat → Bool) (f : Nat → Nat) : ∀ l : List Nat, xs ((l.filter p).map f) = xs (l.map fun i => if p i = true then f i else 0)
  | [] => rfl
  | a :: l => by
    rw [List.filter_cons]
    split
    · rename_i h
      rw [List.map_cons, xs_cons, xs_filter p f l, List.map_cons, xs_cons, if_pos h]
    · rename_i h
      rw [xs_filter p f l, List.map_cons, xs_cons, if_neg h, Nat.zero_xor]
theorem xs_xor (f g : Nat → Nat) : ∀ l : List Nat, xs (l.map fun i => f i ^^^ g i) = xs (l.map f) ^^^ xs (l.map g)
  | [] => (Nat.xor_self 0).symm
  | a :: l => by
    simp only [List.map_cons, xs_cons]
    rw [xs_xor f g l, Nat.xor_assoc, Nat.xor_assoc]
    congr 1
    rw [← Nat.xor_assoc, ← Nat.xor_assoc, Nat.xor_comm (g a)]
theorem xs_one {a i : Nat} : ∀ {l : List Nat}, l.Nodup → xs (l.map fun j => if j = i then a else 0) = if i ∈ l then a else 0
  | [], _ => rfl
  | b :: l, h => by
    rw [List.nodup_cons] at h
    rw [List.map_cons, xs_cons, xs_one h.2]
    by_cases e : b = i
    · subst e
      rw [if_pos rfl, if_neg h.1, if_pos List.mem_cons_self, Nat.xor_zero]
    · rw [if_neg e, Nat.zero_xor]
      by_cases m : i ∈ l
      · rw [if_pos m, if_pos (List.mem_cons_of_mem _ m)]
      · rw [if_neg m, if_neg (fun z => (List.mem_cons.mp z).elim (fun z => e z.symm) m)]
/-- what the rows at the figures of t make -/
def comb (L : List Nat) (t : Nat) : Nat := xs (((List.range L.length).filter t.testBit).map fun i => L.getD i 0)
theorem comb_is (L : List Nat) (t : Nat) : comb L t = xs ((List.range L.length).map fun i => if t.testBit i = true then L.getD i 0 else 0) := xs_filter _ _ _
theorem comb_xor (L : List Nat) (s t : Nat) : comb L (s ^^^ t) = comb L s ^^^ comb L t := by
  rw [comb_is, comb_is, comb_is, ← xs_xor]
  congr 1
  refine List.map_congr_left fun i _ => ?_
  rw [Nat.testBit_xor]
  cases s.testBit i <;> cases t.testBit i <;> simp
theorem comb_zero (L : List Nat) : comb L 0 = 0 := by
  have h := comb_xor L 0 0
  rwa [Nat.xor_self, Nat.xor_self] at h
theorem comb_one {L : List Nat} {i : Nat} (h : i < L.length) : comb L (2 ^ i) = L.getD i 0 := by
  rw [comb_is]
  have e : (List.range L.length).map (fun j => if (2 ^ i).testBit j = true then L.getD j 0 else 0) = (List.range L.length).map fun j => if j = i then L.getD i 0 else 0 := by
    refine List.map_congr_left fun j _ => ?_
    rw [Nat.testBit_two_pow]
    by_cases e : j = i
    · subst e; simp
    · rw [if_neg e, decide_eq_false (fun z => e z.symm)]
      rfl
  rw [e, xs_one List.nodup_range, if_pos (List.mem_range.mpr h)]
theorem comb_sp {L : List Nat} (t : Nat) : sp L (comb L t) = true := by
  have key : ∀ M : List Nat, (∀ a ∈ M, sp L a = true) → sp L (xs M) = true := by
    intro M
    induction M with
    | nil => intro _; exact sp_zero L
    | cons a M ih => intro h; exact sp_add (h a List.mem_cons_self) (ih fun b hb => h b (List.mem_cons_of_mem _ hb))
  refine key _ fun a ha => ?_
  obtain ⟨i, hi, rfl⟩ := List.mem_map.mp ha
  have hi := List.mem_range.mp (List.mem_filter.mp hi).1
  rw [List.getD_eq_getElem?_getD, List.getElem?_eq_getElem hi]
  exact sp_mem (List.getElem_mem hi)
/-- rows with their numbers' figures as tags -/
def tagged (L : List Nat) : List (Nat × Nat) := L.zipIdx.map fun p => (p.1, 2 ^ p.2)
theorem tagged_rows (L : List Nat) : (tagged L).map (·.1) = L := by
  unfold tagged
  rw [List.map_map]
  exact List.zipIdx_map_fst 0 L
theorem xor_two_lt {u m : Nat} (h : u < 2 ^ m) : (2 ^ m ^^^ u).testBit m = true ∧ 2 ^ m ^^^ u < 2 ^ (m + 1) := by
  refine ⟨?_, Nat.xor_lt_two_pow (Nat.pow_lt_pow_right (by omega) (by omega)) (Nat.lt_of_lt_of_le h (Nat.pow_le_pow_right (by omega) (by omega)))⟩
  rw [Nat.testBit_xor, Nat.testBit_two_pow_self, Nat.testBit_lt_two_pow h]
  rfl
theorem down_tag {m : Nat} : ∀ {l : List KT} {p : Nat × Nat}, (∀ q ∈ l, q.2.2 < 2 ^ m) → (down l p).2 ^^^ p.2 < 2 ^ m
  | [], p, _ => by
    show p.2 ^^^ p.2 < 2 ^ m
    rw [Nat.xor_self]
    exact Nat.two_pow_pos m
  | q :: l, p, h => by
    have ih := down_tag (l := l) (p := d1 p q) fun r hr => h r (List.mem_cons_of_mem _ hr)
    show (down l (d1 p q)).2 ^^^ p.2 < 2 ^ m
    have e : (d1 p q).2 ^^^ p.2 < 2 ^ m := by
      unfold d1
      split
      · show (p.2 ^^^ q.2.2) ^^^ p.2 < 2 ^ m
        rw [xor_right_comm, Nat.xor_self, Nat.zero_xor]
        exact h q List.mem_cons_self
      · rw [Nat.xor_self]; exact Nat.two_pow_pos m
    have z := Nat.xor_lt_two_pow ih e
    rwa [← Nat.xor_assoc, xor_cancel] at z
/-- the numbers of the rows that earlier ones make -/
def deps (L : List Nat) : List Nat := (List.range L.length).filter fun i => sp (L.take i) (L.getD i 0)
structure Tg (L : List Nat) (S : List KT × List Nat) : Prop where
  rd : Rd (tagged L) S
  lt : ∀ q ∈ S.1, q.2.2 < 2 ^ L.length
  idl : ∀ t ∈ S.2, t ≠ 0
  tops : S.2.map Nat.log2 = deps L
theorem tagged_snoc (L : List Nat) (a : Nat) : tagged (L ++ [a]) = tagged L ++ [(a, 2 ^ L.length)] := by
  unfold tagged
  rw [List.zipIdx_append, List.map_append]
  simp
theorem deps_snoc (L : List Nat) (a : Nat) : deps (L ++ [a]) = deps L ++ (if sp L a = true then [L.length] else []) := by
  unfold deps
  rw [List.length_append, List.length_singleton, List.range_succ, List.filter_append]
  congr 1
  · refine List.filter_congr fun i hi => ?_
    have hi := List.mem_range.mp hi
    rw [List.take_append_of_le_length (by omega), List.getD_eq_getElem?_getD, List.getD_eq_getElem?_getD, List.getElem?_append_left hi]
  · have e : (L ++ [a]).take L.length = L := List.take_left
    have e2 : (L ++ [a]).getD L.length 0 = a := by rw [List.getD_eq_getElem?_getD, List.getElem?_concat_length]; rfl
    rw [List.filter_cons, e, e2]
    simp
theorem Tg.step {L : List Nat} {S : List KT × List Nat} (h : Tg L S) (a : Nat) : Tg (L ++ [a]) (rstep S (a, 2 ^ L.length)) := by
  have hr := h.rd.step (a, 2 ^ L.length)
  rw [← tagged_snoc] at hr
  have hd := down_tag (p := (a, 2 ^ L.length)) h.lt
  have e : (down S.1 (a, 2 ^ L.length)).2 = 2 ^ L.length ^^^ ((down S.1 (a, 2 ^ L.length)).2 ^^^ 2 ^ L.length) := by
    rw [Nat.xor_comm (down S.1 (a, 2 ^ L.length)).2, ← Nat.xor_assoc, Nat.xor_self, Nat.zero_xor]
  have ht := xor_two_lt hd
  rw [← e] at ht
  have hin := down_in h.rd.kp (p := (a, 2 ^ L.length))
  rw [h.rd.spn, tagged_rows] at hin
  have wide : ∀ {x : Nat}, x < 2 ^ L.length → x < 2 ^ (L.length + 1) := fun hx => Nat.lt_of_lt_of_le hx (Nat.pow_le_pow_right (by omega) (by omega))
  refine ⟨hr, ?_, ?_, ?_⟩
  · intro q hq
    rw [List.length_append, List.length_singleton]
    unfold rstep put1 at hq
    by_cases hz : (down S.1 (a, 2 ^ L.length)).1 = 0
    · rw [if_pos hz] at hq
      exact wide (h.lt q hq)
    · rw [if_neg hz] at hq
      rcases List.mem_append.mp hq with hq | hq
      · obtain ⟨r, hr, rfl⟩ := List.mem_map.mp hq
        unfold up1
        split
        · exact Nat.xor_lt_two_pow (wide (h.lt r hr)) ht.2
        · exact wide (h.lt r hr)
      · rw [List.mem_singleton.mp hq]
        exact ht.2
  · intro t hq
    unfold rstep put1 at hq
    by_cases hz : (down S.1 (a, 2 ^ L.length)).1 = 0
    · rw [if_pos hz] at hq
      rcases List.mem_append.mp hq with hq | hq
      · exact h.idl t hq
      · rw [List.mem_singleton.mp hq]
        intro z
        rw [z, Nat.zero_testBit] at ht
        exact Bool.false_ne_true ht.1
    · rw [if_neg hz] at hq
      exact h.idl t hq
  · rw [deps_snoc]
    unfold rstep put1
    by_cases hz : (down S.1 (a, 2 ^ L.length)).1 = 0
    · rw [if_pos hz, if_pos (hin.mp hz), List.map_append, h.tops, List.map_singleton, top_log2 ht.1 ht.2]
    · rw [if_neg hz, if_neg (fun z => hz (hin.mpr z)), List.append_nil, h.tops]
theorem Tg.of (L : List Nat) : Tg L (red (tagged L)) := by
  have key : ∀ (n : Nat) (L : List Nat), L.length = n → Tg L (red (tagged L)) := by
    intro n
    induction n with
    | zero =>
      intro L hL
      rw [List.length_eq_zero_iff.mp hL]
      exact ⟨Rd.of _, fun q h => (by cases h), fun t h => (by cases h), rfl⟩
    | succ n ih =>
      intro L hL
      have hne : L ≠ [] := fun z => by rw [z] at hL; cases hL
      rw [← List.dropLast_concat_getLast hne, tagged_snoc]
      unfold red
      rw [List.foldl_append]
      exact (ih L.dropLast (by simp [hL])).step _
  exact key _ L rfl
theorem xor_inj {a b c : Nat} (h : a ^^^ c = b ^^^ c) : a = b := by
  have h2 := congrArg (· ^^^ c) h
  simpa only [xor_cancel] using h2
theorem tag_rel (L : List Nat) : (∀ q ∈ (red (tagged L)).1, comb L q.2.2 = q.2.1) ∧ ∀ t ∈ (red (tagged L)).2, comb L t = 0 :=
  red_rel (P := fun r t => comb L t = r) (fun a b c d h1 h2 => by rw [comb_xor, h1, h2]) fun p hp => by
    unfold tagged at hp
    obtain ⟨q, hq, rfl⟩ := List.mem_map.mp hp
    obtain ⟨x, i⟩ := q
    have e := List.mem_zipIdx_iff_getElem?.mp hq
    obtain ⟨hi, e2⟩ := List.getElem?_eq_some_iff.mp e
    show comb L (2 ^ i) = x
    rw [comb_one hi, List.getD_eq_getElem?_getD, e]
    rfl
theorem log2_xor_lt {a b : Nat} (hb : b ≠ 0) (h : a.log2 < b.log2) : (a ^^^ b).log2 = b.log2 := by
  have tb := log2_top hb
  have ha : a < 2 ^ b.log2 := by
    by_cases h0 : a = 0
    · rw [h0]; exact Nat.two_pow_pos _
    · exact Nat.lt_of_lt_of_le (log2_top h0).2 (Nat.pow_le_pow_right (by omega) h)
  refine top_log2 ?_ (Nat.xor_lt_two_pow (Nat.lt_of_lt_of_le ha (Nat.pow_le_pow_right (by omega) (by omega))) tb.2)
  rw [Nat.testBit_xor, tb.1, Nat.testBit_lt_two_pow ha]
  rfl
theorem top_in : ∀ {L : List Nat}, (∀ a ∈ L, a ≠ 0) → (L.map Nat.log2).Nodup → ∀ {x : Nat}, sp L x = true → x ≠ 0 → x.log2 ∈ L.map Nat.log2
  | [], _, _, x, h, hx => absurd (by simpa [sp] using h) hx
  | a :: L, h0, hn, x, h, hx => by
    rw [List.map_cons, List.nodup_cons] at hn
    have h : (sp L x || sp L (x ^^^ a)) = true := h
    have h0' : ∀ b ∈ L, b ≠ 0 := fun b hb => h0 b (List.mem_cons_of_mem _ hb)
    rw [Bool.or_eq_true] at h
    rw [List.map_cons]
    rcases h with h | h
    · exact List.mem_cons_of_mem _ (top_in h0' hn.2 h hx)
    · by_cases hy : x ^^^ a = 0
      · have e : x = a := xor_inj (c := a) (by rw [hy, Nat.xor_self])
        rw [e]
        exact List.mem_cons_self
      · have m := top_in h0' hn.2 h hy
        have ne : (x ^^^ a).log2 ≠ a.log2 := fun z => hn.1 (z ▸ m)
        have e : (x ^^^ a) ^^^ a = x := xor_cancel x a
        rcases Nat.lt_or_gt_of_ne ne with lt | lt
        · rw [← e, log2_xor_lt (h0 a List.mem_cons_self) lt]
          exact List.mem_cons_self
        · rw [← e, Nat.xor_comm, log2_xor_lt hy lt]
          exact List.mem_cons_of_mem _ m
theorem Kp.keys {l : List KT} (h : Kp l) : (rows l).map Nat.log2 = l.map (·.1) := by
  unfold rows
  rw [List.map_map]
  exact List.map_congr_left fun q hq => top_log2 (h.top q hq).1 (h.top q hq).2
theorem Kp.ne0 {l : List KT} (h : Kp l) : ∀ a ∈ rows l, a ≠ 0 := fun a ha z => by
  obtain ⟨q, hq, rfl⟩ := List.mem_map.mp ha
  have := (h.top q hq).1
  rw [z, Nat.zero_testBit] at this
  cases this
/-- distinct highest figures -/
theorem rk_tops : ∀ {L : List Nat}, (∀ a ∈ L, a ≠ 0) → (L.map Nat.log2).Nodup → rk L = L.length
  | [], _, _ => rfl
  | a :: L, h0, hn => by
    have h0' : ∀ b ∈ L, b ≠ 0 := fun b hb => h0 b (List.mem_cons_of_mem _ hb)
    rw [List.map_cons, List.nodup_cons] at hn
    unfold rk
    rw [if_neg (fun z => hn.1 (top_in h0' hn.2 z (h0 a List.mem_cons_self))), rk_tops h0' hn.2]
    rfl
theorem deps_nodup (L : List Nat) : (deps L).Nodup := List.Nodup.sublist List.filter_sublist List.nodup_range
/-- the reduced lots, as numbers -/
structure Lots (L : List Nat) (K : List KT) : Prop where
  kp : Kp K
  zero : ∀ q ∈ K, comb L q.2.1 = 0 ∧ q.2.1 < 2 ^ L.length
  many : K.length + rk L = L.length
  keys : ∀ i, i ∈ K.map (·.1) ↔ i ∈ deps L
  all : ∀ t, t < 2 ^ L.length → comb L t = 0 → sp (rows K) t = true
def lotsK (L : List Nat) : List KT := (red ((red (tagged L)).2.map fun m => (m, 0))).1
theorem idle_rank (L : List Nat) : rk (red (tagged L)).2 = (red (tagged L)).2.length := rk_tops (Tg.of L).idl (by rw [(Tg.of L).tops]; exact deps_nodup L)
theorem second_rows (l : List Nat) : (l.map fun m => (m, 0)).map (·.1) = l := by
  rw [List.map_map]
  exact List.map_id l
theorem idle_lt (L : List Nat) : ∀ t ∈ (red (tagged L)).2, t < 2 ^ L.length := fun t ht => by
  have tg := Tg.of L
  have m : t.log2 ∈ deps L := tg.tops ▸ List.mem_map.mpr ⟨t, ht, rfl⟩
  have m := List.mem_range.mp (List.mem_filter.mp m).1
  exact Nat.lt_of_lt_of_le (log2_top (tg.idl t ht)).2 (Nat.pow_le_pow_right (by omega) m)
theorem Lots.of (L : List Nat) : Lots L (lotsK L) := by
  have tg := Tg.of L
  have hr := Rd.of ((red (tagged L)).2.map fun m => (m, 0))
  have hs : sp (rows (lotsK L)) = sp (red (tagged L)).2 := by
    have := hr.spn
    rwa [second_rows] at this
  have nd : ((red (tagged L)).2.map Nat.log2).Nodup := by rw [tg.tops]; exact deps_nodup L
  have hk : Kp (lotsK L) := hr.kp
  have hz : ∀ x, sp (red (tagged L)).2 x = true → comb L x = 0 ∧ x < 2 ^ L.length := fun x hx => by
    refine ⟨?_, sp_lt (idle_lt L) hx⟩
    have key : ∀ M : List Nat, (∀ a ∈ M, comb L a = 0) → ∀ x, sp M x = true → comb L x = 0 := by
      intro M
      induction M with
      | nil => intro _ x hx; rw [show x = 0 by simpa [sp] using hx, comb_zero]
      | cons a M ih =>
        intro hM x hx
        have hx : (sp M x || sp M (x ^^^ a)) = true := hx
        rw [Bool.or_eq_true] at hx
        have hM' : ∀ b ∈ M, comb L b = 0 := fun b hb => hM b (List.mem_cons_of_mem _ hb)
        rcases hx with hx | hx
        · exact ih hM' x hx
        · have q := ih hM' _ hx
          rwa [comb_xor, hM a List.mem_cons_self, Nat.xor_zero] at q
    exact key _ (tag_rel L).2 x hx
  have keys : ∀ i, i ∈ (lotsK L).map (·.1) ↔ i ∈ deps L := fun i => by
    rw [← hk.keys, ← tg.tops]
    constructor
    · intro h
      obtain ⟨a, ha, rfl⟩ := List.mem_map.mp h
      exact top_in tg.idl nd (by rw [← hs]; exact sp_mem ha) (hk.ne0 a ha)
    · intro h
      obtain ⟨a, ha, rfl⟩ := List.mem_map.mp h
      exact top_in hk.ne0 (by rw [hk.keys]; exact hk.nd) (by rw [hs]; exact sp_mem ha) (tg.idl a ha)
  refine ⟨hk, fun q hq => hz _ (by rw [← hs]; exact sp_mem (List.mem_map.mpr ⟨q, hq, rfl⟩)), ?_, keys, fun t ht hc => ?_⟩
  · have h1 := red_rank ((red (tagged L)).2.map fun m => (m, 0))
    rw [second_rows, idle_rank] at h1
    have h2 := tg.rd.many
    have h3 := red_rank (tagged L)
    rw [tagged_rows] at h3
    have h4 : (tagged L).length = L.length := by unfold tagged; simp
    show (red ((red (tagged L)).2.map fun m => (m, 0))).1.length + rk L = L.length
    omega
  · -- what is left of t when reduced rows are taken from it is nothing
    have key : ∀ t, t < 2 ^ L.length → comb L t = 0 → t ≠ 0 → t.log2 ∈ deps L := fun t ht hc h0 => by
      have top := log2_top h0
      have hi : t.log2 < L.length := (Nat.pow_lt_pow_iff_right (by omega : 1 < 2)).mp (Nat.lt_of_le_of_lt (Nat.log2_self_le h0) ht)
      refine List.mem_filter.mpr ⟨List.mem_range.mpr hi, ?_⟩
      have e : t = 2 ^ t.log2 ^^^ (2 ^ t.log2 ^^^ t) := by rw [← Nat.xor_assoc, Nat.xor_self, Nat.zero_xor]
      have lo : 2 ^ t.log2 ^^^ t < 2 ^ t.log2 := by
        refine Nat.lt_pow_two_of_testBit _ fun i hi2 => ?_
        rw [Nat.testBit_xor, Nat.testBit_two_pow]
        by_cases hE : t.log2 = i
        · rw [← hE, top.1]; simp
        · rw [decide_eq_false hE, testBit_big top.2 (by omega)]; rfl
      rw [e, comb_xor, comb_one hi] at hc
      have e2 : L.getD t.log2 0 = comb L (2 ^ t.log2 ^^^ t) := xor_inj (c := comb L (2 ^ t.log2 ^^^ t)) (by rw [hc, Nat.xor_self])
      rw [e2]
      have e3 : comb L (2 ^ t.log2 ^^^ t) = comb (L.take t.log2) (2 ^ t.log2 ^^^ t) := by
        rw [comb_is, comb_is]
        have e4 : List.range L.length = List.range t.log2 ++ (List.range (L.length - t.log2)).map (t.log2 + ·) := by
          rw [← List.range_add]; congr 1; omega
        rw [e4, List.map_append, xs_app, List.length_take, Nat.min_eq_left (by omega)]
        have e5 : xs (((List.range (L.length - t.log2)).map (t.log2 + ·)).map fun i => if (2 ^ t.log2 ^^^ t).testBit i = true then L.getD i 0 else 0) = 0 := by
          rw [List.map_map]
          have e6 : (List.range (L.length - t.log2)).map ((fun i => if (2 ^ t.log2 ^^^ t).testBit i = true then L.getD i 0 else 0) ∘ (t.log2 + ·)) = (List.range (L.length - t.log2)).map fun j => if j = L.length then 0 else 0 := by
            refine List.map_congr_left fun j _ => ?_
            show (if (2 ^ t.log2 ^^^ t).testBit (t.log2 + j) = true then L.getD (t.log2 + j) 0 else 0) = _
            rw [testBit_big lo (by omega)]
            simp
          rw [e6, xs_one List.nodup_range]
          simp
        rw [e5, Nat.xor_zero]
        congr 1
        refine List.map_congr_left fun i hi2 => ?_
        have hi2 := List.mem_range.mp hi2
        rw [List.getD_eq_getElem?_getD, List.getD_eq_getElem?_getD, List.getElem?_take_of_lt hi2]
      rw [e3]
      exact comb_sp _
    have fin : ∀ (n t : Nat), t < 2 ^ n → t < 2 ^ L.length → comb L t = 0 → sp (rows (lotsK L)) t = true := by
      intro n
      induction n with
      | zero => intro t h0 _ _; rw [show t = 0 by omega]; exact sp_zero _
      | succ n ih =>
        intro t hn ht hc
        by_cases h0 : t = 0
        · rw [h0]; exact sp_zero _
        have m := (keys _).mpr (key t ht hc h0)
        obtain ⟨q, hq, eq⟩ := List.mem_map.mp m
        have sq : sp (rows (lotsK L)) q.2.1 = true := sp_mem (List.mem_map.mpr ⟨q, hq, rfl⟩)
        have zq := hz q.2.1 (by rw [← hs]; exact sq)
        have tq := hk.top q hq
        have top := log2_top h0
        have l2 : t.log2 < n + 1 := (Nat.pow_lt_pow_iff_right (by omega : 1 < 2)).mp (Nat.lt_of_le_of_lt (Nat.log2_self_le h0) hn)
        have lo : t ^^^ q.2.1 < 2 ^ n := by
          refine Nat.lt_pow_two_of_testBit _ fun i hi2 => ?_
          rw [Nat.testBit_xor]
          by_cases hE : i = t.log2
          · rw [hE, top.1, ← eq, tq.1]; rfl
          · have a1 : t.testBit i = false := testBit_big top.2 (by omega)
            have a2 : q.2.1.testBit i = false := testBit_big tq.2 (by omega)
            rw [a1, a2]; rfl
        have s := ih (t ^^^ q.2.1) lo (Nat.xor_lt_two_pow ht zq.2) (by rw [comb_xor, hc, zq.1]; rfl)
        have z := sp_add s sq
        rwa [xor_cancel] at z
    exact fin _ t ht ht hc
end GF
open Lean in
local macro_rules
  | `(tactic| k_state0 [$xs,*]) => do
    let mut ys : Array (TSyntax [`Lean.Parser.Tactic.simpErase, `Lean.Parser.Tactic.simpLemma]) := #[]
    for x in xs.getElems do
      match x with
      | `(-$i:ident) => ys := ys.push ⟨(← `(Parser.Tactic.simpErase| -$i:ident)).raw⟩
      | _ => ys := ys.push ⟨(← `(Parser.Tactic.simpLemma| $x:term)).raw⟩
    `(tactic| simp (disch := (first | assumption | omega | (simp only [List.length_cons, List.length_nil, List.length_map, List.length_append, List.length_replicate] <;> omega))) only [DX.rb_ok, DX.rb_exc, DX.rb_bad, DX.rb_ite, DX.m_ret, DX.m_badE, DX.m_opt, DX.m_optn, DX.m_ite, DX.rO_some, DX.rO_none, DX.rW_some, DX.rW_none, DX.rO_map, DX.rW_map, DX.s_var0, DX.s_varS, DX.s_c, DX.s_bin, DX.k_bin, DX.s_lift, DX.s_un, DX.s_liftU, DX.s_eqc, DX.k_eqc, DX.k_eqc2, DX.eq_ii, DX.ne_ii, DX.eq_ss, DX.ne_ss, DX.eq_bb, DX.ne_bb, DX.s_cmpE, DX.s_asB, DX.s_tru, DX.k_tru, DX.rT_some, DX.tru_d, DX.tru_c, DX.dtru_bl, DX.dtru_non, DX.dtru_int, DX.dtru_lst, DX.dtru_tup, DX.s_and, DX.s_or, DX.s_not, DX.k_and, DX.k_or, DX.k_not, DX.s_yes, DX.m_and, DX.m_or, DX.s_eand, DX.k_eand, DX.k_eand2, DX.s_eor, DX.k_eor, DX.k_eor2, DX.s_enot, DX.k_enot, DX.k_enot2, DX.s_if, DX.k_if, DX.m_iteD, DX.m_iteI, DX.m_iteB, DX.m_iteAnd, DX.m_iteOr, DX.m_iteS, DX.s_chain, DX.k_ch, DX.k_ch2, DX.k_ch3, DX.k_ch4, DX.s_anil, DX.s_acons, DX.k_arg, DX.k_arg2, DX.s_tup, DX.s_lst, DX.k_tup, DX.k_lst, DX.rL_some, DX.dats_nil, DX.dats_cons, DX.opt_map_some, DX.opt_map_none, DX.opt_or_some, DX.opt_or_none, DX.opt_bind_some, DX.s_ix, DX.k_ix, DX.k_ix2, DX.wix_dd, DX.wix_cd, DX.ix_t, DX.ix_l, DX.ix_s, DX.cix_l, DX.cix_d, DX.ix_d, DX.at_0, DX.at_1, DX.at_2, DX.s_sl, DX.k_sl, DX.k_sl2, DX.k_sl3, DX.s_onone, DX.s_osome, DX.k_asI, DX.sl_d, DX.sl_c, DX.sl_l, DX.sl_t, DX.cut_hi, DX.cut_lo, DX.cut_lh, DX.s_fn, DX.k_fn0, DX.k_fn1, DX.k_fn2, DX.k_fn3, DX.k_fn4, DX.k_fn5, DX.k_fn6, DX.s_fnp, DX.k_fnp1, DX.k_fnp2, DX.k_fnp2r, DX.k_fnp3, DX.s_call, DX.k_call, DX.s_o1, DX.s_o2, DX.len_d, DX.len_c, DX.len_l, DX.len_t, DX.len_scr, DX.len_s, DX.clen_l, DX.int_i, DX.int_b, DX.min_i, DX.max_i, DX.sq_dl, DX.sq_cl, DX.csq_l, DX.lof_t, DX.lof_l, DX.tof_t, DX.tof_l, DX.s_meth, DX.k_meth, DX.k_meth_str, DX.ok_str, DX.mt_str1, DX.mt_join, DX.d_I0, DX.d_mod, DX.d_div, DX.d_pow, DX.d_shr, DX.d_neg, DX.d_mulL, DX.d_mulR, DX.d_mulS, DX.d_addI, DX.d_addS, DX.d_addL, DX.d_addT, DX.s_seq, DX.k_seq_nx, DX.k_seq_rt, DX.k_seq_bk, DX.k_seq_ct, DX.s_nil, DX.s_ret, DX.k_ret, DX.s_retn, DX.s_brk, DX.s_cnt, DX.s_expr, DX.k_expr, DX.s_sif, DX.k_sif, DX.s_set, DX.k_set, DX.s_asg, DX.k_asg, DX.rE_some, DX.t_name, DX.t_tup, DX.t_cons, DX.t_nil, DX.s_par, DX.k_par, DX.s_par3, DX.k_par3, DX.s_raise, DX.s_put, DX.k_put, DX.k_put2, DX.k_put3, DX.k_put4, DX.put_is, DX.s_for, DX.k_for, DX.s_while, DX.s_iseq, DX.as_l, DX.as_t, DX.as_s, DX.as_scr, DX.s_rg1, DX.s_rg2, DX.k_rg1, DX.k_rg2, DX.s_enum, DX.k_enum_l, DX.k_enum_s, DX.s_zip, DX.k_zip_l, DX.k_zip_lt, DX.k_zip_tl, DX.k_zip_t, DX.k_zip_s, DX.s_off, DX.k_of, DX.rD_some, DX.dats_mapd, DX.s_flc, DX.k_lc, DX.wipe_nil, DX.wipe_cons, DX.s_celf, DX.k_celf, DX.s_flst, DX.k_flst, DX.k_fin_rt, DX.k_fin_nx, DX.start_nil, DX.start_cons, DX.repl_0, DX.repl_S, DX.s_caught, DX.s_frz, DX.k_frzd, DX.s_fld, DX.k_fld, DX.s_rgl1, DX.k_rgl1, DX.s_rgl2, DX.k_rgl, DX.k_rgl2, DX.s_flc2, DX.k_lc2, DX.s_new, DX.k_new2, DX.dk_cat, DX.dk_cat2, DX.dk_cat3, DX.dk_nil, DX.dk_cons, DX.dk_val, DX.dk_val2, DX.dk_dicC, DX.dk_dicC2, DX.dk_dic, DX.dk_dic2, DX.dk_rK, DX.dk_dat, DX.dk_datn, DX.eq_nn, DX.ne_nn, DX.lo_l, DX.lo_t, DX.lo_s, DX.dk_frz, DX.dk_rF, DX.dk_cfrz, DX.dk_methc, DX.dk_rLst, DX.dk_app, DX.dk_rApp, DX.dk_ext, DX.dk_rExt, DX.dk_snoc, DX.dk_last, DX.dk_setl, DX.dk_putF, DX.dk_putF2, DX.dk_putF3, DX.dk_putF4, DX.dk_rPF, DX.dk_new, DX.dk_newT, DX.dk_cfrzI, DX.dk_mulT, DX.dk_tlst, DX.s_lock, DX.s_keys, DX.cix_k, DX.k_bits, DX.s_star, DX.k_star, DX.k_star2, DX.k_star3, DX.k_starl, DX.k_start, DX.k_mcell, DX.s_flist, DX.k_flist, DX.k_flistt, DX.s_enumT, DX.k_enumT_t, DX.k_enumT_l, DX.k_enumT_s, DX.s_geT, DX.s_revTe, DX.s_revS, DX.s_revT, DX.k_kde, DX.k_kd, DX.k_revLe, DX.k_revL, DX.k_r1e, DX.k_r1, DX.k_xfe, DX.k_xf, DX.s_aapp, DX.k_app1, DX.k_app2, DX.k_appc1, DX.k_appc2, DX.s_hasT, DX.k_hasT, DX.k_hasT2, DX.k_rH, DX.s_get2, DX.k_get2, DX.k_get2b, DX.k_get2c, DX.k_rG, DX.cix_dit, DX.s_putT, DX.k_putT, DX.k_putT2, DX.k_putT3, DX.s_put2, DX.k_p2, DX.s_putTup, DX.k_pt, DX.k_la, DX.k_lb, DX.k_lcc, DX.k_ld, DX.k_nx, DX.s_fmul, DX.k_mul, DX.k_mulA, DX.s_frz2, DX.s_dc, DX.k_dc, DX.k_dcr, DX.k_frzT, DX.s_aug, DX.k_aug, DX.k_aug2, DX.k_aug3, List.set_cons_zero, List.set_cons_succ, List.getElem?_cons_zero, List.getElem?_cons_succ, List.length_cons, List.length_nil, ↓reduceIte, Nat.reduceAdd, decide_eq_true_eq, Bool.not_true, Bool.not_false, Bool.true_and, Bool.false_and, Bool.and_true, Bool.and_false, Bool.or_true, Bool.or_false, Bool.true_or, Bool.false_or, reduceCtorEq, decide_true, decide_false, Bool.false_eq_true, Int.reduceLT, Int.reduceLE, Int.reduceNeg, Int.reduceAdd, Int.reduceSub, Int.reduceMul, Nat.reduceMul, Nat.reduceLeDiff, Nat.zero_add, Bool.not_not, beq_self_eq_true, bne_self_eq_false, not_true_eq_false, not_false_eq_true, Bool.not_eq_true, Option.some.injEq, List.map_cons, List.map_nil, List.isEmpty_cons, List.isEmpty_nil, and_self, and_true, true_and, Int.toNat_natCast, Int.natCast_nonneg, Int.reduceToNat, Int.reduceEq, Int.reduceNe, Nat.reduceLT, Int.reduceBEq, Int.reduceBNe, Bool.not_eq_eq_eq_not, eq_self, if_true, if_false, ite_self, $ys,*])
namespace DX
open PySem PySem.Spec PyProof.Rows L2
def largeLen (cs : List Cell) : Nat := (cs.map fun c => match c with | .lst l => l.length | _ => 0).sum
def mu__law_draw_0 (_ : En) (cs : List Cell) : Nat := largeLen (cs.take 1) + 1
def ce__law_begun_0 : Ev := eCall (o1 dAbs) (aCons (eVar 3) (aNil))
def ci__law_begun_0 : EvT := tCmpE (eBin (dI0 fun i j => .bl (decide (j ≤ i))) (eVar 3) (eBin (dI cPow fun i j => .int (i ^ j.toNat)) (eC (.int 10)) (eC (.int 18))))
def ce__law_begun_1 : Ev := eBin (dI0 fun i j => .int (i - j)) (eVar 3) (eBin (dI cPow fun i j => .int (i ^ j.toNat)) (eC (.int 10)) (eC (.int 18)))
def b__law_begun : Sv := sSeq (sSet 1 (eOfF (fLc (iSeq (eVar 0)) (tName 3) (tYesE) (ce__law_begun_0) [3]))) (sSeq (sSet 2 (eCelF (fLc (iSeq (eVar 1)) (tName 3) (ci__law_begun_0) (ce__law_begun_1) [3]))) (sRet (eDicC [(.inr "large", eVar 2), (.inr "cells", eVar 1), (.inr "left", eC (.int 0)), (.inr "turn", eC (.int 0))])))
abbrev m__law_begun : Fn := fnOf 4 (b__law_begun)
def lt__law_draw_0 : EvT := tAnd' (tCmpE (eEqC false (eIx (eVar 0) (eC (.str "left"))) (eC (.int 0)))) (tCmpE (eEqC true (eIx (eVar 0) (eC (.str "large"))) (eLst (aNil))))
def lw__law_draw_0 : Sv := sPut (eVar 0) (eC (.str "left")) (eMeth okLst oPopAt (eIx (eVar 0) (eC (.str "large"))) (aCons (eC (.int 0)) (aNil)))
def b__law_draw : Sv := sSeq (sWhile mu__law_draw_0 (lt__law_draw_0) (lw__law_draw_0)) (sSeq (sIf (tCmpE (eBin (dI0 fun i j => .bl (decide (j < i))) (eIx (eVar 0) (eC (.str "left"))) (eC (.int 0)))) (sSeq (sSet 2 (eBin (dI cMod fun i j => .int (i % j)) (eCall (o1 dInt1) (aCons (eIx (eVar 0) (eC (.str "left"))) (aNil))) (eVar 1))) (sSeq (sPut (eVar 0) (eC (.str "left")) (eBin (dI cDiv fun i j => .int (i / j)) (eIx (eVar 0) (eC (.str "left"))) (eVar 1))) (sRet (eVar 2)))) (sNil)) (sSeq (sSet 3 (eBin dAdd (eIx (eVar 0) (eC (.str "turn"))) (eC (.int 1)))) (sSeq (sPut (eVar 0) (eC (.str "turn")) (eVar 3)) (sSeq (sSet 4 (eIf (tCmpE (eEqC true (eIx (eVar 0) (eC (.str "cells"))) (eLst (aNil)))) (eIx (eIx (eVar 0) (eC (.str "cells"))) (eBin (dI cMod fun i j => .int (i % j)) (eCall (o1 dInt1) (aCons (eVar 3) (aNil))) (eCall oLen (aCons (eIx (eVar 0) (eC (.str "cells"))) (aNil))))) (eC (.int 0)))) (sSeq (sSet 5 (eBin (dI cMod fun i j => .int (i % j)) (eCall (o1 dInt1) (aCons (eBin (dI cPow fun i j => .int (i ^ j.toNat)) (eBin dAdd (eBin dAdd (eBin (dI cMod fun i j => .int (i % j)) (eCall (o1 dInt1) (aCons (eVar 4) (aNil))) (eC (.int 2147483563))) (eBin dMul (eC (.int 40692)) (eVar 3))) (eC (.int 24681))) (eC (.int 3))) (aNil))) (eC (.int 2147483629)))) (sRet (eBin (dI cMod fun i j => .int (i % j)) (eCall (o1 dInt1) (aCons (eBin (dI cDiv fun i j => .int (i / j)) (eBin (dI cMod fun i j => .int (i % j)) (eCall (o1 dInt1) (aCons (eBin (dI cPow fun i j => .int (i ^ j.toNat)) (eBin dAdd (eVar 5) (eBin dMul (eC (.int 104917)) (eVar 3))) (eC (.int 5))) (aNil))) (eC (.int 2147483579))) (eC (.int 29))) (aNil))) (eVar 1))))))))
abbrev m__law_draw : Fn := fnOf 6 (b__law_draw)
def b__law_pick : Sv := sRet (eIx (eVar 1) (eFn 2 (m__law_draw) (aCons (eVar 0) (aCons (eCall oLen (aCons (eVar 1) (aNil))) (aNil)))))
abbrev m__law_pick : Fn := fnOf 2 (b__law_pick)
def stC (large cells : List Int) (L T : Int) (xt : List Cell) : List Cell := .lst (large.map fun i => .dat (.int i)) :: .dic [(.inr "large", .cel 0), (.inr "cells", .dat (.lst (cells.map .int))), (.inr "left", .dat (.int L)), (.inr "turn", .dat (.int T))] :: xt
structure St (cs xt : List Cell) (t : Nat) : Prop where
  ex : ∃ (large cells : List Int) (L T : Int), cs = stC large cells L T xt ∧ 0 ≤ L ∧ (∀ x ∈ large, 0 ≤ x) ∧ 0 ≤ T ∧ T ≤ t
theorem St.mono {cs xt : List Cell} {t u : Nat} (h : St cs xt t) (e : t ≤ u) : St cs xt u := by
  obtain ⟨large, cells, L, T, h1, h2, h3, h4, h5⟩ := h.ex
  exact ⟨large, cells, L, T, h1, h2, h3, h4, by omega⟩
theorem St.len {cs xt : List Cell} {t : Nat} (h : St cs xt t) : cs.length = xt.length + 2 := by
  obtain ⟨large, cells, L, T, rfl, _⟩ := h.ex
  rfl
theorem St.get {cs xt : List Cell} {t : Nat} (h : St cs xt t) (k : Nat) : cs[k + 2]? = xt[k]? := by
  obtain ⟨large, cells, L, T, rfl, _⟩ := h.ex
  rfl
theorem St.app {cs xt : List Cell} {t : Nat} (h : St cs xt t) (ys : List Cell) : St (cs ++ ys) (xt ++ ys) t := by
  obtain ⟨large, cells, L, T, rfl, h2, h3, h4, h5⟩ := h.ex
  exact ⟨large, cells, L, T, rfl, h2, h3, h4, h5⟩
theorem St.set {cs xt : List Cell} {t : Nat} (h : St cs xt t) (k : Nat) (c : Cell) : St (cs.set (k + 2) c) (xt.set k c) t := by
  obtain ⟨large, cells, L, T, rfl, h2, h3, h4, h5⟩ := h.ex
  exact ⟨large, cells, L, T, rfl, h2, h3, h4, h5⟩
theorem pys_ints : ∀ l : List Int, pys (l.map .int) = some (l.map PyData.int)
  | [] => rfl
  | x :: l => by simp [pys, py, pys_ints l]
theorem lay_ints : ∀ l : List Int, PyData.canLayAll0 (l.map PyData.int) = true
  | [] => rfl
  | x :: l => by
    show (PyData.canLay0 (.int x) && PyData.canLayAll0 (l.map PyData.int)) = true
    rw [lay_ints l]
    rfl
theorem depth_ints : ∀ l : List Int, PyData.depthAll (l.map PyData.int) = 0
  | [] => rfl
  | x :: l => by
    show max (PyData.depth (.int x)) (PyData.depthAll (l.map PyData.int)) = 0
    rw [depth_ints l]
    rfl
theorem shaped_ints (l : List Int) : SeqAt.shaped (.list (l.map PyData.int)) = true := by
  show (PyData.canLayAll0 (l.map PyData.int) && decide (PyData.depthAll (l.map PyData.int) + 1 ≤ 64)) = true
  rw [lay_ints, depth_ints]
  rfl
theorem eqv_nil (l : List Int) : PyData.eqv (.list (l.map PyData.int)) (.list []) = l.isEmpty := by
  cases l <;> rfl
theorem ne_nil_dat (l : List Int) (cs : List Cell) : eqC true (.dat (.lst (l.map .int))) (.dat (.lst [])) cs = some (.bl (!l.isEmpty)) := by
  have e1 : snap cs (.dat (.lst (l.map .int))) = some (.list (l.map PyData.int)) := by
    show (pys (l.map .int)).map PyData.list = _
    rw [pys_ints]
    rfl
  have e2 : snap cs (.dat (.lst [])) = some (.list []) := rfl
  unfold eqC eqB
  rw [show eqS (.dat (.lst (l.map .int))) (.dat (.lst [])) = none from rfl]
  dsimp only
  unfold eqL
  rw [e1, e2]
  dsimp only
  rw [shaped_ints, show SeqAt.shaped (.list []) = true from rfl, eqv_nil]
  rfl
theorem dats_ints : ∀ l : List Int, dats (l.map fun i => Wv.dat (.int i)) = some (l.map .int)
  | [] => rfl
  | x :: l => by simp [dats, dats_ints l]
theorem ne_nil_cel (large cells : List Int) (L T : Int) (xt : List Cell) : eqC true (.cel 0) (.dat (.lst [])) (stC large cells L T xt) = some (.bl (!large.isEmpty)) := by
  have e1 : snap (stC large cells L T xt) (.cel 0) = some (.list (large.map PyData.int)) := by
    show ((dats (large.map fun i => Wv.dat (.int i))).bind pys).map PyData.list = _
    rw [dats_ints]
    show (pys _).map _ = _
    rw [pys_ints]
    rfl
  have e2 : snap (stC large cells L T xt) (.dat (.lst [])) = some (.list []) := rfl
  unfold eqC eqB
  rw [show eqS (.cel 0) (.dat (.lst [])) = none from rfl]
  dsimp only
  unfold eqL
  rw [e1, e2]
  dsimp only
  rw [shaped_ints, show SeqAt.shaped (.list []) = true from rfl, eqv_nil]
  rfl
theorem st_left {large cells : List Int} {L T : Int} {xt : List Cell} : cIx (stC large cells L T xt)[1]? (.str "left") = some (.dat (.int L)) := (rfl)
theorem st_turn {large cells : List Int} {L T : Int} {xt : List Cell} : cIx (stC large cells L T xt)[1]? (.str "turn") = some (.dat (.int T)) := (rfl)
theorem st_large {large cells : List Int} {L T : Int} {xt : List Cell} : cIx (stC large cells L T xt)[1]? (.str "large") = some (.cel 0) := (rfl)
theorem st_cells {large cells : List Int} {L T : Int} {xt : List Cell} : cIx (stC large cells L T xt)[1]? (.str "cells") = some (.dat (.lst (cells.map .int))) := (rfl)
theorem st_putL {large cells : List Int} {L T M : Int} {xt : List Cell} : mPut (.cel 1) (.dat (.str "left")) (.dat (.int M)) (stC large cells L T xt) = .ok () (stC large cells M T xt) := (rfl)
theorem st_putT {large cells : List Int} {L T M : Int} {xt : List Cell} : mPut (.cel 1) (.dat (.str "turn")) (.dat (.int M)) (stC large cells L T xt) = .ok () (stC large cells L M xt) := (rfl)
theorem st_0 {large cells : List Int} {L T : Int} {xt : List Cell} : (stC large cells L T xt)[0]? = some (.lst (large.map fun i => .dat (.int i))) := (rfl)
theorem st_pop {large cells : List Int} {x L T : Int} {xt : List Cell} : oPopAt (.cel 0) [.dat (.int 0)] (stC (x :: large) cells L T xt) = .ok (.dat (.int x)) (stC large cells L T xt) := by
  have : seqIndex? 0 (large.length + 1) = some 0 := by unfold seqIndex?; simp
  unfold oPopAt stC
  simp [this]
theorem draw_loop : ∀ (large : List Int) (n : Nat) (cells : List Int) (L T : Int) (xt : List Cell) (r : En), large.length < n → ∃ large' L', loopW lt__law_draw_0 lw__law_draw_0 n (some (.cel 1) :: r) (stC large cells L T xt) = .ok (.nx (some (.cel 1) :: r)) (stC large' cells L' T xt) ∧ (∀ x ∈ large', x ∈ large) ∧ (L' = L ∨ L' ∈ large)
  | large, 0, _, _, _, _, _, h => absurd h (Nat.not_lt_zero _)
  | large, n + 1, cells, L, T, xt, r, h => by
    unfold loopW
    rw [mb]
    have nc := ne_nil_cel large cells L T xt
    by_cases hL : L = 0
    · subst hL
      match large, h, nc with
      | [], h, nc =>
        have tt : lt__law_draw_0 (some (.cel 1) :: r) (stC [] cells 0 T xt) = .ok false (stC [] cells 0 T xt) := by
          k_state0 [lt__law_draw_0, st_left, st_large, nc]
        refine ⟨[], 0, ?_, fun _ h => h, .inl rfl⟩
        k_state0 [tt]
      | x :: xs, h, nc =>
        have tt : lt__law_draw_0 (some (.cel 1) :: r) (stC (x :: xs) cells 0 T xt) = .ok true (stC (x :: xs) cells 0 T xt) := by
          k_state0 [lt__law_draw_0, st_left, st_large, nc]
        have bb : lw__law_draw_0 (some (.cel 1) :: r) (stC (x :: xs) cells 0 T xt) = .ok (.nx (some (.cel 1) :: r)) (stC xs cells x T xt) := by
          k_state0 [lw__law_draw_0, st_large, st_0, st_pop, st_putL]
        obtain ⟨large', L', ih, h1, h2⟩ := draw_loop xs n cells x T xt r (by simpa using h)
        refine ⟨large', L', ?_, fun z hz => List.mem_cons_of_mem _ (h1 z hz), .inr (h2.elim (fun e => e ▸ List.mem_cons_self) (List.mem_cons_of_mem _))⟩
        k_state0 [tt, mb, bb, ih]
    · have tt : lt__law_draw_0 (some (.cel 1) :: r) (stC large cells L T xt) = .ok false (stC large cells L T xt) := by
        k_state0 [lt__law_draw_0, st_left, st_large, hL, nc]
      refine ⟨large, L, ?_, fun _ h => h, .inl rfl⟩
      k_state0 [tt]
theorem atI_pos {α : Type} {l : List α} {i : Int} (h0 : 0 ≤ i) (h1 : i < l.length) : ∃ x, atI l i = some x ∧ x ∈ l := by
  have hn : i.toNat < l.length := by omega
  refine ⟨l[i.toNat], ?_, List.getElem_mem hn⟩
  rw [at_ge h0, List.getElem?_eq_getElem hn]
theorem r_draw {cs xt : List Cell} {t : Nat} {n : Int} (hs : St cs xt t) (ht : t < 1000000) (h1 : 1 ≤ n) (hn : n ≤ 1000000) : ∃ d cs', m__law_draw [.cel 1, .dat (.int n)] cs = .ok (.dat (.int d)) cs' ∧ 0 ≤ d ∧ d < n ∧ St cs' xt (t + 1) := by
  obtain ⟨large0, cells, L0, T, rfl, hL0, hl0, hT0, hT⟩ := hs.ex
  obtain ⟨large, L, q, hsub, hL1⟩ := draw_loop large0 (mu__law_draw_0 [some (.cel 1), some (.dat (.int n)), none, none, none, none] (stC large0 cells L0 T xt)) cells L0 T xt [some (.dat (.int n)), none, none, none, none] (by simp [mu__law_draw_0, largeLen, stC])
  have hL : 0 ≤ L := hL1.elim (fun e => e ▸ hL0) (hl0 L)
  have hl : ∀ x ∈ large, 0 ≤ x := fun x hx => hl0 x (hsub x hx)
  have hn0 : 0 < n := by omega
  by_cases hp : 0 < L
  · refine ⟨L % n, stC large cells (L / n) T xt, fn_ev ?_, Int.emod_nonneg _ (by omega), Int.emod_lt_of_pos _ (by omega), ⟨large, cells, L / n, T, rfl, Int.ediv_nonneg hL (by omega), hl, hT0, by omega⟩⟩
    k_state0 [b__law_draw, start_cons, start_nil, repl_S, repl_0, q, st_left, hp, st_putL]
  · have nd := ne_nil_dat cells (stC large cells L (T + 1) xt)
    have cell : ∃ c : Int, cells = [] ∧ c = 0 ∨ cells.isEmpty = false ∧ 0 < ((cells.map Dt.int).length : Int) ∧ atI (cells.map Dt.int) ((T + 1) % ((cells.map Dt.int).length : Int)) = some (.int c) := by
      match cells with
      | [] => exact ⟨0, .inl ⟨rfl, rfl⟩⟩
      | z :: zs =>
        obtain ⟨x, hx, hm⟩ := atI_pos (l := (z :: zs).map Dt.int) (i := (T + 1) % (((z :: zs).map Dt.int).length : Int)) (Int.emod_nonneg _ (by rw [List.length_map, List.length_cons]; omega)) (Int.emod_lt_of_pos _ (by rw [List.length_map, List.length_cons]; omega))
        obtain ⟨c, _, rfl⟩ := List.mem_map.mp hm
        exact ⟨c, .inr ⟨rfl, by rw [List.length_map, List.length_cons]; omega, hx⟩⟩
    obtain ⟨c, hc⟩ := cell
    refine ⟨((c % 2147483563 + 40692 * (T + 1) + 24681) ^ 3 % 2147483629 + 104917 * (T + 1)) ^ 5 % 2147483579 / 29 % n, stC large cells L (T + 1) xt, fn_ev ?_, Int.emod_nonneg _ (by omega), Int.emod_lt_of_pos _ (by omega), ⟨large, cells, L, T + 1, rfl, hL, hl, by omega, by omega⟩⟩
    rcases hc with ⟨rfl, rfl⟩ | ⟨he, hz, hx⟩
    · k_state0 [b__law_draw, start_cons, start_nil, repl_S, repl_0, q, st_left, hp, st_turn, st_putT, st_cells, nd]
    · rw [he] at nd
      k_state0 [b__law_draw, start_cons, start_nil, repl_S, repl_0, q, st_left, hp, st_turn, st_putT, st_cells, nd, hx]
theorem r_begun {ns : List Int} (hn : ns.length ≤ 63) : ∃ cs, m__law_begun [.dat (.scr ns)] [] = .ok (.cel 1) cs ∧ St cs [] 0 := by
  have big : (1000000000000000000 : Int) = 10 ^ (18 : Int).toNat := by decide
  have e1 : loopC (tName 3) tYesE ce__law_begun_0 [some (.dat (.scr ns)), none, none, none] (ns.map fun i => .dat (.int i)) [] = .ok (((ns.map fun i => if i < 0 then -i else i).map Dt.int).map Wv.dat) [] := by
    rw [lc_map (fun i => .dat (.int i)) (fun i => .int (if i < 0 then -i else i))]
    · rw [List.map_map (f := fun i : Int => if i < 0 then -i else i)]; rfl
    · intro x hx
      refine ⟨_, rfl, ?_⟩
      k_state0 [ce__law_begun_0]
      rfl
  have e2 : loopC (tName 3) ci__law_begun_0 ce__law_begun_1 [some (.dat (.scr ns)), some (.dat (.lst ((ns.map fun i => if i < 0 then -i else i).map Dt.int))), none, none] (((ns.map fun i => if i < 0 then -i else i).map Dt.int).map Wv.dat) [] = .ok ((((ns.map fun i => if i < 0 then -i else i).filter fun i => decide (10 ^ (18 : Int).toNat ≤ i)).map fun i => .int (i - 10 ^ (18 : Int).toNat)).map Wv.dat) [] := by
    refine lc_filterD Dt.int (fun i => .int (i - 10 ^ (18 : Int).toNat)) (fun i => decide (10 ^ (18 : Int).toNat ≤ i)) _ fun x hx => ⟨_, rfl, ?_, fun _ => ?_⟩
    · k_state0 [ci__law_begun_0]
    · k_state0 [ce__law_begun_1]
  refine ⟨stC (((ns.map fun i => if i < 0 then -i else i).filter fun i => decide (10 ^ (18 : Int).toNat ≤ i)).map fun i => i - 10 ^ (18 : Int).toNat) (ns.map fun i => if i < 0 then -i else i) 0 0 [], fn_ev ?_, ⟨_, _, 0, 0, rfl, Int.le_refl _, fun x hx => ?_, Int.le_refl _, by omega⟩⟩
  · k_state0 [b__law_begun, start_cons, start_nil, repl_S, repl_0, wipe_nil, wipe_cons, e1, e2]
    unfold stC
    simp [List.map_map, Function.comp_def]
  · obtain ⟨y, hy, rfl⟩ := List.mem_map.mp hx
    have := (List.mem_filter.mp hy).2
    simp only [decide_eq_true_eq] at this
    omega
theorem r_pick {cs xt : List Cell} {t : Nat} {l : List Dt} (hs : St cs xt t) (ht : t < 1000000) (h1 : 1 ≤ l.length) (hn : l.length ≤ 1000000) : ∃ x cs', m__law_pick [.cel 1, .dat (.lst l)] cs = .ok (.dat x) cs' ∧ x ∈ l ∧ St cs' xt (t + 1) := by
  obtain ⟨d, cs', q, d0, d1, s1⟩ := r_draw (n := (l.length : Int)) hs ht (by omega) (by omega)
  obtain ⟨x, hx, hm⟩ := atI_pos (l := l) d0 d1
  refine ⟨x, cs', fn_ev ?_, hm, s1⟩
  k_state0 [b__law_pick, start_cons, start_nil, repl_S, repl_0, q, hx]
theorem bitAnd_nat (a b : Nat) : Builtin.bitAnd (a : Int) b = ((a &&& b : Nat) : Int) := by
  unfold Builtin.bitAnd
  rw [decide_eq_true (Int.natCast_nonneg a), decide_eq_true (Int.natCast_nonneg b)]
  simp
theorem nat_parts (n : Nat) : n = n % 2 + 2 * (n / 2) := by omega
theorem and_m2 (a b : Nat) : (a &&& b) % 2 = a % 2 &&& b % 2 := by simpa using Nat.and_mod_two_pow (a := a) (b := b) (n := 1)
theorem xor_m2 (a b : Nat) : (a ^^^ b) % 2 = a % 2 ^^^ b % 2 := by simpa using Nat.xor_mod_two_pow (a := a) (b := b) (n := 1)
theorem xor_and : ∀ a b : Nat, (a ^^^ b) + 2 * (a &&& b) = a + b := by
  intro a
  induction a using Nat.strongRecOn with
  | ind a ih =>
    intro b
    by_cases h : a = 0
    · subst h; simp
    · have q := ih (a / 2) (by omega) (b / 2)
      have e2 : (a &&& b) / 2 = a / 2 &&& b / 2 := Nat.and_div_two
      have e3 : (a ^^^ b) / 2 = a / 2 ^^^ b / 2 := Nat.xor_div_two
      have c : (a % 2 ^^^ b % 2) + 2 * (a % 2 &&& b % 2) = a % 2 + b % 2 := by
        have h1 : a % 2 = 0 ∨ a % 2 = 1 := by omega
        have h2 : b % 2 = 0 ∨ b % 2 = 1 := by omega
        rcases h1 with h1 | h1 <;> rcases h2 with h2 | h2 <;> rw [h1, h2] <;> decide
      have p1 := nat_parts (a &&& b)
      have p2 := nat_parts (a ^^^ b)
      rw [e2, and_m2] at p1
      rw [e3, xor_m2] at p2
      omega
theorem bitXor_nat (a b : Nat) : Builtin.bitXor (a : Int) b = ((a ^^^ b : Nat) : Int) := by
  rw [PyProof.Rows.bitXor_and, bitAnd_nat]
  have := xor_and a b
  omega
end DX
namespace DX
open PySem PySem.Spec PyProof.Rows L2
def mu_is_odd_0 (env : En) (_ : List Cell) : Nat := match env with
  | some (.dat (.int i)) :: _ => i.toNat + 1
  | _ => 0
def lt_is_odd_0 : EvT := tCmpE (eBin (dI0 fun i j => .bl (decide (j < i))) (eVar 0) (eC (.int 0)))
def lw_is_odd_0 : Sv := sPar 0 1 (aCons (eBin (dI0 fun i j => .int (Builtin.bitAnd i j)) (eVar 0) (eBin (dI0 fun i j => .int (i - j)) (eVar 0) (eC (.int 1)))) (aCons (eNot (eVar 1)) (aNil)))
def b_is_odd : Sv := sSeq (sSet 1 (eC (.bl false))) (sSeq (sWhile mu_is_odd_0 (lt_is_odd_0) (lw_is_odd_0)) (sRet (eVar 1)))
abbrev m_is_odd : Fn := fnOf 2 (b_is_odd)
def b_is_number : Sv := sRet (eAnd (eCall oIsi (aCons (eVar 0) (aCons (eC (.op (.ty "int"))) (aNil)))) (eNot (eCall oIsi (aCons (eVar 0) (aCons (eC (.op (.ty "bool"))) (aNil))))))
abbrev m_is_number : Fn := fnOf 1 (b_is_number)
def b_is_between : Sv := sRet (eAnd (eFn 1 (m_is_number) (aCons (eVar 0) (aNil))) (eChain (dI0 fun i j => .bl (decide (i ≤ j))) (dI0 fun i j => .bl (decide (i ≤ j))) (eVar 1) (eVar 0) (eVar 2)))
abbrev m_is_between : Fn := fnOf 3 (b_is_between)
def b_is_sign : Sv := sRet (eAnd (eFn 1 (m_is_number) (aCons (eVar 0) (aNil))) (eBin dIn (eVar 0) (eTup (aCons (eC (.int 1)) (aCons (eUn dNeg (eC (.int 1))) (aNil))))))
abbrev m_is_sign : Fn := fnOf 1 (b_is_sign)
def ce_is_word_0 : Ev := eBin dIn (eVar 2) (eC (.str "1abc"))
def b_is_word : Sv := sSeq (sIf (tOr' (tNot' (tTru (eCall oIsi (aCons (eVar 0) (aCons (eC (.op (.ty "tuple"))) (aNil)))))) (tOr' (tCmpE (eEqC true (eCall oLen (aCons (eVar 0) (aNil))) (eC (.int 2)))) (tNot' (tTru (eFn 1 (m_is_sign) (aCons (eIx (eVar 0) (eC (.int 0))) (aNil))))))) (sRet (eC (.bl false))) (sNil)) (sSeq (sSet 1 (eIx (eVar 0) (eC (.int 1)))) (sRet (eAnd (eCall oIsi (aCons (eVar 1) (aCons (eC (.op (.ty "str"))) (aNil)))) (eAnd (eChain (dI0 fun i j => .bl (decide (i ≤ j))) (dI0 fun i j => .bl (decide (i ≤ j))) (eC (.int 1)) (eCall oLen (aCons (eVar 1) (aNil))) (eC (.int 12))) (eCall (o1 dAll) (aCons (eOfF (fLc (iSeq (eVar 1)) (tName 2) (tYesE) (ce_is_word_0) [2])) (aNil)))))))
abbrev m_is_word : Fn := fnOf 3 (b_is_word)
def ce_code_of_0 : Ev := eBin (dI cPow fun i j => .int (i * 2 ^ j.toNat)) (eMeth okStr (oStr1 kIndex) (eC (.str "1abc")) (aCons (eVar 2) (aNil))) (eBin dMul (eC (.int 2)) (eVar 1))
def b_code_of : Sv := sRet (eCall (o1 dSum) (aCons (eOfF (fLc (iEnumT (aCons (eIx (eVar 0) (eC (.int 1))) (aNil))) (tTupG 2 (tgCons (tName 1) (tgCons (tName 2) (tgNil)))) (tYesE) (ce_code_of_0) [1, 2])) (aNil)))
abbrev m_code_of : Fn := fnOf 3 (b_code_of)
def ce_letters_of_0 : Ev := eIx (eC (.str "1abc")) (eBin (dI0 fun i j => .int (Builtin.bitAnd i j)) (eBin (dI cShr fun i j => .int (i / 2 ^ j.toNat)) (eVar 0) (eBin dMul (eC (.int 2)) (eVar 2))) (eC (.int 3)))
def b_letters_of : Sv := sRet (eMeth okStr oJoin (eC (.str "")) (aCons (eOfF (fLc (iRg1 (aCons (eVar 1) (aNil))) (tName 2) (tYesE) (ce_letters_of_0) [2])) (aNil)))
abbrev m_letters_of : Fn := fnOf 3 (b_letters_of)
def b_is_crossed : Sv := sRet (eFn 1 (m_is_odd) (aCons (eBin (dI0 fun i j => .int (Builtin.bitAnd i j)) (eBin (dI0 fun i j => .int (Builtin.bitAnd i j)) (eBin (dI cShr fun i j => .int (i / 2 ^ j.toNat)) (eVar 0) (eC (.int 1))) (eVar 1)) (eC (.int 5592405))) (aNil)))
abbrev m_is_crossed : Fn := fnOf 2 (b_is_crossed)
def b_put_of : Sv := sSeq (sPar 2 3 (aCons (eFn 1 (m_code_of) (aCons (eVar 0) (aNil))) (aCons (eFn 1 (m_code_of) (aCons (eVar 1) (aNil))) (aNil)))) (sSeq (sSet 4 (eIf (tTru (eFn 2 (m_is_crossed) (aCons (eVar 2) (aCons (eVar 3) (aNil))))) (eBin dMul (eUn dNeg (eIx (eVar 0) (eC (.int 0)))) (eIx (eVar 1) (eC (.int 0)))) (eBin dMul (eIx (eVar 0) (eC (.int 0))) (eIx (eVar 1) (eC (.int 0)))))) (sRet (eTup (aCons (eVar 4) (aCons (eFn 2 (m_letters_of) (aCons (eBin (dI0 fun i j => .int (Builtin.bitXor i j)) (eVar 2) (eVar 3)) (aCons (eCall oLen (aCons (eIx (eVar 0) (eC (.int 1))) (aNil))) (aNil)))) (aNil))))))
abbrev m_put_of : Fn := fnOf 5 (b_put_of)
def b_is_past : Sv := sRet (eEqC false (eFn 2 (m_is_crossed) (aCons (eVar 0) (aCons (eVar 1) (aNil)))) (eFn 2 (m_is_crossed) (aCons (eVar 1) (aCons (eVar 0) (aNil)))))
abbrev m_is_past : Fn := fnOf 2 (b_is_past)
def b_past_of : Sv := sRet (eFn 2 (m_is_past) (aCons (eFn 1 (m_code_of) (aCons (eVar 0) (aNil))) (aCons (eFn 1 (m_code_of) (aCons (eVar 1) (aNil))) (aNil))))
abbrev m_past_of : Fn := fnOf 2 (b_past_of)
def lb__law_word_0 : Sv := sSet 2 (eBin dAdd (eVar 2) (eFn 2 (m__law_pick) (aCons (eVar 0) (aCons (eLst (aCons (eC (.str "1")) (aCons (eC (.str "a")) (aCons (eC (.str "b")) (aCons (eC (.str "c")) (aNil)))))) (aNil)))))
def b__law_word : Sv := sSeq (sSet 2 (eC (.str ""))) (sSeq (sFor (iRg1 (aCons (eVar 1) (aNil))) (tName 3) (lb__law_word_0)) (sRet (eTup (aCons (eFn 2 (m__law_pick) (aCons (eVar 0) (aCons (eLst (aCons (eC (.int 1)) (aCons (eC (.int 1)) (aCons (eUn dNeg (eC (.int 1))) (aNil))))) (aNil)))) (aCons (eVar 2) (aNil))))))
abbrev m__law_word : Fn := fnOf 4 (b__law_word)
def b__law_is_whole : Sv := sRet (eAnd (eCall oIsi (aCons (eVar 0) (aCons (eC (.op (.ty "int"))) (aNil)))) (eNot (eCall oIsi (aCons (eVar 0) (aCons (eC (.op (.ty "bool"))) (aNil))))))
abbrev m__law_is_whole : Fn := fnOf 1 (b__law_is_whole)
def b__law_is_below : Sv := sRet (eAnd (eFn 1 (m__law_is_whole) (aCons (eVar 0) (aNil))) (eChain (dI0 fun i j => .bl (decide (i ≤ j))) (dI0 fun i j => .bl (decide (i < j))) (eC (.int 0)) (eVar 0) (eVar 1)))
abbrev m__law_is_below : Fn := fnOf 2 (b__law_is_below)
def b__law_nothing : Sv := sRet (eTup (aCons (eVar 1) (aCons (eBin dMul (eC (.str "1")) (eVar 0)) (aNil))))
abbrev m__law_nothing : Fn := fnOf 2 (b__law_nothing)
def b__law_says : Sv := sRet (eIf (tTru (eVar 1)) (eBin dIs (eVar 0) (eC (.bl true))) (eBin dIs (eVar 0) (eC (.bl false))))
abbrev m__law_says : Fn := fnOf 2 (b__law_says)
def lb__law_two_0 : Sv := sSeq (sPar 6 7 (aCons (eMeth okStr (oStr1 kIndex) (eC (.str "1abc")) (aCons (eVar 4) (aNil))) (aCons (eMeth okStr (oStr1 kIndex) (eC (.str "1abc")) (aCons (eVar 5) (aNil))) (aNil)))) (sSeq (sIf (tAnd' (tCmpE (eBin (dI0 fun i j => .bl (decide (j < i))) (eVar 6) (eC (.int 1)))) (tCmpE (eEqC false (eBin (dI cMod fun i j => .int (i % j)) (eCall (o1 dInt1) (aCons (eVar 7) (aNil))) (eC (.int 2))) (eC (.int 1))))) (sSet 2 (eUn dNeg (eVar 2))) (sNil)) (sSet 3 (eBin dAdd (eVar 3) (eIx (eC (.str "1abc")) (eBin (dI0 fun i j => .int (Builtin.bitXor i j)) (eVar 6) (eVar 7))))))
def b__law_two : Sv := sSeq (sPar 2 3 (aCons (eBin dMul (eIx (eVar 0) (eC (.int 0))) (eIx (eVar 1) (eC (.int 0)))) (aCons (eC (.str "")) (aNil)))) (sSeq (sFor (iZipE (aCons (eIx (eVar 0) (eC (.int 1))) (aCons (eIx (eVar 1) (eC (.int 1))) (aNil)))) (tTupG 2 (tgCons (tName 4) (tgCons (tName 5) (tgNil)))) (lb__law_two_0)) (sRet (eTup (aCons (eVar 2) (aCons (eVar 3) (aNil))))))
abbrev m__law_two : Fn := fnOf 8 (b__law_two)
def b__law_bad_word : Sv := sSeq (sSet 1 (eLst (aCons (eC .non) (aCons (eC (.int 5)) (aCons (eC (.str "a")) (aCons (eTup (aNil)) (aCons (eTup (aCons (eC (.int 1)) (aNil))) (aCons (eTup (aCons (eC (.int 1)) (aCons (eC (.str "")) (aNil)))) (aCons (eTup (aCons (eC (.int 0)) (aCons (eC (.str "a")) (aNil)))) (aCons (eTup (aCons (eC (.int 2)) (aCons (eC (.str "a")) (aNil)))) (aCons (eTup (aCons (eC (.bl true)) (aCons (eC (.str "a")) (aNil)))) (aCons (eTup (aCons (eC (.int 1)) (aCons (eC (.str "d")) (aNil)))) (aCons (eTup (aCons (eC (.int 1)) (aCons (eC (.str "A")) (aNil)))) (aCons (eLst (aCons (eC (.int 1)) (aCons (eC (.str "a")) (aNil)))) (aCons (eTup (aCons (eC (.int 1)) (aCons (eC (.int 5)) (aNil)))) (aNil)))))))))))))))) (sSeq (sSet 1 (eBin dAdd (eVar 1) (eLst (aCons (eTup (aCons (eC (.int 1)) (aCons (eBin dMul (eC (.str "a")) (eC (.int 13))) (aNil)))) (aCons (eTup (aCons (eC (.str "1")) (aCons (eC (.str "a")) (aNil)))) (aCons (eTup (aCons (eC (.int 1)) (aCons (eTup (aCons (eC (.str "a")) (aNil))) (aNil)))) (aCons (eTup (aCons (eC (.int 1)) (aCons (eC (.str "a")) (aCons (eC (.int 1)) (aNil))))) (aCons (eTup (aCons (eUn dNeg (eC (.int 1))) (aCons (eC (.str "ab ")) (aNil)))) (aCons (eTup (aCons (eC .non) (aCons (eC (.str "1")) (aNil)))) (aCons ((fun _ => M.ret (.dat (.dic [])))) (aNil))))))))))) (sRet (eFn 2 (m__law_pick) (aCons (eVar 0) (aCons (eVar 1) (aNil))))))
abbrev m__law_bad_word : Fn := fnOf 2 (b__law_bad_word)
def par (n : Nat) : Bool := if h : n = 0 then false else xor (n % 2 == 1) (par (n / 2))
termination_by n
decreasing_by omega
theorem par_zero : par 0 = false := by unfold par; rfl
theorem par_rec (n : Nat) : par n = xor (n % 2 == 1) (par (n / 2)) := by
  by_cases h : n = 0
  · subst h
    rw [par_zero]
    rfl
  · conv => lhs; unfold par
    rw [dif_neg h]
theorem par_step : ∀ n : Nat, 0 < n → par (n &&& (n - 1)) = !par n := by
  intro n
  induction n using Nat.strongRecOn with
  | ind n ih =>
    intro hn
    have e2 : (n &&& (n - 1)) / 2 = n / 2 &&& (n - 1) / 2 := Nat.and_div_two
    have m2 : (n &&& (n - 1)) % 2 = 0 := by
      rw [and_m2]
      have h1 : (n % 2 = 0 ∧ (n - 1) % 2 = 1) ∨ (n % 2 = 1 ∧ (n - 1) % 2 = 0) := by omega
      rcases h1 with ⟨h1, h2⟩ | ⟨h1, h2⟩ <;> rw [h1, h2] <;> decide
    rw [par_rec (n &&& (n - 1)), par_rec n, e2, m2]
    by_cases h : n % 2 = 1
    · have : (n - 1) / 2 = n / 2 := by omega
      rw [this, Nat.and_self, h]
      simp
    · have h0 : n % 2 = 0 := by omega
      have : (n - 1) / 2 = n / 2 - 1 := by omega
      rw [this, ih (n / 2) (by omega) (by omega), h0]
      simp
theorem land_lt {n : Nat} (h : 0 < n) : (n &&& (n - 1)) < n := Nat.lt_of_le_of_lt Nat.and_le_right (by omega)
def code : List Nat → Nat
  | [] => 0
  | x :: l => x + 4 * code l
theorem m4_xor (a b : Nat) : (a ^^^ b) % 4 = a % 4 ^^^ b % 4 := by simpa using Nat.xor_mod_two_pow (a := a) (b := b) (n := 2)
theorem d4_and (a b : Nat) : (a &&& b) / 4 = a / 4 &&& b / 4 := by
  have e : ∀ n : Nat, n / 4 = n / 2 / 2 := fun n => by omega
  rw [e, e a, e b, Nat.and_div_two, Nat.and_div_two]
theorem d4_xor (a b : Nat) : (a ^^^ b) / 4 = a / 4 ^^^ b / 4 := by
  have e : ∀ n : Nat, n / 4 = n / 2 / 2 := fun n => by omega
  rw [e, e a, e b, Nat.xor_div_two, Nat.xor_div_two]
theorem code_xor : ∀ l m : List Nat, l.length = m.length → (∀ x ∈ l, x < 4) → (∀ x ∈ m, x < 4) → code (List.zipWith (fun x y => x ^^^ y) l m) = code l ^^^ code m
  | [], [], _, _, _ => rfl
  | x :: l, y :: m, h, hl, hm => by
    have ih := code_xor l m (by simpa using h) (fun z hz => hl z (List.mem_cons_of_mem _ hz)) (fun z hz => hm z (List.mem_cons_of_mem _ hz))
    have hx := hl x List.mem_cons_self
    have hy := hm y List.mem_cons_self
    show (x ^^^ y) + 4 * code (List.zipWith _ l m) = (x + 4 * code l) ^^^ (y + 4 * code m)
    rw [ih]
    have a1 : (x + 4 * code l) % 4 = x := by omega
    have a2 : (x + 4 * code l) / 4 = code l := by omega
    have b1 : (y + 4 * code m) % 4 = y := by omega
    have b2 : (y + 4 * code m) / 4 = code m := by omega
    have p := m4_xor (x + 4 * code l) (y + 4 * code m)
    have q := d4_xor (x + 4 * code l) (y + 4 * code m)
    rw [a1, b1] at p
    rw [a2, b2] at q
    have lt : x ^^^ y < 4 := Nat.xor_lt_two_pow (n := 2) hx hy
    omega
theorem code_digit : ∀ (l : List Nat) (i : Nat), (∀ x ∈ l, x < 4) → code l / 2 ^ (2 * i) % 4 = l.getD i 0
  | [], i, _ => by simp [code]
  | x :: l, 0, h => by
    have := h x List.mem_cons_self
    show (x + 4 * code l) / 2 ^ (2 * 0) % 4 = x
    simp
    omega
  | x :: l, i + 1, h => by
    have ih := code_digit l i fun z hz => h z (List.mem_cons_of_mem _ hz)
    have hx := h x List.mem_cons_self
    show (x + 4 * code l) / 2 ^ (2 * (i + 1)) % 4 = l.getD i 0
    have e : 2 ^ (2 * (i + 1)) = 4 * 2 ^ (2 * i) := by rw [show 2 * (i + 1) = 2 + 2 * i by omega, Nat.pow_add]
    rw [e, ← Nat.div_div_eq_div_mul, show (x + 4 * code l) / 4 = code l by omega]
    exact ih
/-- the crossings, place by place -/
def cross : List Nat → List Nat → Bool
  | x :: l, y :: m => xor (decide (2 ≤ x) && decide (y % 2 = 1)) (cross l m)
  | _, _ => false
theorem par4 (n : Nat) : par n = xor (n % 2 == 1) (xor (n / 2 % 2 == 1) (par (n / 4))) := by
  rw [par_rec n, par_rec (n / 2), Nat.div_div_eq_div_mul]
def figs : Nat → Nat
  | 0 => 0
  | n + 1 => 1 + 4 * figs n
theorem cross_par : ∀ (l m : List Nat) (n : Nat), l.length = m.length → l.length ≤ n → (∀ x ∈ l, x < 4) → (∀ x ∈ m, x < 4) → par ((code l / 2 &&& code m) &&& figs n) = cross l m
  | [], [], n, _, _, _, _ => by simp [code, cross, par_zero]
  | x :: l, y :: m, n + 1, h, hn, hl, hm => by
    have ih := cross_par l m n (by simpa using h) (by simpa using hn) (fun z hz => hl z (List.mem_cons_of_mem _ hz)) (fun z hz => hm z (List.mem_cons_of_mem _ hz))
    have hx := hl x List.mem_cons_self
    have hy := hm y List.mem_cons_self
    show par ((((x + 4 * code l) / 2) &&& (y + 4 * code m)) &&& (1 + 4 * figs n)) = xor (decide (2 ≤ x) && decide (y % 2 = 1)) (cross l m)
    have a2 : (x + 4 * code l) / 2 / 4 = code l / 2 := by omega
    have b2 : (y + 4 * code m) / 4 = code m := by omega
    have c2 : (1 + 4 * figs n) / 4 = figs n := by omega
    have q : ((((x + 4 * code l) / 2) &&& (y + 4 * code m)) &&& (1 + 4 * figs n)) / 4 = (code l / 2 &&& code m) &&& figs n := by rw [d4_and, d4_and, a2, b2, c2]
    have r0 : ((((x + 4 * code l) / 2) &&& (y + 4 * code m)) &&& (1 + 4 * figs n)) / 2 % 2 = 0 := by
      rw [Nat.and_div_two, and_m2, show (1 + 4 * figs n) / 2 % 2 = 0 by omega]
      exact Nat.and_zero _
    have r1 : ((((x + 4 * code l) / 2) &&& (y + 4 * code m)) &&& (1 + 4 * figs n)) % 2 = (x / 2) &&& (y % 2) := by
      rw [and_m2, and_m2, show (1 + 4 * figs n) % 2 = 1 by omega, show (x + 4 * code l) / 2 % 2 = x / 2 by omega, show (y + 4 * code m) % 2 = y % 2 by omega]
      have h1 : x / 2 = 0 ∨ x / 2 = 1 := by omega
      have h2 : y % 2 = 0 ∨ y % 2 = 1 := by omega
      rcases h1 with h1 | h1 <;> rcases h2 with h2 | h2 <;> rw [h1, h2] <;> decide
    rw [par4, q, r0, r1, ih]
    have h1 : (x / 2 = 0 ∧ ¬ 2 ≤ x) ∨ (x / 2 = 1 ∧ 2 ≤ x) := by omega
    have h2 : y % 2 = 0 ∨ y % 2 = 1 := by omega
    rcases h1 with ⟨h1, h3⟩ | ⟨h1, h3⟩ <;> rcases h2 with h2 | h2 <;> simp [h1, h2, h3]
  | _ :: _, _ :: _, 0, _, h, _, _ => by simp at h
def chr4 (x : Nat) : Nat := match x with
  | 0 => 49
  | 1 => 97
  | 2 => 98
  | _ => 99
def strOf (l : List Nat) : Str := ⟨(l.map chr4).toArray⟩
def wdD (s : Int) (l : List Nat) : Dt := .tup [.int s, .str (strOf l)]
abbrev wd (s : Int) (l : List Nat) : Wv := .dat (wdD s l)
def Fig (l : List Nat) : Prop := ∀ x ∈ l, x < 4
theorem strOf_len (l : List Nat) : (strOf l).length = l.length := by simp [strOf, Str.length]
theorem strOf_app (l m : List Nat) : strOf l ++ strOf m = strOf (l ++ m) := by
  show Str.mk _ = _
  simp [strOf]
theorem ix1 {c : Nat} (h : c < 4) : Txt.index0 "1abc" ⟨#[chr4 c]⟩ = some c := by
  match c, h with
  | 0, _ => decide +kernel
  | 1, _ => decide +kernel
  | 2, _ => decide +kernel
  | 3, _ => decide +kernel
theorem intsOf_map : ∀ ns : List Int, intsOf (ns.map .int) = some ns
  | [] => rfl
  | n :: ns => by simp [intsOf, intsOf_map ns]
theorem join_eq' (y : Str) (parts : List Str) : Txt.join y parts = Str.join y parts := TL.join_eq y parts
theorem join0 : ∀ l : List Nat, Str.join ⟨#[]⟩ (l.map fun c => (⟨#[c]⟩ : Str)) = ⟨l.toArray⟩
  | [] => rfl
  | [c] => rfl
  | c :: d :: l => by
    have ih := join0 (d :: l)
    show (⟨#[c]⟩ : Str) ++ ⟨#[]⟩ ++ Str.join ⟨#[]⟩ ((d :: l).map fun c => (⟨#[c]⟩ : Str)) = _
    rw [ih]
    show Str.mk ((#[c] ++ #[]) ++ (d :: l).toArray) = _
    simp
theorem strsOf_map (l : List Nat) : strsOf (l.map fun c => Dt.str ⟨#[c]⟩) = some (l.map fun c => (⟨#[c]⟩ : Str)) := by
  induction l with
  | nil => rfl
  | cons c l ih => simp [strsOf, ih]
theorem letter {x : Nat} (h : x < 4) : dIx (.str "1abc") (.int x) = some (.str ⟨#[chr4 x]⟩) := by
  match x, h with
  | 0, _ => rfl
  | 1, _ => rfl
  | 2, _ => rfl
  | 3, _ => rfl
theorem sum_zip : ∀ (l : List Nat) (k : Nat), ((l.zipIdx k).map fun q : Nat × Nat => (q.1 : Int) * 2 ^ (2 * q.2)).sum = 2 ^ (2 * k) * (code l : Int)
  | [], k => by simp [code]
  | x :: l, k => by
    have ih := sum_zip l (k + 1)
    rw [List.zipIdx_cons, List.map_cons, List.sum_cons, ih]
    show (x : Int) * 2 ^ (2 * k) + 2 ^ (2 * (k + 1)) * (code l : Int) = 2 ^ (2 * k) * ((x + 4 * code l : Nat) : Int)
    rw [show 2 * (k + 1) = 2 * k + 2 by omega, Int.pow_add]
    push_cast
    rw [Int.mul_add, Int.mul_comm (x : Int), Int.mul_assoc]
theorem signD_strOf (l : List Nat) : signD (strOf l) = l.map fun x => .str ⟨#[chr4 x]⟩ := by simp [signD, strOf]
theorem dix_w0 {s : Int} {l : List Nat} : dIx (wdD s l) (.int 0) = some (.int s) := (rfl)
theorem dix_w1 {s : Int} {l : List Nat} : dIx (wdD s l) (.int 1) = some (.str (strOf l)) := (rfl)
theorem kidx {x : Nat} (h : x < 4) : kIndex "1abc" ⟨#[chr4 x]⟩ = some (.int x) := by
  unfold kIndex
  rw [ix1 h]
  rfl
theorem r_code_of {s : Int} {l : List Nat} {cs : List Cell} (hl : l.length ≤ 12) (hf : Fig l) : m_code_of [wd s l] cs = .ok (.dat (.int (code l))) cs := by
  have e1 : loopC (tTupG 2 (tgCons (tName 1) (tgCons (tName 2) tgNil))) tYesE ce_code_of_0 [some (wd s l), none, none] (l.zipIdx.map fun q => .dat (.tup [.int (q.2 : Nat), .str ⟨#[chr4 q.1]⟩])) cs = .ok ((l.zipIdx.map fun q => Dt.int ((q.1 : Int) * 2 ^ (2 * q.2))).map Wv.dat) cs := by
    refine lc_map (fun q : Nat × Nat => .dat (.tup [.int (q.2 : Nat), .str ⟨#[chr4 q.1]⟩])) _ _ fun q hq => ⟨_, rfl, ?_⟩
    have hx : q.1 < 4 := hf _ (List.fst_mem_of_mem_zipIdx hq)
    have hi := List.snd_lt_of_mem_zipIdx hq
    have ki := kidx hx
    have : (2 * (q.2 : Int)).toNat = 2 * q.2 := by omega
    k_state0 [ce_code_of_0, ki, this]
  have rl : l.zipIdx.length = l.length := List.length_zipIdx
  refine fn_ev ?_
  k_state0 [b_code_of, start_cons, start_nil, repl_S, repl_0, dix_w1, signD_strOf, enum_map, wipe_nil, wipe_cons, e1, dats_mapd]
  have e2 := sum_zip l 0
  have e3 : (l.zipIdx.map fun q => Dt.int ((q.1 : Int) * 2 ^ (2 * q.2))) = (l.zipIdx.map fun q : Nat × Nat => (q.1 : Int) * 2 ^ (2 * q.2)).map Dt.int := by rw [List.map_map]; rfl
  have e4 : dSum (.lst (l.zipIdx.map fun q => Dt.int ((q.1 : Int) * 2 ^ (2 * q.2)))) = some (.int (code l)) := by
    show (intsOf _).map _ = _
    rw [e3, intsOf_map]
    show some (Dt.int (List.sum _)) = _
    rw [e2]
    simp
  k_state0 [e4]
theorem joinS (l : List Nat) (h : l.length ≤ 12) : kJoin "" (l.map fun x => .str ⟨#[chr4 x]⟩) = some (.str (strOf l)) := by
  have e0 : (l.map fun x => Dt.str ⟨#[chr4 x]⟩) = (l.map chr4).map fun c => Dt.str ⟨#[c]⟩ := by rw [List.map_map]; rfl
  unfold kJoin
  rw [e0, strsOf_map]
  dsimp only [Option.bind]
  rw [if_pos ?_, join_eq', show (("" : Str)) = ⟨#[]⟩ from rfl, join0]
  · rfl
  · have e : (List.map (fun x => x.length) (List.map (fun c => (⟨#[c]⟩ : Str)) (List.map chr4 l))).sum = l.length := by
      clear e0 h
      induction l with
      | nil => rfl
      | cons x l ih => simp only [List.map_cons, List.sum_cons, ih, List.length_cons]; show 1 + _ = _; omega
    rw [decide_eq_true_eq, e]
    simp only [List.length_map]
    show l.length + l.length * 0 ≤ _
    omega
theorem r_letters_of {l : List Nat} {cs : List Cell} (hl : l.length ≤ 12) (hf : Fig l) : m_letters_of [.dat (.int (code l)), .dat (.int l.length)] cs = .ok (.dat (.str (strOf l))) cs := by
  have e1 : loopC (tName 2) tYesE ce_letters_of_0 [some (.dat (.int (code l))), some (.dat (.int l.length)), none] (rangeW 0 l.length) cs = .ok ((l.map fun x => .str ⟨#[chr4 x]⟩).map Wv.dat) cs := by
    have q := lc_map (t := tName 2) (f := ce_letters_of_0) (env := [some (.dat (.int (code l))), some (.dat (.int l.length)), none]) (cs := cs) (fun i : Nat => .dat (.int (0 + i))) (fun i => .str ⟨#[chr4 (l.getD i 0)]⟩) (List.range l.length) fun i hi => ⟨_, rfl, by
      have hi := List.mem_range.mp hi
      have hx : l.getD i 0 < 4 := by rw [List.getD_eq_getElem?_getD, List.getElem?_eq_getElem hi]; exact hf _ (List.getElem_mem hi)
      have t2 : (2 * (0 + (i : Int))).toNat = 2 * i := by omega
      have a1 : Builtin.bitAnd ((code l : Int) / 2 ^ (2 * i)) 3 = (l.getD i 0 : Nat) := by
        rw [PyProof.Rows.bitAnd_m2]
        have q := code_digit l i hf
        have q3 : ((code l : Int) / 2 ^ (2 * i)) = ((code l / 2 ^ (2 * i) : Nat) : Int) := by push_cast; rfl
        rw [q3]
        omega
      have le := letter hx
      k_state0 [ce_letters_of_0, t2, a1, le, -ix_s]⟩
    have e2 : (List.range l.length).map (fun i => Dt.str ⟨#[chr4 (l.getD i 0)]⟩) = l.map fun x => .str ⟨#[chr4 x]⟩ := by
      refine List.ext_getElem (by simp) fun i h1 h2 => ?_
      have hi : i < l.length := by simpa using h1
      simp [List.getElem?_eq_getElem hi]
    rw [e2] at q
    exact q
  have e3 := joinS l hl
  have rl : (rangeW 0 l.length).length = l.length := by simp [rangeW]
  refine fn_ev ?_
  k_state0 [b_letters_of, start_cons, start_nil, repl_S, repl_0, wipe_nil, wipe_cons, rl, e1, dats_mapd, e3]
theorem odd_loop : ∀ (n z : Nat) (b : Bool) (cs : List Cell), z < n → loopW lt_is_odd_0 lw_is_odd_0 n [some (.dat (.int z)), some (.dat (.bl b))] cs = .ok (.nx [some (.dat (.int 0)), some (.dat (.bl (xor b (par z))))]) cs
  | n + 1, z, b, cs, h => by
    unfold loopW
    rw [mb]
    have t : lt_is_odd_0 [some (.dat (.int z)), some (.dat (.bl b))] cs = .ok (decide ((0 : Int) < z)) cs := by k_state0 [lt_is_odd_0]
    by_cases hz : 0 < z
    · have hz' : (0 : Int) < z := by omega
      have e : Builtin.bitAnd (z : Int) ((z : Int) - 1) = ((z &&& (z - 1) : Nat) : Int) := by
        rw [show ((z : Int) - 1) = ((z - 1 : Nat) : Int) by omega, bitAnd_nat]
      have s1 : lw_is_odd_0 [some (.dat (.int z)), some (.dat (.bl b))] cs = .ok (.nx [some (.dat (.int ((z &&& (z - 1) : Nat) : Int))), some (.dat (.bl (!b)))]) cs := by k_state0 [lw_is_odd_0, e]
      have ih := odd_loop n (z &&& (z - 1)) (!b) cs (by have := land_lt hz; omega)
      k_state0 [t, hz', mb, s1, ih]
      rw [par_step z hz]
      cases b <;> cases par z <;> rfl
    · have : z = 0 := by omega
      subst this
      k_state0 [t]
      rw [par_zero]
      simp
theorem r_is_odd {z : Nat} {cs : List Cell} : m_is_odd [.dat (.int z)] cs = .ok (.dat (.bl (par z))) cs := by
  refine fn_ev ?_
  have q := odd_loop (mu_is_odd_0 [some (.dat (.int z)), some (.dat (.bl false))] cs) z false cs (by show z < (z : Int).toNat + 1; omega)
  k_state0 [b_is_odd, start_cons, start_nil, repl_S, repl_0, q]
  simp
theorem r_is_crossed {l m : List Nat} {cs : List Cell} (h : l.length = m.length) (hl : l.length ≤ 12) (fl : Fig l) (fm : Fig m) : m_is_crossed [.dat (.int (code l)), .dat (.int (code m))] cs = .ok (.dat (.bl (cross l m))) cs := by
  refine fn_ev ?_
  have e : Builtin.bitAnd (Builtin.bitAnd ((code l : Int) / 2 ^ 1) (code m)) 5592405 = (((code l / 2 &&& code m) &&& figs 12 : Nat) : Int) := by
    rw [show ((code l : Int) / 2 ^ 1) = ((code l / 2 : Nat) : Int) by simp, bitAnd_nat, show (5592405 : Int) = ((figs 12 : Nat) : Int) from rfl, bitAnd_nat]
  have q := r_is_odd (z := (code l / 2 &&& code m) &&& figs 12) (cs := cs)
  rw [cross_par l m 12 h hl fl fm] at q
  k_state0 [b_is_crossed, start_cons, start_nil, repl_S, repl_0, e, q]
def Sg (s : Int) : Prop := s = 1 ∨ s = -1
def zx (l m : List Nat) : List Nat := List.zipWith (fun x y => x ^^^ y) l m
def ps (s t : Int) (l m : List Nat) : Int := if cross l m = true then -(s * t) else s * t
theorem sg_ps {s t : Int} {l m : List Nat} (hs : Sg s) (ht : Sg t) : Sg (ps s t l m) := by
  unfold ps
  rcases hs with rfl | rfl <;> rcases ht with rfl | rfl <;> cases cross l m <;> simp [Sg]
theorem zx_len {l m : List Nat} (h : l.length = m.length) : (zx l m).length = l.length := by simp [zx, h]
theorem zx_fig : ∀ {l m : List Nat}, Fig l → Fig m → Fig (zx l m)
  | [], _, _, _ => by simp [zx, Fig]
  | _ :: _, [], _, _ => by simp [zx, Fig]
  | x :: l, y :: m, hl, hm => by
    have ih := zx_fig (l := l) (m := m) (fun z h => hl z (List.mem_cons_of_mem _ h)) (fun z h => hm z (List.mem_cons_of_mem _ h))
    intro z hz
    rcases List.mem_cons.mp (show z ∈ (x ^^^ y) :: zx l m from hz) with h | h
    · rw [h]
      exact Nat.xor_lt_two_pow (n := 2) (hl x List.mem_cons_self) (hm y List.mem_cons_self)
    · exact ih z h
theorem mul_sg {s t : Int} (hs : Sg s) (ht : Sg t) : -18446744073709551616 < s ∧ s < 18446744073709551616 ∧ -18446744073709551616 < -s ∧ -s < 18446744073709551616 := by
  rcases hs with rfl | rfl <;> decide
theorem r_put_of {s t : Int} {l m : List Nat} {cs : List Cell} (hs : Sg s) (ht : Sg t) (h : l.length = m.length) (hl : l.length ≤ 12) (fl : Fig l) (fm : Fig m) : m_put_of [wd s l, wd t m] cs = .ok (wd (ps s t l m) (zx l m)) cs := by
  have q1 := r_code_of (s := s) (cs := cs) hl fl
  have q2 := r_code_of (s := t) (cs := cs) (h ▸ hl) fm
  have q3 := r_is_crossed (cs := cs) h hl fl fm
  have q4 := r_letters_of (cs := cs) (by rw [zx_len h]; exact hl) (zx_fig fl fm)
  rw [zx_len h] at q4
  have e : Builtin.bitXor (code l : Int) (code m) = (code (zx l m) : Nat) := by rw [bitXor_nat, show zx l m = List.zipWith (fun x y => x ^^^ y) l m from rfl, code_xor l m h fl fm]
  have sl := strOf_len l
  obtain ⟨b1, b2, b3, b4⟩ := mul_sg hs ht
  refine fn_ev ?_
  cases hc : cross l m with
  | true =>
    rw [hc] at q3
    k_state0 [b_put_of, start_cons, start_nil, repl_S, repl_0, q1, q2, q3, dix_w0, dix_w1, e, sl, q4]
    simp [ps, hc, Int.neg_mul, wdD]
  | false =>
    rw [hc] at q3
    k_state0 [b_put_of, start_cons, start_nil, repl_S, repl_0, q1, q2, q3, dix_w0, dix_w1, e, sl, q4]
    simp [ps, hc, wdD]
theorem fig_tl {x : Nat} {l : List Nat} (h : Fig (x :: l)) : Fig l := fun z hz => h z (List.mem_cons_of_mem _ hz)
structure Wd where
  s : Int
  l : List Nat
def pu (a b : Wd) : Wd := ⟨ps a.s b.s a.l b.l, zx a.l b.l⟩
structure WOk' (n : Nat) (a : Wd) : Prop where
  sg : Sg a.s
  len : a.l.length = n
  fig : Fig a.l
theorem pu_ok {n : Nat} {a b : Wd} (ha : WOk' n a) (hb : WOk' n b) : WOk' n (pu a b) := ⟨sg_ps ha.sg hb.sg, (zx_len (ha.len.trans hb.len.symm)).trans ha.len, zx_fig ha.fig hb.fig⟩
end DX
namespace DX
open PySem PySem.Spec PyProof.Rows L2
def inLet (c : Nat) : Bool := decide (c ∈ ("1abc" : Str).cps.toList)
theorem in_any (c : Nat) : dInS (.str ⟨#[c]⟩) (.str "1abc") = some (inLet c) := by
  unfold dInS inLet
  dsimp only
  rw [StrLaws.found_one]
theorem in_let {c : Nat} : dIn (.str ⟨#[c]⟩) (.str "1abc") = some (.bl (inLet c)) := by
  unfold dIn
  rw [in_any]
  rfl
theorem notin_let {c : Nat} : dNotIn (.str ⟨#[c]⟩) (.str "1abc") = some (.bl (!inLet c)) := by
  unfold dNotIn
  rw [in_any]
  rfl
theorem inLet_chr {x : Nat} (h : x < 4) : inLet (chr4 x) = true := by
  match x, h with
  | 0, _ => decide +kernel
  | 1, _ => decide +kernel
  | 2, _ => decide +kernel
  | 3, _ => decide +kernel
theorem blsOf_map : ∀ bs : List Bool, blsOf (bs.map .bl) = some bs
  | [] => rfl
  | b :: bs => by simp [blsOf, blsOf_map bs]
theorem all_map {α : Type} (P : α → Bool) (l : List α) : dAll (.lst (l.map fun x => .bl (P x))) = some (.bl (l.all P)) := by
  show (blsOf (l.map fun x => .bl (P x))).map (fun bs => Dt.bl (bs.all id)) = _
  rw [show (l.map fun x => Dt.bl (P x)) = (l.map P).map Dt.bl by rw [List.map_map]; rfl, blsOf_map]
  simp
theorem any_map {α : Type} (P : α → Bool) (l : List α) : dAny (.lst (l.map fun x => .bl (P x))) = some (.bl (l.any P)) := by
  show (blsOf (l.map fun x => .bl (P x))).map (fun bs => Dt.bl (bs.any id)) = _
  rw [show (l.map fun x => Dt.bl (P x)) = (l.map P).map Dt.bl by rw [List.map_map]; rfl, blsOf_map]
  simp
theorem eq_nil_dat (l : List Int) (cs : List Cell) : eqC false (.dat (.lst (l.map .int))) (.dat (.lst [])) cs = some (.bl l.isEmpty) := by
  have h := ne_nil_dat l cs
  unfold eqC at h ⊢
  cases e : eqB (.dat (.lst (l.map .int))) (.dat (.lst [])) cs with
  | none => rw [e] at h; cases h
  | some b =>
    rw [e] at h
    simp at h
    simp [h]
theorem eq_nil_ones {α : Type} (l : List α) (cs : List Cell) : eqC false (.dat (.lst (l.map fun _ => .int 1))) (.dat (.lst [])) cs = some (.bl l.isEmpty) := by
  have h := eq_nil_dat (l.map fun _ => (1 : Int)) cs
  rw [List.map_map] at h
  rw [show (l.map fun _ => Dt.int 1) = l.map (Dt.int ∘ fun _ => 1) from rfl, h]
  simp
def pl0 : Dt → Bool
  | .str s => decide (s.length ≤ 16777216)
  | .obj _ _ => true
  | d => (tyN d).isSome
def pl1 : Dt → Bool
  | .tup l => l.all pl0
  | .obj _ _ => true
  | d => (tyN d).isSome
def sgB : Dt → Bool
  | .int s => decide (s = 1) || decide (s = -1)
  | _ => false
def letB : Dt → Bool
  | .str z => (decide (1 ≤ z.length) && decide (z.length ≤ 12)) && z.cps.toList.all inLet
  | _ => false
def isW : Dt → Bool
  | .tup [a, b] => sgB a && letB b
  | _ => false
theorem in_pm {s : Int} : dIn (.int s) (.tup [.int 1, .int (-1)]) = some (.bl (decide (s = 1) || decide (s = -1))) := by
  show some (Dt.bl ((1 == s) || ((-1 == s) || false))) = _
  congr 2
  rw [Bool.eq_iff_iff]
  simp
  omega
theorem r_is_sign {a : Dt} {cs : List Cell} (h : pl0 a = true) : m_is_sign [.dat a] cs = .ok (.dat (.bl (sgB a))) cs := by
  cases a with
  | int s =>
    have q : m_is_number [.dat (.int s)] cs = .ok (.dat (.bl true)) cs := rfl
    refine fn_ev ?_
    k_state0 [b_is_sign, start_cons, start_nil, repl_S, repl_0, q, in_pm]
    rfl
  | op v => cases h
  | scr v => cases h
  | exn v => cases h
  | dit v => cases h
  | lam _ _ => cases h
  | _ => rfl
theorem r_is_whole {a : Dt} {cs : List Cell} (h : pl0 a = true) : m__law_is_whole [.dat a] cs = .ok (.dat (.bl (match a with | .int _ => true | _ => false))) cs := by
  cases a with
  | op v => cases h
  | scr v => cases h
  | exn v => cases h
  | dit v => cases h
  | lam _ _ => cases h
  | _ => rfl
theorem str_len (z : Str) : z.cps.toList.length = z.length := by simp [Str.length]
theorem r_letB {b : Dt} {cs : List Cell} {e0 e2 : Option Wv} (h : pl0 b = true) : eAnd (eCall oIsi (aCons (eVar 1) (aCons (eC (.op (.ty "str"))) (aNil)))) (eAnd (eChain (dI0 fun i j => .bl (decide (i ≤ j))) (dI0 fun i j => .bl (decide (i ≤ j))) (eC (.int 1)) (eCall oLen (aCons (eVar 1) (aNil))) (eC (.int 12))) (eCall (o1 dAll) (aCons (eOfF (fLc (iSeq (eVar 1)) (tName 2) (tYesE) (ce_is_word_0) [2])) (aNil)))) [e0, some (.dat b), e2] cs = .ok (.dat (.bl (letB b))) cs := by
  cases b with
  | str z =>
    have hz : z.length ≤ 16777216 := of_decide_eq_true h
    have hi : oIsi [.dat (.str z), .dat (.op (.ty "str"))] cs = some (.bl true) := rfl
    have e1 : loopC (tName 2) tYesE ce_is_word_0 [e0, some (.dat (.str z)), none] (z.cps.toList.map fun c => .dat (.str ⟨#[c]⟩)) cs = .ok ((z.cps.toList.map fun c => Dt.bl (inLet c)).map Wv.dat) cs := by
      refine lc_map (fun c => .dat (.str ⟨#[c]⟩)) _ _ fun c _ => ⟨_, rfl, ?_⟩
      k_state0 [ce_is_word_0, in_let]
    have hl := str_len z
    have hall := all_map inLet z.cps.toList
    by_cases h1 : (1 : Int) ≤ z.length
    · k_state0 [hi, h1, signs_map, wipe_nil, wipe_cons, e1, dats_mapd, hall]
      by_cases h12 : z.length ≤ 12
      · simp [letB, show 1 ≤ z.length by omega, h12, show (z.length : Int) ≤ 12 by omega]
      · simp [letB, show 1 ≤ z.length by omega, h12, show ¬ (z.length : Int) ≤ 12 by omega]
    · k_state0 [hi, h1]
      simp [letB, show ¬ 1 ≤ z.length by omega]
  | op v => cases h
  | scr v => cases h
  | exn v => cases h
  | dit v => cases h
  | lam _ _ => cases h
  | _ => rfl
theorem is_word_any {x : Dt} {cs : List Cell} (h : pl1 x = true) : m_is_word [.dat x] cs = .ok (.dat (.bl (isW x))) cs := by
  cases x with
  | tup l =>
    have hi : oIsi [.dat (.tup l), .dat (.op (.ty "tuple"))] cs = some (.bl true) := rfl
    match l, h with
    | [], _ => rfl
    | [_], _ => rfl
    | [a, b], h =>
      have h2 : (pl0 a && (pl0 b && true)) = true := h
      simp only [Bool.and_eq_true, Bool.and_true] at h2
      have q1 := r_is_sign (cs := cs) h2.1
      have q2 := r_letB (cs := cs) (e0 := some (.dat (.tup [a, b]))) (e2 := none) h2.2
      have q3 : oIsi [.dat (.tup [a, b]), .dat (.op (.ty "tuple"))] cs = some (.bl true) := rfl
      refine fn_ev ?_
      cases hs : sgB a with
      | true =>
        rw [hs] at q1
        unfold b_is_word
        have e1 : sIf (tOr' (tNot' (tTru (eCall oIsi (aCons (eVar 0) (aCons (eC (.op (.ty "tuple"))) (aNil)))))) (tOr' (tCmpE (eEqC true (eCall oLen (aCons (eVar 0) (aNil))) (eC (.int 2)))) (tNot' (tTru (eFn 1 (m_is_sign) (aCons (eIx (eVar 0) (eC (.int 0))) (aNil))))))) (sRet (eC (.bl false))) (sNil) [some (.dat (.tup [a, b])), none, none] cs = .ok (.nx [some (.dat (.tup [a, b])), none, none]) cs := by
          k_state0 [q3, q1]
          rfl
        show rb (sSeq _ _ [some (.dat (.tup [a, b])), none, none] cs) fin = _
        rw [s_seq, e1]
        simp only [rb_ok, k_seq_nx, s_seq]
        rw [show sSet 1 (eIx (eVar 0) (eC (.int 1))) [some (.dat (.tup [a, b])), none, none] cs = .ok (.nx [some (.dat (.tup [a, b])), some (.dat b), none]) cs from rfl]
        simp only [rb_ok, k_seq_nx, s_ret]
        rw [q2]
        show R.ok (Wv.dat (Dt.bl (letB b))) cs = R.ok (Wv.dat (Dt.bl (sgB a && letB b))) cs
        rw [hs]
        rfl
      | false =>
        rw [hs] at q1
        k_state0 [b_is_word, start_cons, start_nil, repl_S, repl_0, q3, q1]
        show _ = R.ok (Wv.dat (Dt.bl (sgB a && letB b))) cs
        rw [hs]
        rfl
    | a :: b :: c :: r, _ =>
      have q3 : oIsi [.dat (.tup (a :: b :: c :: r)), .dat (.op (.ty "tuple"))] cs = some (.bl true) := rfl
      have q4 : ¬ (((r.length + 1 + 1 + 1 : Nat) : Int) = 2) := by omega
      refine fn_ev ?_
      k_state0 [b_is_word, start_cons, start_nil, repl_S, repl_0, q3, q4]
      rfl
  | op v => cases h
  | scr v => cases h
  | exn v => cases h
  | dit v => cases h
  | lam _ _ => cases h
  | _ => rfl
theorem filt_all (f : Nat → Bool) : ∀ l : List Nat, (l.filter fun c => !f c).isEmpty = l.all f
  | [] => rfl
  | x :: l => by
    have ih := filt_all f l
    cases h : f x
    · simp [List.filter_cons, h]
    · simp [List.filter_cons, h, ih]
theorem pl1_wd (s : Int) {l : List Nat} (hl : l.length ≤ 12) : pl1 (wdD s l) = true := by
  show (true && (decide ((strOf l).length ≤ 16777216) && true)) = true
  rw [strOf_len, decide_eq_true (by omega)]
  rfl
theorem isW_wd {s : Int} {l : List Nat} (hs : Sg s) (h1 : 1 ≤ l.length) (hl : l.length ≤ 12) (fl : Fig l) : isW (wdD s l) = true := by
  show ((decide (s = 1) || decide (s = -1)) && ((decide (1 ≤ (strOf l).length) && decide ((strOf l).length ≤ 12)) && (strOf l).cps.toList.all inLet)) = true
  rw [strOf_len, decide_eq_true h1, decide_eq_true hl]
  have : (strOf l).cps.toList.all inLet = true := by
    rw [List.all_eq_true]
    intro c hc
    simp [strOf] at hc
    obtain ⟨x, hx, rfl⟩ := hc
    exact inLet_chr (fl x hx)
  rw [this]
  rcases hs with rfl | rfl <;> rfl
theorem WOk'.w {n : Nat} {a : Wd} (ha : WOk' n a) (h1 : 1 ≤ n) (hn : n ≤ 12) : isW (wdD a.s a.l) = true := isW_wd ha.sg (by rw [ha.len]; exact h1) (by rw [ha.len]; exact hn) ha.fig
theorem WOk'.p {n : Nat} {a : Wd} (ha : WOk' n a) (hn : n ≤ 12) : pl1 (wdD a.s a.l) = true := pl1_wd _ (by rw [ha.len]; exact hn)
/-- two go past one another -/
def gp (l m : List Nat) : Bool := cross l m == cross m l
theorem r_past_of {a b : Wd} {n : Nat} {cs : List Cell} (ha : WOk' n a) (hb : WOk' n b) (hn : n ≤ 12) : m_past_of [wd a.s a.l, wd b.s b.l] cs = .ok (.dat (.bl (gp a.l b.l))) cs := by
  have q1 := r_code_of (s := a.s) (cs := cs) (by rw [ha.len]; exact hn) ha.fig
  have q2 := r_code_of (s := b.s) (cs := cs) (by rw [hb.len]; exact hn) hb.fig
  have q3 := r_is_crossed (cs := cs) (ha.len.trans hb.len.symm) (by rw [ha.len]; exact hn) ha.fig hb.fig
  have q4 := r_is_crossed (cs := cs) (hb.len.trans ha.len.symm) (by rw [hb.len]; exact hn) hb.fig ha.fig
  have q5 : m_is_past [.dat (.int (code a.l)), .dat (.int (code b.l))] cs = .ok (.dat (.bl (gp a.l b.l))) cs := by
    refine fn_ev ?_
    k_state0 [b_is_past, start_cons, start_nil, repl_S, repl_0, q3, q4]
    rfl
  refine fn_ev ?_
  k_state0 [b_past_of, start_cons, start_nil, repl_S, repl_0, q1, q2, q5]
theorem count_c : ∀ l : List Nat, Fig l → decide (countIn (.str ⟨#[99]⟩) ((l.map chr4).map fun n => PyData.str ⟨#[n]⟩) % 2 = 0) = !cross l l
  | [], _ => rfl
  | x :: l, h => by
    have ih := count_c l (fig_tl h)
    have hx := h x List.mem_cons_self
    show decide (((if Spec.same (.str ⟨#[chr4 x]⟩) (.str ⟨#[99]⟩) then 1 else 0) + countIn (.str ⟨#[99]⟩) ((l.map chr4).map fun n => PyData.str ⟨#[n]⟩)) % 2 = 0) = !xor (decide (2 ≤ x) && decide (x % 2 = 1)) (cross l l)
    have key : ∀ k : Int, decide ((1 + k) % 2 = 0) = !decide (k % 2 = 0) := fun k => by
      by_cases hk : k % 2 = 0
      · rw [decide_eq_true hk, decide_eq_false (by omega)]; rfl
      · rw [decide_eq_false hk, decide_eq_true (by omega)]; rfl
    match x, hx with
    | 0, _ =>
      rw [show (Spec.same (.str ⟨#[chr4 0]⟩) (.str ⟨#[99]⟩)) = false from by decide +kernel, if_neg Bool.false_ne_true, Int.zero_add, ih]
      simp
    | 1, _ =>
      rw [show (Spec.same (.str ⟨#[chr4 1]⟩) (.str ⟨#[99]⟩)) = false from by decide +kernel, if_neg Bool.false_ne_true, Int.zero_add, ih]
      simp
    | 2, _ =>
      rw [show (Spec.same (.str ⟨#[chr4 2]⟩) (.str ⟨#[99]⟩)) = false from by decide +kernel, if_neg Bool.false_ne_true, Int.zero_add, ih]
      simp
    | 3, _ =>
      rw [show (Spec.same (.str ⟨#[chr4 3]⟩) (.str ⟨#[99]⟩)) = true from by decide +kernel, if_pos rfl, key, ih]
      simp
theorem cnt_dec {l : List Nat} (fl : Fig l) : decide (Txt.count (strOf l) "c" % 2 = 0) = !cross l l := by
  rw [← count_c l fl, show (("c" : Str)) = ⟨#[99]⟩ from rfl, count_is]
  rfl
theorem r_says {b c : Bool} {cs : List Cell} : m__law_says [.dat (.bl b), .dat (.bl c)] cs = .ok (.dat (.bl (b == c))) cs := by
  cases b <;> cases c <;> rfl
theorem mul_one (n : Nat) : Txt.mul "1" n = strOf (List.replicate n 0) := by
  have h := mul_one_list 49 (n : Int)
  rw [show ("1" : Str) = ⟨#[49]⟩ from rfl]
  have e : (Txt.mul ⟨#[49]⟩ (n : Int)).cps = (strOf (List.replicate n 0)).cps := by
    apply Array.ext'
    rw [h]
    simp [strOf, chr4]
  cases hh : Txt.mul ⟨#[49]⟩ (n : Int)
  rw [hh] at e
  exact congrArg Str.mk e
def nothing (n : Nat) (s : Int) : Wd := ⟨s, List.replicate n 0⟩
theorem one_len : ("1" : Str).length = 1 := (rfl)
theorem r_nothing {n : Nat} {s : Int} {cs : List Cell} (hn : n ≤ 12) : m__law_nothing [.dat (.int n), .dat (.int s)] cs = .ok (wd (nothing n s).s (nothing n s).l) cs := by
  have h := one_len
  have h2 : ("1" : Str).length * ((n : Int)).toNat ≤ 16777216 := by rw [h]; omega
  have e := mul_one n
  refine fn_ev ?_
  k_state0 [b__law_nothing, start_cons, start_nil, repl_S, repl_0, e]
  rfl
end DX
namespace DX
open PySem PySem.Spec PyProof.Rows L2
theorem four_mem {x : Dt} (h : x ∈ ([.str "1", .str "a", .str "b", .str "c"] : List Dt)) : ∃ c, c < 4 ∧ x = .str (strOf [c]) := by
  simp only [List.mem_cons, List.not_mem_nil, or_false] at h
  rcases h with rfl | rfl | rfl | rfl
  · exact ⟨0, by decide, rfl⟩
  · exact ⟨1, by decide, rfl⟩
  · exact ⟨2, by decide, rfl⟩
  · exact ⟨3, by decide, rfl⟩
theorem word_loop (B : Option Wv) {xt : List Cell} : ∀ (ws : List Wv) (d : List Nat) (cs : List Cell) (t : Nat) (e3 : Option Wv), Fig d → d.length + ws.length ≤ 12 → St cs xt t → t + ws.length < 1000000 →
    ∃ d' cs' e3', loopS (tName 3) lb__law_word_0 ws [some (.cel 1), B, some (.dat (.str (strOf d))), e3] cs = .ok (.nx [some (.cel 1), B, some (.dat (.str (strOf d'))), e3']) cs' ∧ d'.length = d.length + ws.length ∧ Fig d' ∧ St cs' xt (t + ws.length)
  | [], d, cs, t, e3, fd, _, hs, _ => ⟨d, cs, e3, rfl, rfl, fd, hs⟩
  | w :: ws, d, cs, t, e3, fd, hd, hs, ht => by
    simp only [List.length_cons] at hd ht
    obtain ⟨x, cs1, q, hm, s1⟩ := r_pick (l := [.str "1", .str "a", .str "b", .str "c"]) hs (by omega) (by decide) (by decide)
    obtain ⟨c, hc, rfl⟩ := four_mem hm
    have fd' : Fig (d ++ [c]) := fun z hz => (List.mem_append.mp hz).elim (fd z) fun h => by simp at h; omega
    obtain ⟨d', cs', e3', ih, h1, h2, h3⟩ := word_loop B ws (d ++ [c]) cs1 (t + 1) (some w) fd' (by simp; omega) s1 (by omega)
    refine ⟨d', cs', e3', ?_, by simp at h1 ⊢; omega, h2, h3.mono (by simp; omega)⟩
    have l1 := strOf_len d
    have l2 : (strOf [c]).length = 1 := strOf_len [c]
    have b1 : lb__law_word_0 [some (.cel 1), B, some (.dat (.str (strOf d))), some w] cs = .ok (.nx [some (.cel 1), B, some (.dat (.str (strOf (d ++ [c])))), some w]) cs1 := by
      k_state0 [lb__law_word_0, q]
      rw [strOf_app]
    rw [loopS, mb]
    k_state0 [mb, b1]
    exact ih
theorem r_word {cs xt : List Cell} {t n : Nat} (hs : St cs xt t) (ht : t + 20 < 1000000) (hn : n ≤ 12) : ∃ a cs', m__law_word [.cel 1, .dat (.int n)] cs = .ok (wd a.s a.l) cs' ∧ WOk' n a ∧ St cs' xt (t + n + 1) := by
  obtain ⟨d, cs1, e3, q, h1, h2, s1⟩ := word_loop (some (.dat (.int n))) (rangeW 0 n) [] cs t none (by intro x hx; simp at hx) (by simp [rangeW]; omega) hs (by simp [rangeW]; omega)
  have hd : d.length = n := by simpa [rangeW] using h1
  have s1 : St cs1 xt (t + n) := by simpa [rangeW] using s1
  obtain ⟨x, cs2, q2, hm, s2⟩ := r_pick (l := [.int 1, .int 1, .int (-1)]) s1 (by omega) (by decide) (by decide)
  have hx : ∃ s, Sg s ∧ x = .int s := by
    simp only [List.mem_cons, List.not_mem_nil, or_false] at hm
    rcases hm with rfl | rfl | rfl
    · exact ⟨1, .inl rfl, rfl⟩
    · exact ⟨1, .inl rfl, rfl⟩
    · exact ⟨-1, .inr rfl, rfl⟩
  obtain ⟨s, hsg, rfl⟩ := hx
  refine ⟨⟨s, d⟩, cs2, fn_ev ?_, ⟨hsg, hd, h2⟩, s2⟩
  rw [show strOf [] = ("" : Str) from rfl] at q
  k_state0 [b__law_word, start_cons, start_nil, repl_S, repl_0, q, q2]
  rfl
def badW : List Dt := [.non, .int 5, .str "a", .tup [], .tup [.int 1], .tup [.int 1, .str ""], .tup [.int 0, .str "a"], .tup [.int 2, .str "a"], .tup [.bl true, .str "a"], .tup [.int 1, .str "d"], .tup [.int 1, .str "A"], .lst [.int 1, .str "a"], .tup [.int 1, .int 5], .tup [.int 1, .str (Txt.mul "a" 13)], .tup [.str "1", .str "a"], .tup [.int 1, .tup [.str "a"]], .tup [.int 1, .str "a", .int 1], .tup [.int (-1), .str "ab "], .tup [.non, .str "1"], .dic []]
theorem badW_pl : ∀ x ∈ badW, pl1 x = true := by
  have h : (badW.all pl1) = true := by decide +kernel
  exact fun x hx => List.all_eq_true.mp h x hx
theorem badW_no : ∀ x ∈ badW, isW x = false := by
  have h : (badW.all fun x => !isW x) = true := by decide +kernel
  exact fun x hx => by simpa using List.all_eq_true.mp h x hx
theorem r_bad_word {cs xt : List Cell} {t : Nat} (hs : St cs xt t) (ht : t < 1000000) : ∃ x cs', m__law_bad_word [.cel 1] cs = .ok (.dat x) cs' ∧ x ∈ badW ∧ St cs' xt (t + 1) := by
  obtain ⟨x, cs', q, hm, s1⟩ := r_pick (l := badW) hs ht (by decide) (by decide)
  refine ⟨x, cs', fn_ev ?_, hm, s1⟩
  unfold badW at q
  have ha : ("a" : Str).length * (13 : Int).toNat ≤ 16777216 := by decide
  have z1 : (13 : Int) ≤ 16777216 := by decide
  k_state0 [b__law_bad_word, start_cons, start_nil, repl_S, repl_0, List.cons_append, List.nil_append, q]
theorem two_loop : ∀ (l m d : List Nat) (s : Int) (A B e4 e5 e6 e7 : Option Wv) (cs : List Cell), l.length = m.length → Fig l → Fig m → Sg s → d.length + l.length ≤ 12 →
    ∃ f4 f5 f6 f7, loopS (tTupG 2 (tgCons (tName 4) (tgCons (tName 5) tgNil))) lb__law_two_0 ((l.zip m).map fun q => .dat (.tup [.str ⟨#[chr4 q.1]⟩, .str ⟨#[chr4 q.2]⟩])) [A, B, some (.dat (.int s)), some (.dat (.str (strOf d))), e4, e5, e6, e7] cs = .ok (.nx [A, B, some (.dat (.int (if cross l m = true then -s else s))), some (.dat (.str (strOf (d ++ zx l m)))), f4, f5, f6, f7]) cs
  | [], [], d, s, A, B, e4, e5, e6, e7, cs, _, _, _, _, _ => ⟨e4, e5, e6, e7, by simp [zx, cross, loopS, M.ret]⟩
  | x :: l, y :: m, d, s, A, B, e4, e5, e6, e7, cs, h, fl, fm, hs, hd => by
    have hx := fl x List.mem_cons_self
    have hy := fm y List.mem_cons_self
    simp only [List.length_cons] at hd
    have kx := kidx hx
    have ky := kidx hy
    have hxy : x ^^^ y < 4 := Nat.xor_lt_two_pow (n := 2) hx hy
    have ex := bitXor_nat x y
    have le := letter hxy
    have l1 := strOf_len d
    have l2 : (⟨#[chr4 (x ^^^ y)]⟩ : Str).length = 1 := rfl
    have ap : strOf d ++ (⟨#[chr4 (x ^^^ y)]⟩ : Str) = strOf (d ++ [x ^^^ y]) := strOf_app d [x ^^^ y]
    have e1 : d ++ [x ^^^ y] ++ zx l m = d ++ zx (x :: l) (y :: m) := by simp [zx]
    have cr : cross (x :: l) (y :: m) = xor (decide (2 ≤ x) && decide (y % 2 = 1)) (cross l m) := rfl
    have hns : Sg (-s) := by rcases hs with rfl | rfl <;> simp [Sg]
    by_cases hc : 2 ≤ x ∧ y % 2 = 1
    · obtain ⟨f4, f5, f6, f7, ih⟩ := two_loop l m (d ++ [x ^^^ y]) (-s) A B (some (.dat (.str ⟨#[chr4 x]⟩))) (some (.dat (.str ⟨#[chr4 y]⟩))) (some (.dat (.int x))) (some (.dat (.int y))) cs (by simpa using h) (fig_tl fl) (fig_tl fm) hns (by simp; omega)
      refine ⟨f4, f5, f6, f7, ?_⟩
      have c1 : (1 : Int) < x := by omega
      have c2 : (y : Int) % 2 = 1 := by omega
      have b1 : lb__law_two_0 [A, B, some (.dat (.int s)), some (.dat (.str (strOf d))), some (.dat (.str ⟨#[chr4 x]⟩)), some (.dat (.str ⟨#[chr4 y]⟩)), e6, e7] cs = .ok (.nx [A, B, some (.dat (.int (-s))), some (.dat (.str (strOf (d ++ [x ^^^ y])))), some (.dat (.str ⟨#[chr4 x]⟩)), some (.dat (.str ⟨#[chr4 y]⟩)), some (.dat (.int x)), some (.dat (.int y))]) cs := by
        k_state0 [lb__law_two_0, kx, ky, c1, c2, ex, le, ap, -ix_s]
      rw [List.zip_cons_cons, List.map_cons, loopS, mb]
      k_state0 [mb, b1, ih, e1]
      rw [cr, decide_eq_true hc.1, decide_eq_true hc.2]
      cases cross l m <;> simp
    · obtain ⟨f4, f5, f6, f7, ih⟩ := two_loop l m (d ++ [x ^^^ y]) s A B (some (.dat (.str ⟨#[chr4 x]⟩))) (some (.dat (.str ⟨#[chr4 y]⟩))) (some (.dat (.int x))) (some (.dat (.int y))) cs (by simpa using h) (fig_tl fl) (fig_tl fm) hs (by simp; omega)
      refine ⟨f4, f5, f6, f7, ?_⟩
      have c0 : (decide (2 ≤ x) && decide (y % 2 = 1)) = false := by
        by_cases h1 : 2 ≤ x
        · rw [decide_eq_false (p := y % 2 = 1) (fun h2 => hc ⟨h1, h2⟩)]; simp
        · rw [decide_eq_false h1]; rfl
      have b1 : lb__law_two_0 [A, B, some (.dat (.int s)), some (.dat (.str (strOf d))), some (.dat (.str ⟨#[chr4 x]⟩)), some (.dat (.str ⟨#[chr4 y]⟩)), e6, e7] cs = .ok (.nx [A, B, some (.dat (.int s)), some (.dat (.str (strOf (d ++ [x ^^^ y])))), some (.dat (.str ⟨#[chr4 x]⟩)), some (.dat (.str ⟨#[chr4 y]⟩)), some (.dat (.int x)), some (.dat (.int y))]) cs := by
        by_cases h1 : 2 ≤ x
        · have c1 : (1 : Int) < x := by omega
          have c2 : ¬ (y : Int) % 2 = 1 := fun h2 => hc ⟨h1, by omega⟩
          k_state0 [lb__law_two_0, kx, ky, c1, c2, ex, le, ap, -ix_s]
        · have c1 : ¬ (1 : Int) < x := by omega
          k_state0 [lb__law_two_0, kx, ky, c1, ex, le, ap, -ix_s]
      rw [List.zip_cons_cons, List.map_cons, loopS, mb]
      k_state0 [mb, b1, ih, e1]
      rw [cr, c0]
      simp
theorem r_two {a b : Wd} {n : Nat} {cs : List Cell} (ha : WOk' n a) (hb : WOk' n b) (hn : n ≤ 12) : m__law_two [wd a.s a.l, wd b.s b.l] cs = .ok (wd (pu a b).s (pu a b).l) cs := by
  have st : Sg (a.s * b.s) := by rcases ha.sg with h | h <;> rcases hb.sg with h2 | h2 <;> rw [h, h2] <;> simp [Sg]
  obtain ⟨b1, b2, b3, b4⟩ := mul_sg ha.sg hb.sg
  obtain ⟨f4, f5, f6, f7, q⟩ := two_loop a.l b.l [] (a.s * b.s) (some (wd a.s a.l)) (some (wd b.s b.l)) none none none none cs (ha.len.trans hb.len.symm) ha.fig hb.fig st (by simp; rw [ha.len]; exact hn)
  rw [show strOf [] = ("" : Str) from rfl] at q
  refine fn_ev ?_
  k_state0 [b__law_two, start_cons, start_nil, repl_S, repl_0, dix_w0, dix_w1, signD_strOf, zip_map, q]
  rfl
theorem strOk_of (l : List Nat) : PyData.strOk (strOf l) = true := by
  unfold PyData.strOk
  rw [Array.all_eq_true]
  intro i hi
  have h : (strOf l).cps[i] < 128 := by
    have : ∀ c ∈ (strOf l).cps.toList, c < 128 := by
      intro c hc
      simp [strOf] at hc
      obtain ⟨x, _, rfl⟩ := hc
      unfold chr4
      split <;> decide
    exact this _ (by simp)
  exact decide_eq_true (Nat.lt_trans h (by decide))
end DX
namespace DX
open PySem PySem.Spec PyProof.Rows L2
def b_is_row : Sv := sRet (eCall oIsi (aCons (eVar 0) (aCons (eTup (aCons (eC (.op (.ty "list"))) (aCons (eC (.op (.ty "tuple"))) (aNil)))) (aNil))))
abbrev m_is_row : Fn := fnOf 1 (b_is_row)
def ce_need_words_0 : Ev := eFn 1 (m_is_word) (aCons (eVar 1) (aNil))
def ce_need_words_1 : Ev := eEqC true (eCall oLen (aCons (eIx (eVar 1) (eC (.int 1))) (aNil))) (eCall oLen (aCons (eIx (eIx (eVar 0) (eC (.int 0))) (eC (.int 1))) (aNil)))
def b_need_words : Sv := sSeq (sIf (tOr' (tNot' (tTru (eFn 1 (m_is_row) (aCons (eVar 0) (aNil))))) (tOr' (tNot' (tCmpE (eChain (dI0 fun i j => .bl (decide (i ≤ j))) (dI0 fun i j => .bl (decide (i ≤ j))) (eC (.int 1)) (eCall oLen (aCons (eVar 0) (aNil))) (eC (.int 15))))) (tNot' (tTru (eCall (o1 dAll) (aCons (eOfF (fLc (iSeq (eVar 0)) (tName 1) (tYesE) (ce_need_words_0) [1])) (aNil))))))) (sRaise "BadWords") (sNil)) (sIf (tTru (eCall (o1 dAny) (aCons (eOfF (fLc (iSeq (eVar 0)) (tName 1) (tYesE) (ce_need_words_1) [1])) (aNil)))) (sRaise "BadWords") (sNil))
abbrev m_need_words : Fn := fnOf 2 (b_need_words)
abbrev wD (a : Wd) : Dt := wdD a.s a.l
theorem r_pickc {cs xt : List Cell} {t k : Nat} {ws : List Wv} (hs : St cs xt t) (ht : t < 1000000) (hk : xt[k]? = some (.lst ws)) (h1 : 1 ≤ ws.length) (hn : ws.length ≤ 1000000) : ∃ x cs', m__law_pick [.cel 1, .cel (k + 2)] cs = .ok x cs' ∧ x ∈ ws ∧ St cs' xt (t + 1) := by
  obtain ⟨d, cs', q, d0, d1, s1⟩ := r_draw (n := (ws.length : Int)) hs ht (by omega) (by omega)
  obtain ⟨x, hx, hm⟩ := atI_pos (l := ws) d0 d1
  have g := hs.get k
  rw [hk] at g
  have g' := s1.get k
  rw [hk] at g'
  refine ⟨x, cs', fn_ev ?_, hm, s1⟩
  k_state0 [b__law_pick, start_cons, start_nil, repl_S, repl_0, q, hx, g, g']
def lenW : Dt → Nat
  | .tup [_, .str z] => z.length
  | _ => 0
def isWs (l : List Dt) : Bool := (decide (1 ≤ l.length) && decide (l.length ≤ 15)) && (l.all isW && l.all fun w => decide (lenW w = lenW (l.headD .non)))
theorem isW_form {x : Dt} (h : isW x = true) : ∃ (s : Int) (z : Str), x = .tup [.int s, .str z] ∧ z.length ≤ 12 := by
  unfold isW at h
  split at h
  · rename_i a b
    simp only [Bool.and_eq_true] at h
    obtain ⟨h1, h2⟩ := h
    cases a with
    | int s =>
      cases b with
      | str z =>
        refine ⟨s, z, rfl, ?_⟩
        simp only [letB, Bool.and_eq_true, decide_eq_true_eq] at h2
        exact h2.1.2
      | _ => cases h2
    | _ => cases h1
  · cases h
theorem ne_nat (a b : Nat) (cs : List Cell) : eqC true (.dat (.int a)) (.dat (.int b)) cs = some (.bl (!decide (a = b))) := by
  show some (Dt.bl (!decide ((a : Int) = b))) = _
  congr 3
  rw [decide_eq_decide]
  omega
/-- a list or a tuple of plain values -/
def seqB (x : Dt) (l : List Dt) : Prop := x = .lst l ∨ x = .tup l
theorem words_loop {x : Dt} {l : List Dt} (hp : l.all pl1 = true) (cs : List Cell) : loopC (tName 1) tYesE ce_need_words_0 [some (.dat x), none] (l.map .dat) cs = .ok ((l.map fun w => .bl (isW w)).map Wv.dat) cs := by
  have q := lc_mapD (t := tName 1) (f := ce_need_words_0) (env := [some (.dat x), none]) (cs := cs) (fun w : Dt => w) (fun w => .bl (isW w)) l fun w hw => ⟨_, rfl, by
    have q1 := is_word_any (cs := cs) (List.all_eq_true.mp hp w hw)
    k_state0 [ce_need_words_0, q1]⟩
  rw [List.map_id'] at q
  exact q
theorem lens_loop {x : Dt} {l : List Dt} {w0 : Dt} (h0 : l.headD .non = w0) (hx : seqB x l) (hl : 1 ≤ l.length) (hw : l.all isW = true) (cs : List Cell) : loopC (tName 1) tYesE ce_need_words_1 [some (.dat x), none] (l.map .dat) cs = .ok ((l.map fun w => .bl (!decide (lenW w = lenW w0))).map Wv.dat) cs := by
  have q := lc_mapD (t := tName 1) (f := ce_need_words_1) (env := [some (.dat x), none]) (cs := cs) (fun w : Dt => w) (fun w => .bl (!decide (lenW w = lenW w0))) l fun w hm => ⟨_, rfl, by
    obtain ⟨s, z, rfl, hz⟩ := isW_form (List.all_eq_true.mp hw w hm)
    cases l with
    | nil => simp at hl
    | cons a l =>
      have h0 : a = w0 := h0
      obtain ⟨s0, z0, rfl, hz0⟩ := isW_form (List.all_eq_true.mp hw a List.mem_cons_self)
      subst h0
      have e := ne_nat z.length z0.length cs
      rcases hx with rfl | rfl
      · k_state0 [ce_need_words_1, e]
        rfl
      · k_state0 [ce_need_words_1, e]
        rfl⟩
  rw [List.map_id'] at q
  exact q
theorem r_is_row {x : Dt} {l : List Dt} (hx : seqB x l) (cs : List Cell) : m_is_row [.dat x] cs = .ok (.dat (.bl true)) cs := by
  rcases hx with rfl | rfl <;> rfl
theorem need_words_any {x : Dt} {l : List Dt} {cs : List Cell} (hx : seqB x l) (hp : l.all pl1 = true) : m_need_words [.dat x] cs = if isWs l = true then .ok (.dat .non) cs else .exc "BadWords" cs := by
  have q0 := r_is_row hx cs
  have q1 := words_loop (x := x) hp cs
  have hlen : dLen x = some (.int l.length) := by rcases hx with rfl | rfl <;> rfl
  have hseq : ∀ cs, asSeq (.dat x) cs = .ok (l.map .dat) cs := fun cs => by rcases hx with rfl | rfl <;> rfl
  have a1 := all_map isW l
  refine fn_ev ?_
  by_cases h1 : (1 : Int) ≤ l.length
  · by_cases h2 : (l.length : Int) ≤ 15
    · cases hw : l.all isW with
      | true =>
        rw [hw] at a1
        have q2 := lens_loop (x := x) rfl hx (by omega) hw cs
        have a2 := any_map (fun w => !decide (lenW w = lenW (l.headD .non))) l
        have e2 : (l.any fun w => !decide (lenW w = lenW (l.headD .non))) = !(l.all fun w => decide (lenW w = lenW (l.headD .non))) := by simp [List.not_all_eq_any_not]
        rw [e2] at a2
        have ew : isWs l = l.all fun w => decide (lenW w = lenW (l.headD .non)) := by
          unfold isWs
          rw [hw, decide_eq_true (show 1 ≤ l.length by omega), decide_eq_true (show l.length ≤ 15 by omega)]
          rfl
        rw [ew]
        cases hz : (l.all fun w => decide (lenW w = lenW (l.headD .non))) with
        | true =>
          rw [hz] at a2
          k_state0 [b_need_words, start_cons, start_nil, repl_S, repl_0, q0, hlen, h1, h2, hseq, wipe_nil, wipe_cons, q1, dats_mapd, a1, q2, a2]
        | false =>
          rw [hz] at a2
          k_state0 [b_need_words, start_cons, start_nil, repl_S, repl_0, q0, hlen, h1, h2, hseq, wipe_nil, wipe_cons, q1, dats_mapd, a1, q2, a2]
      | false =>
        rw [hw] at a1
        rw [show isWs l = false by unfold isWs; rw [hw]; simp]
        k_state0 [b_need_words, start_cons, start_nil, repl_S, repl_0, q0, hlen, h1, h2, hseq, wipe_nil, wipe_cons, q1, dats_mapd, a1]
    · rw [show isWs l = false by unfold isWs; rw [decide_eq_false (show ¬ l.length ≤ 15 by omega)]; simp]
      k_state0 [b_need_words, start_cons, start_nil, repl_S, repl_0, q0, hlen, h1, h2]
  · rw [show isWs l = false by unfold isWs; rw [decide_eq_false (show ¬ 1 ≤ l.length by omega)]; simp]
    k_state0 [b_need_words, start_cons, start_nil, repl_S, repl_0, q0, hlen, h1]
theorem isWs_of {as : List Wd} {n : Nat} (h1 : 1 ≤ n) (hn : n ≤ 12) (a1 : 1 ≤ as.length) (a2 : as.length ≤ 15) (ho : ∀ a ∈ as, WOk' n a) : isWs (as.map wD) = true := by
  unfold isWs
  rw [List.length_map, decide_eq_true a1, decide_eq_true a2]
  have e1 : (as.map wD).all isW = true := by
    rw [List.all_eq_true]
    intro x hx
    obtain ⟨a, ha, rfl⟩ := List.mem_map.mp hx
    exact (ho a ha).w h1 hn
  rw [e1]
  show ((as.map wD).all _) = true
  have lw : ∀ a ∈ as, lenW (wD a) = n := fun a ha => (strOf_len a.l).trans (ho a ha).len
  cases as with
  | nil => simp at a1
  | cons b as =>
    rw [List.all_eq_true]
    intro x hx
    obtain ⟨a, ha, rfl⟩ := List.mem_map.mp hx
    rw [decide_eq_true_eq, lw a ha]
    exact (lw b List.mem_cons_self).symm
theorem pl1s_of {as : List Wd} {n : Nat} (hn : n ≤ 12) (ho : ∀ a ∈ as, WOk' n a) : (as.map wD).all pl1 = true := by
  rw [List.all_eq_true]
  intro x hx
  obtain ⟨a, ha, rfl⟩ := List.mem_map.mp hx
  exact (ho a ha).p hn
theorem r_need_words {as : List Wd} {n : Nat} {x : Dt} {cs : List Cell} (hx : seqB x (as.map wD)) (h1 : 1 ≤ n) (hn : n ≤ 12) (a1 : 1 ≤ as.length) (a2 : as.length ≤ 15) (ho : ∀ a ∈ as, WOk' n a) : m_need_words [.dat x] cs = .ok (.dat .non) cs := by
  rw [need_words_any hx (pl1s_of hn ho), if_pos (isWs_of h1 hn a1 a2 ho)]
end DX
namespace DX
open PySem PySem.Spec PyProof.Rows L2
structure EqD {α : Type} [DecidableEq α] (en : α → Dt) (pd : α → PyData) (k : Nat) : Prop where
  py : ∀ a, DX.py (en a) = some (pd a)
  lay : ∀ a, (pd a).canLay0 = true
  dep : ∀ a, (pd a).depth ≤ k
  eqv : ∀ a b, PyData.eqv (pd a) (pd b) = decide (a = b)
section
variable {α β : Type} [DecidableEq α] [DecidableEq β] {en : α → Dt} {pd : α → PyData} {k l : Nat} {em : β → Dt} {qd : β → PyData}
theorem EqD.int : EqD (fun i : Int => .int i) (fun i => .int i) 0 := ⟨fun _ => rfl, fun _ => rfl, fun _ => Nat.le_refl _, fun a b => by
  show (a == b) = _
  rfl⟩
theorem EqD.sg {f : α → Nat} (hi : ∀ a b, f a = f b → a = b) (hl : ∀ a, f a < 1114112) : EqD (fun a => .str ⟨#[f a]⟩) (fun a => .str ⟨#[f a]⟩) 0 := ⟨fun _ => rfl, fun a => (show PyData.strOk ⟨#[f a]⟩ = true from by unfold PyData.strOk; simp [hl a]), fun _ => Nat.le_refl _, fun a b => by
  show (((⟨#[f a]⟩ : Str)) == ⟨#[f b]⟩) = _
  rw [str_beq]
  exact decide_eq_decide.mpr ⟨fun h => hi a b (by simpa using h), fun h => by rw [h]⟩⟩
theorem EqD.pys (h : EqD en pd k) : ∀ l : List α, DX.pys (l.map en) = some (l.map pd)
  | [] => rfl
  | a :: l => by
    show (match DX.py (en a), DX.pys (l.map en) with
      | some p, some ps => some (p :: ps)
      | _, _ => none) = _
    rw [h.py a, h.pys l]
    rfl
theorem EqD.layAll (h : EqD en pd k) : ∀ l : List α, PyData.canLayAll0 (l.map pd) = true
  | [] => rfl
  | a :: l => by
    show (PyData.canLay0 (pd a) && PyData.canLayAll0 (l.map pd)) = true
    rw [h.lay a, h.layAll l]
    rfl
theorem EqD.depAll (h : EqD en pd k) : ∀ l : List α, PyData.depthAll (l.map pd) ≤ k
  | [] => Nat.zero_le _
  | a :: l => by
    show max (PyData.depth (pd a)) (PyData.depthAll (l.map pd)) ≤ k
    exact Nat.max_le.mpr ⟨h.dep a, h.depAll l⟩
theorem EqD.eqvAll (h : EqD en pd k) : ∀ l m : List α, PyData.eqvAll (l.map pd) (m.map pd) = decide (l = m)
  | [], [] => rfl
  | a :: l, b :: m => by
    show (PyData.eqv (pd a) (pd b) && PyData.eqvAll (l.map pd) (m.map pd)) = _
    rw [h.eqv a b, h.eqvAll l m]
    by_cases h1 : a = b <;> by_cases h2 : l = m <;> simp [h1, h2]
  | [], _ :: _ => by
    show false = _
    exact (decide_eq_false (by simp)).symm
  | _ :: _, [] => by
    show false = _
    exact (decide_eq_false (by simp)).symm
theorem EqD.lst (h : EqD en pd k) : EqD (fun l : List α => .lst (l.map en)) (fun l => .list (l.map pd)) (k + 1) := ⟨fun l => by
    show (DX.pys (l.map en)).map PyData.list = _
    rw [h.pys l]
    rfl, fun l => h.layAll l, fun l => Nat.succ_le_succ (h.depAll l), fun l m => h.eqvAll l m⟩
theorem EqD.tup (h : EqD en pd k) : EqD (fun l : List α => .tup (l.map en)) (fun l => .tuple (l.map pd)) (k + 1) := ⟨fun l => by
    show (DX.pys (l.map en)).map PyData.tuple = _
    rw [h.pys l]
    rfl, fun l => h.layAll l, fun l => Nat.succ_le_succ (h.depAll l), fun l m => h.eqvAll l m⟩
theorem EqD.pair (h : EqD en pd k) (g : EqD em qd l) : EqD (fun p : α × β => .tup [en p.1, em p.2]) (fun p => .tuple [pd p.1, qd p.2]) (max k l + 1) := ⟨fun p => by
    show (match DX.py (en p.1), DX.pys [em p.2] with
      | some p, some ps => some (p :: ps)
      | _, _ => none).map PyData.tuple = _
    rw [h.py]
    show (match some (pd p.1), (match DX.py (em p.2), DX.pys [] with
      | some p, some ps => some (p :: ps)
      | _, _ => none) with
      | some p, some ps => some (p :: ps)
      | _, _ => none).map PyData.tuple = _
    rw [g.py]
    rfl, fun p => by
    show (PyData.canLay0 (pd p.1) && (PyData.canLay0 (qd p.2) && true)) = true
    rw [h.lay, g.lay]
    rfl, fun p => by
    show max (PyData.depth (pd p.1)) (max (PyData.depth (qd p.2)) 0) + 1 ≤ _
    have := h.dep p.1
    have := g.dep p.2
    omega, fun p q => by
    show (PyData.eqv (pd p.1) (pd q.1) && (PyData.eqv (qd p.2) (qd q.2) && true)) = _
    rw [h.eqv, g.eqv, Bool.and_true]
    obtain ⟨a, b⟩ := p
    obtain ⟨c, d⟩ := q
    by_cases h1 : a = c <;> by_cases h2 : b = d <;> simp [h1, h2]⟩
theorem EqD.of (h : EqD en pd k) {en2 : α → Dt} (e : ∀ a, en2 a = en a) : EqD en2 pd k := ⟨fun a => by rw [e]; exact h.py a, h.lay, h.dep, h.eqv⟩
theorem EqD.shaped (h : EqD en pd k) (hk : k ≤ 64) (a : α) : SeqAt.shaped (pd a) = true := by
  unfold SeqAt.shaped
  rw [h.lay a, decide_eq_true (Nat.le_trans (h.dep a) hk)]
  rfl
/-- == of a list that is a cell -/
theorem eq_cell (h : EqD en pd k) (hk : k + 1 ≤ 64) (neg : Bool) {i : Nat} {l m : List α} {cs : List Cell} {ws : List Wv} (hc : cs[i]? = some (.lst ws)) (hw : ws = l.map fun a => .dat (en a)) : eqC neg (.cel i) (.dat (.lst (m.map en))) cs = some (.bl (if neg then !decide (l = m) else decide (l = m))) := by
  have e1 : snap cs (.cel i) = some (.list (l.map pd)) := by
    unfold snap
    dsimp only
    rw [hc, hw]
    dsimp only
    have : l.map (fun a => Wv.dat (en a)) = (l.map en).map Wv.dat := by rw [List.map_map]; rfl
    rw [this, dats_mapd]
    show (DX.pys (l.map en)).map PyData.list = _
    rw [h.pys]
    rfl
  have e2 : snap cs (.dat (.lst (m.map en))) = some (.list (m.map pd)) := h.lst.py m
  unfold eqC eqB
  rw [show eqS (.cel i) (.dat (.lst (m.map en))) = none from rfl]
  dsimp only
  unfold eqL
  rw [e1, e2]
  dsimp only
  rw [h.lst.shaped hk l, h.lst.shaped hk m, show PyData.eqv (.list (l.map pd)) (.list (m.map pd)) = decide (l = m) from h.lst.eqv l m]
  rfl
end
end DX
namespace DX
open PySem PySem.Spec PyProof.Rows L2 GF
def nD (n : Nat) : Dt := .int (n : Int)
def outK (l : List KT) : List (Nat × Nat) := (l.mergeSort fun a b => decide (a.1 ≤ b.1)).map (·.2)
/-- brought -/
def b1 (p q : Nat × Nat) : Nat × Nat := if p.1.testBit q.1.log2 = true then (p.1 ^^^ q.1, p.2 ^^^ q.2) else p
/-- the numbers of the figures -/
def itm (m : Nat) : List Nat := (List.range (if m = 0 then 0 else m.log2 + 1)).filter m.testBit
end DX
namespace DX
open PySem PySem.Spec PyProof.Rows L2 GF
def mk (l : List Nat) : Nat := (l.map (2 ^ ·)).sum
end DX
namespace DX
open PySem PySem.Spec PyProof.Rows L2 GF
/-- items that can be told apart, numbered and sorted -/
structure Itm {α : Type} [DecidableEq α] (en : α → Dt) (pd : α → PyData) (idx : α → Nat) : Prop where
  eq : EqD en pd 1
  inj : ∀ a b, idx a = idx b → a = b
  srt : ∀ l : List α, l.Nodup → (∀ a ∈ l, idx a < 63) → ∃ l' : List α, l'.Perm l ∧ ∀ cs, oSorted2 [.dat (.lst (l.map en))] cs = some (.lst (l'.map en))
section
variable {α : Type} [DecidableEq α] {en : α → Dt} {pd : α → PyData} {idx : α → Nat}
theorem Itm.nd (h : Itm en pd idx) {l : List α} (hl : l.Nodup) : (l.map idx).Nodup := by
  rw [List.Nodup, List.pairwise_map]
  exact hl.imp fun ne e => ne (h.inj _ _ e)
end
end DX
namespace DX
open PySem PySem.Spec PyProof.Rows L2 GF
def b__law_bad_words : Sv := sSeq (sSet 1 (eLst (aCons (eC .non) (aCons (eC (.int 5)) (aCons (eC (.str "a")) (aCons (eTup (aNil)) (aCons (eLst (aNil)) (aCons ((fun _ => M.ret (.dat (.dic [])))) (aCons (eLst (aCons (eC .non) (aNil))) (aCons (eLst (aCons (eTup (aCons (eC (.int 1)) (aCons (eC (.str "a")) (aNil)))) (aCons (eTup (aCons (eC (.int 1)) (aCons (eC (.str "ab")) (aNil)))) (aNil)))) (aCons (eLst (aCons (eTup (aCons (eC (.int 1)) (aCons (eC (.str "a")) (aNil)))) (aCons (eC .non) (aNil)))) (aCons (eLst (aCons (eLst (aCons (eC (.int 1)) (aCons (eC (.str "a")) (aNil)))) (aNil))) (aCons (eTup (aCons (eC (.int 1)) (aCons (eC (.str "a")) (aNil)))) (aCons (eC (.bl true)) (aNil))))))))))))))) (sSeq (sSet 2 (eLst (aCons (eLst (aCons (eTup (aCons (eC (.int 1)) (aCons (eC (.str "")) (aNil)))) (aNil))) (aCons (eLst (aCons (eTup (aCons (eC (.bl true)) (aCons (eC (.str "a")) (aNil)))) (aNil))) (aCons (eBin dMul (eLst (aCons (eTup (aCons (eC (.int 1)) (aCons (eC (.str "a")) (aNil)))) (aNil))) (eC (.int 16))) (aCons (eLst (aCons (eTup (aCons (eC (.int 1)) (aCons (eBin dMul (eC (.str "a")) (eC (.int 13))) (aNil)))) (aNil))) (aCons (eLst (aCons (eTup (aCons (eC (.int 1)) (aCons (eC (.str "a")) (aNil)))) (aCons (eTup (aCons (eC (.int 0)) (aCons (eC (.str "b")) (aNil)))) (aNil)))) (aCons (eLst (aCons (eTup (aCons (eC (.int 1)) (aCons (eC (.str "d")) (aNil)))) (aNil))) (aNil))))))))) (sRet (eFn 2 (m__law_pick) (aCons (eVar 0) (aCons (eBin dAdd (eVar 1) (eVar 2)) (aNil))))))
abbrev m__law_bad_words : Fn := fnOf 3 (b__law_bad_words)
def lb__law_row_of_0 : Sv := sSet 1 (eFn 2 (m__law_two) (aCons (eVar 1) (aCons (eVar 2) (aNil))))
def b__law_row_of : Sv := sSeq (sSet 1 (eIx (eVar 0) (eC (.int 0)))) (sSeq (sFor (iSeq (eSl (eVar 0) (oSome (eC (.int 1))) (oNone))) (tName 2) (lb__law_row_of_0)) (sRet (eVar 1)))
abbrev m__law_row_of : Fn := fnOf 3 (b__law_row_of)
def noWs : Dt → Bool
  | .lst l => l.all pl1 && !isWs l
  | .tup l => l.all pl1 && !isWs l
  | .op _ => false
  | .scr _ => false
  | .exn _ _ => false
  | .dit _ => false
  | .lam _ _ => false
  | _ => true
theorem x_need_words {x : Dt} {cs : List Cell} (h : noWs x = true) : m_need_words [.dat x] cs = .exc "BadWords" cs := by
  have seq : ∀ l, seqB x l → (l.all pl1 && !isWs l) = true → m_need_words [.dat x] cs = .exc "BadWords" cs := fun l hx hl => by
    simp only [Bool.and_eq_true, Bool.not_eq_true'] at hl
    rw [need_words_any hx hl.1, hl.2]
    rfl
  have oth : m_is_row [.dat x] cs = .ok (.dat (.bl false)) cs → m_need_words [.dat x] cs = .exc "BadWords" cs := fun q => by
    refine fn_ev ?_
    k_state0 [b_need_words, start_cons, start_nil, repl_S, repl_0, q]
  cases x with
  | lst l => exact seq l (.inl rfl) h
  | tup l => exact seq l (.inr rfl) h
  | op v => cases h
  | scr v => cases h
  | exn v => cases h
  | dit v => cases h
  | lam _ _ => cases h
  | _ => exact oth rfl
theorem isx_on {K : Frag} {Ds : List Addr} {D C : Addr} {b : Bool} {l : List (Str × Dt)} {cs : List Cell} (h : D ∈ Ds) (e : PySem.W.kitOne K (.ref D) (.ref C) = some b) (hb : (l.isEmpty || b) = true) : oIsXD K Ds [.dat (.exn D l), .dat (.op (.ref C))] cs = some (.bl b) := by
  unfold oIsXD
  dsimp only
  rw [if_pos (decide_eq_true h)]
  unfold oIsX
  dsimp only
  rw [e]
  show isXl l b = _
  unfold isXl
  rw [if_pos hb]
theorem isx_of {K : Frag} {Ds : List Addr} {D C : Addr} {b : Bool} {cs : List Cell} (h : D ∈ Ds) (e : PySem.W.kitOne K (.ref D) (.ref C) = some b) : oIsXD K Ds [.dat (.exn D []), .dat (.op (.ref C))] cs = some (.bl b) := isx_on h e rfl
theorem rangeW_is (m : Nat) : rangeW 0 m = (List.range m).map fun i : Nat => Wv.dat (.int (0 + (i : Int))) := rfl
def pus : Wd → List Wd → Wd := List.foldl pu
theorem pus_ok {n : Nat} : ∀ {ws : List Wd} {a : Wd}, WOk' n a → (∀ b ∈ ws, WOk' n b) → WOk' n (pus a ws)
  | [], _, ha, _ => ha
  | b :: ws, a, ha, hb => pus_ok (ws := ws) (pu_ok ha (hb b List.mem_cons_self)) fun c hc => hb c (List.mem_cons_of_mem _ hc)
theorem nothing_ok {n : Nat} {s : Int} (h : Sg s) : WOk' n (nothing n s) := ⟨h, by simp [nothing], fun x hx => by rw [(List.mem_replicate.mp hx).2]; omega⟩
end DX
namespace DX
open PySem PySem.Spec PyProof.Rows L2 GF
def b__law_turner : Sv := sSeq (sAsg (tTupG 2 (tgCons (tName 2) (tgCons (tName 3) (tgNil)))) (eFn 2 (m__law_word) (aCons (eVar 0) (aCons (eVar 1) (aNil))))) (sSeq (sIf (tCmpE (eEqC false (eBin (dI cMod fun i j => .int (i % j)) (eCall (o1 dInt1) (aCons (eMeth okStr (oStr1 kCount) (eVar 3) (aCons (eC (.str "c")) (aNil))) (aNil))) (eC (.int 2))) (eC (.int 1)))) (sSeq (sSet 4 (eMeth okStr (oStr1 kIndex) (eVar 3) (aCons (eC (.str "c")) (aNil)))) (sSet 3 (eBin dAdd (eBin dAdd (eSl (eVar 3) (oNone) (oSome (eVar 4))) (eFn 2 (m__law_pick) (aCons (eVar 0) (aCons (eLst (aCons (eC (.str "a")) (aCons (eC (.str "b")) (aCons (eC (.str "1")) (aNil))))) (aNil))))) (eSl (eVar 3) (oSome (eBin dAdd (eVar 4) (eC (.int 1)))) (oNone))))) (sNil)) (sRet (eTup (aCons (eVar 2) (aCons (eVar 3) (aNil))))))
abbrev m__law_turner : Fn := fnOf 5 (b__law_turner)
theorem cutS_strOf (l : List Nat) (lo hi : Option Int) : cutS (strOf l) lo hi = strOf (cutL l lo hi) := by
  unfold cutS cutL strOf
  have h : (⟨(l.map chr4).toArray⟩ : Str).length = l.length := strOf_len l
  rw [h]
  simp [List.map_drop, List.map_take]
theorem sl_str {l : List Nat} (hl : l.length ≤ 1000) (lo hi : Option Int) (cs : List Cell) : wSl (.dat (.str (strOf l))) lo hi cs = some (.str (strOf (cutL l lo hi))) := by
  show strSl (strOf l) lo hi = _
  unfold strSl
  rw [if_pos (show szOk (strOf l).length = true from decide_eq_true (by rw [strOf_len]; omega)), cutS_strOf]
theorem cut_to (l : List Nat) (k : Nat) : cutL l none (some (k : Int)) = l.take k := by
  unfold cutL
  rw [HT.sIx_none, HT.sIx_nat]
  simp
theorem cut_from (l : List Nat) (k : Nat) : cutL l (some ((k : Nat) : Int)) none = l.drop k := by
  unfold cutL
  rw [HT.sIx_none, HT.sIx_nat]
  by_cases h : k ≤ l.length
  · rw [show min k l.length = k by omega]
    exact List.take_of_length_le (by simp)
  · rw [show min k l.length = l.length by omega, List.drop_length, List.drop_eq_nil_of_le (by omega)]
    simp
theorem sl_to {l : List Nat} (hl : l.length ≤ 1000) (k : Nat) (cs : List Cell) : wSl (.dat (.str (strOf l))) none (some (k : Int)) cs = some (.str (strOf (l.take k))) := by rw [sl_str hl, cut_to]
theorem sl_from {l : List Nat} (hl : l.length ≤ 1000) (k : Nat) (cs : List Cell) : wSl (.dat (.str (strOf l))) (some ((k : Int) + 1)) none cs = some (.str (strOf (l.drop (k + 1)))) := by
  rw [sl_str hl, show ((k : Int) + 1) = ((k + 1 : Nat) : Int) from rfl, cut_from]
theorem ix_str1 {l : List Nat} (hl : l.length ≤ 1000) {i : Nat} (hi : i < l.length) : dIx (.str (strOf l)) (.int (i : Int)) = some (.str (strOf [l.getD i 0])) := by
  show strIx (strOf l) (i : Int) = _
  unfold strIx
  rw [if_pos (show szOk (strOf l).length = true from decide_eq_true (by rw [strOf_len]; omega)), at_nat]
  have e : (strOf l).cps.toList = l.map chr4 := by simp [strOf]
  rw [e, List.getElem?_map, List.getElem?_eq_getElem hi, List.getD_eq_getElem?_getD, List.getElem?_eq_getElem hi]
  rfl
theorem take_set {α : Type} {l : List α} {i : Nat} {a : α} (h : i < l.length) : l.take i ++ [a] ++ l.drop (i + 1) = l.set i a := by
  rw [List.set_eq_take_append_cons_drop, if_pos h]
  simp
theorem occ_all (s sub : Str) (hi limit : Nat) : ∀ (l : List Nat) (st : Array Nat × Nat), (∀ i ∈ st.fst.toList, i + sub.length ≤ hi ∧ Builtin.Str.subAt s sub i = true) → ∀ i ∈ (forIn l st (StrLaws.occBody s sub hi limit)).run.fst.toList, i + sub.length ≤ hi ∧ Builtin.Str.subAt s sub i = true
  | [], st, h => h
  | a :: l, st, h => by
    rw [List.forIn_cons]
    unfold StrLaws.occBody
    split
    · rename_i hc
      exact occ_all s sub hi limit l _ (fun i hm => by
        simp only [Array.toList_push, List.mem_append, List.mem_singleton] at hm
        rcases hm with hm | rfl
        · exact h i hm
        · exact ⟨hc.1.2, hc.2⟩)
    · exact occ_all s sub hi limit l _ h
theorem index_c {l : List Nat} (fl : Fig l) {i : Nat} (h : Txt.index0 (strOf l) "c" = some i) : l[i]? = some 3 := by
  unfold Txt.index0 at h
  have hm := List.mem_of_mem_head? (Option.mem_def.mpr h)
  rw [show (("c" : Str)) = ⟨#[99]⟩ from rfl, StrLaws.occ_eq] at hm
  have := (StrLaws.subAt_one _ _ _).mp (occ_all _ _ _ _ _ _ (fun i h => absurd h (by simp)) i hm)
  have e : (strOf l).cps.toList = l.map chr4 := by simp [strOf]
  rw [e, List.getElem?_map] at this
  cases hx : l[i]? with
  | none => rw [hx] at this; cases this
  | some x =>
    rw [hx] at this
    have hx4 := fl x (List.mem_of_getElem? hx)
    have this : chr4 x = 99 := Option.some.inj this
    match x, hx4, this with
    | 3, _, _ => rfl
    | 0, _, z => exact absurd z (by decide)
    | 1, _, z => exact absurd z (by decide)
    | 2, _, z => exact absurd z (by decide)
theorem index_there {l : List Nat} (hc : cross l l = true) (fl : Fig l) : ∃ i, Txt.index0 (strOf l) "c" = some i := by
  have h3 : 3 ∈ l := by
    refine Classical.byContradiction fun hn => ?_
    have : ∀ l : List Nat, Fig l → 3 ∉ l → cross l l = false := fun l => by
      induction l with
      | nil => intro _ _; rfl
      | cons x l ih =>
        intro hf h
        rw [List.mem_cons, not_or] at h
        have q := ih (fig_tl hf) h.2
        show xor (decide (2 ≤ x) && decide (x % 2 = 1)) (cross l l) = false
        rw [q]
        have hx := hf x List.mem_cons_self
        match x, hx, h.1 with
        | 0, _, _ => rfl
        | 1, _, _ => rfl
        | 2, _, _ => rfl
        | 3, _, z => exact absurd rfl z
    rw [this l fl hn] at hc
    cases hc
  have f := StrLaws.found_one (strOf l) 99
  have e : (strOf l).cps.toList = l.map chr4 := by simp [strOf]
  rw [e, decide_eq_true (show 99 ∈ l.map chr4 from List.mem_map.mpr ⟨3, h3, rfl⟩)] at f
  unfold Txt.index0
  rw [show (("c" : Str)) = ⟨#[99]⟩ from rfl]
  cases ho : Builtin.Str.occurrences (strOf l) ⟨#[99]⟩ 0 (strOf l).length 1 with
  | nil => rw [ho] at f; cases f
  | cons i r => exact ⟨i, rfl⟩
def Tn (a : Wd) : Prop := cross a.l a.l = false
theorem cross_self_app : ∀ u v : List Nat, cross (u ++ v) (u ++ v) = xor (cross u u) (cross v v)
  | [], v => by simp [cross]
  | x :: u, v => by
    show xor _ (cross (u ++ v) (u ++ v)) = xor (xor _ (cross u u)) (cross v v)
    rw [cross_self_app u v, Bool.xor_assoc]
theorem r_turner {cs xt : List Cell} {t n : Nat} (hs : St cs xt t) (ht : t + 30 < 1000000) (hn : n ≤ 12) : ∃ a cs', m__law_turner [.cel 1, .dat (.int (n : Nat))] cs = .ok (.dat (wD a)) cs' ∧ WOk' n a ∧ Tn a ∧ St cs' xt (t + n + 2) := by
  obtain ⟨a, cs1, q1, ha, s1⟩ := r_word (n := n) hs (by omega) (by omega)
  have q := cnt_dec ha.fig
  rw [show wd a.s a.l = .dat (.tup [.int a.s, .str (strOf a.l)]) from rfl] at q1
  have al : a.l.length ≤ 12 := by rw [ha.len]; exact hn
  cases hc : cross a.l a.l with
  | false =>
    rw [hc] at q
    have q : Txt.count (strOf a.l) "c" % 2 = 0 := of_decide_eq_true q
    have q' : ¬ Txt.count (strOf a.l) "c" % 2 = 1 := by omega
    refine ⟨a, cs1, fn_ev ?_, ha, hc, s1.mono (by omega)⟩
    rw [show wD a = .tup [.int a.s, .str (strOf a.l)] from rfl]
    k_state0 [b__law_turner, start_cons, start_nil, repl_S, repl_0, q1, kCount, q']
  | true =>
    rw [hc] at q
    have q : ¬ Txt.count (strOf a.l) "c" % 2 = 0 := of_decide_eq_false q
    have q' : Txt.count (strOf a.l) "c" % 2 = 1 := by omega
    obtain ⟨i, hi⟩ := index_there hc ha.fig
    have c1 := index_c ha.fig hi
    have hlt : i < a.l.length := (List.getElem?_eq_some_iff.mp c1).1
    have h3 : a.l[i] = 3 := (List.getElem?_eq_some_iff.mp c1).2
    have ki : kIndex (strOf a.l) "c" = some (.int (i : Nat)) := by unfold kIndex; rw [hi]; rfl
    obtain ⟨yd, cs2, q2, hy, s2⟩ := r_pick (l := [.str "a", .str "b", .str "1"]) s1 (by omega) (by decide) (by decide)
    obtain ⟨y, hy1, hy2, hy3⟩ : ∃ y : Nat, yd = .str (strOf [y]) ∧ y < 4 ∧ cross [y] [y] = false := by
      simp only [List.mem_cons, List.not_mem_nil, or_false] at hy
      rcases hy with h | h | h
      · exact ⟨1, h, by decide, by decide⟩
      · exact ⟨2, h, by decide, by decide⟩
      · exact ⟨0, h, by decide, by decide⟩
    rw [hy1] at q2
    have l1 : (strOf (a.l.take i)).length + (strOf [y]).length ≤ 16777216 := by rw [strOf_len, strOf_len, List.length_take]; simp; omega
    have l2 : (strOf (a.l.take i ++ [y])).length + (strOf (a.l.drop (i + 1))).length ≤ 16777216 := by rw [strOf_len, strOf_len, List.length_append, List.length_take, List.length_drop]; simp; omega
    have a1 : dAdd (.str (strOf (a.l.take i))) (.str (strOf [y])) = some (.str (strOf (a.l.take i ++ [y]))) := by rw [d_addS l1, strOf_app]
    have a2 : dAdd (.str (strOf (a.l.take i ++ [y]))) (.str (strOf (a.l.drop (i + 1)))) = some (.str (strOf (a.l.take i ++ [y] ++ a.l.drop (i + 1)))) := by rw [d_addS l2, strOf_app]
    have hl : a.l = a.l.take i ++ [3] ++ a.l.drop (i + 1) := by
      conv => lhs; rw [← List.take_append_drop i a.l, List.drop_eq_getElem_cons hlt, h3]
      simp
    refine ⟨⟨a.s, a.l.take i ++ [y] ++ a.l.drop (i + 1)⟩, cs2, fn_ev ?_, ⟨ha.sg, ?_, ?_⟩, ?_, s2.mono (by omega)⟩
    · rw [show wD ⟨a.s, a.l.take i ++ [y] ++ a.l.drop (i + 1)⟩ = .tup [.int a.s, .str (strOf (a.l.take i ++ [y] ++ a.l.drop (i + 1)))] from rfl]
      have e1 := sl_to (l := a.l) (by omega) i
      have e2 := sl_from (l := a.l) (by omega) i
      k_state0 [b__law_turner, start_cons, start_nil, repl_S, repl_0, q1, kCount, q', ki, e1, e2, q2, a1, a2]
    · have := ha.len
      simp
      omega
    · intro x hx
      simp only [List.mem_append, List.mem_singleton] at hx
      rcases hx with (hx | hx) | hx
      · exact ha.fig x (List.mem_of_mem_take hx)
      · rw [hx]; exact hy2
      · exact ha.fig x (List.mem_of_mem_drop hx)
    · show cross (a.l.take i ++ [y] ++ a.l.drop (i + 1)) (a.l.take i ++ [y] ++ a.l.drop (i + 1)) = false
      rw [hl, cross_self_app, cross_self_app] at hc
      rw [cross_self_app, cross_self_app, hy3]
      rw [show cross [3] [3] = true from rfl] at hc
      cases h1 : cross (a.l.take i) (a.l.take i) <;> cases h2 : cross (a.l.drop (i + 1)) (a.l.drop (i + 1)) <;> rw [h1, h2] at hc <;> first | rfl | cases hc
end DX
namespace DX
open PySem PySem.Spec PyProof.Rows L2 GF
/-- what is left of x, and the tags -/
def left1 (C : List Nat) (x : Nat) : Nat × Nat := (outK (red (tagged C)).1).foldl b1 (x, 0)
def left2 (C : List Nat) (x : Nat) : Nat × Nat := (outK (lotsK C)).foldl b1 ((left1 C x).2, 0)
def expr (C : List Nat) (x : Nat) : List Nat := itm (left2 C x).1
theorem tail_ev {α : Type} (en : α → Dt) (a : α) (l : List α) : cutL ((a :: l).map en) (some 1) none = l.map en := by
  rw [cut_lo (by decide)]
  rfl
theorem r_row_of {a : Wd} {ws : List Wd} {n : Nat} {cs : List Cell} (hn : n ≤ 12) (ha : WOk' n a) (hw : ∀ b ∈ ws, WOk' n b) (hl : ws.length < 1000) : m__law_row_of [.dat (.lst ((a :: ws).map wD))] cs = .ok (.dat (wD (pus a ws))) cs := by
  obtain ⟨env', cs', e1, ⟨a2, e2⟩, e3⟩ := ls_all (t := tName 2) (b := lb__law_row_of_0) (fun b : Wd => .dat (wD b)) (fun pr env c => (∃ a2, env = [some (.dat (.lst ((a :: ws).map wD))), some (.dat (wD (pus a pr))), a2]) ∧ c = cs) ws (env := [some (.dat (.lst ((a :: ws).map wD))), some (.dat (wD a)), none]) (cs := cs) (fun pr b post env c he ⟨⟨a2, hv⟩, hc⟩ => by
    subst hv hc
    have hpr : ∀ b ∈ pr, WOk' n b := fun b hb => hw b (by rw [he]; simp [hb])
    have hb : WOk' n b := hw b (by rw [he]; simp)
    have q := r_two (cs := c) (pus_ok ha hpr) hb hn
    have e : pus a (pr ++ [b]) = pu (pus a pr) b := by unfold pus; rw [List.foldl_append]; rfl
    refine ⟨_, [some (.dat (.lst ((a :: ws).map wD))), some (.dat (wD (pus a (pr ++ [b])))), some (.dat (wD b))], c, rfl, .inl ?_, ⟨_, rfl⟩, rfl⟩
    rw [e]
    k_state0 [lb__law_row_of_0, q]) ⟨⟨_, rfl⟩, rfl⟩
  have e4 : (ws.map wD).map Wv.dat = ws.map fun b => Wv.dat (wD b) := by rw [List.map_map]; rfl
  have e5 := tail_ev wD a ws
  refine fn_ev ?_
  simp only [List.map_cons] at *
  k_state0 [b__law_row_of, start_cons, start_nil, repl_S, repl_0, e5, e4, e1, e2, e3]
end DX
namespace DX
open PySem PySem.Spec PyProof.Rows L2
mutual
/-- small numbers, texts of code points, lists and tuples of such -/
def smP : PyData → Bool
  | .int i => decide (i.natAbs < 1000000000000000000)
  | .str x => x.cps.toList.all fun c => decide (c < 4294967296)
  | .list xs => smPs xs
  | .tuple xs => smPs xs
  | .dict _ => false
  | _ => true
def smPs : List PyData → Bool
  | [] => true
  | x :: xs => smP x && smPs xs
end
mutual
def szP : PyData → Nat
  | .int _ => 20
  | .str x => 10 * x.length + 2
  | .list xs => szPs xs + 5
  | .tuple xs => szPs xs + 5
  | _ => 5
def szPs : List PyData → Nat
  | [] => 0
  | x :: xs => szP x + 2 + szPs xs
end
theorem app_len (a b : Str) : (a ++ b).length = a.length + b.length := by
  show (Str.mk (a.cps ++ b.cps)).cps.size = _
  simp [Str.length]
theorem tup_len (ts : List Str) : (tupleText ts).length ≤ piled ts + 3 := by
  unfold tupleText
  rw [app_len, app_len]
  have h1 : ("(" : Str).length = 1 := rfl
  have h2 : ((if ts.length == 1 then ",)" else ")" : String) : Str).length ≤ 2 := by split <;> decide
  cases ts with
  | nil => simp [Str.join] at *; show 1 + 0 + _ ≤ _; omega
  | cons t ts =>
    have h3 := join_length_add (t :: ts) (by simp)
    omega
theorem lst_len (ts : List Str) : (listText ts).length ≤ piled ts + 3 := by
  have h := listText_len_le ts
  have e : (ts.map (·.length)).sum + 2 * ts.length = piled ts := by
    unfold piled
    induction ts with
    | nil => rfl
    | cons t ts ih =>
      have ih := ih (listText_len_le ts)
      simp only [List.map_cons, List.sum_cons, List.length_cons] at ih ⊢
      omega
  omega
mutual
theorem sm_show : ∀ d : PyData, smP d = true → d.showable = true ∧ d.shown.length ≤ szP d
  | .none, _ => ⟨rfl, by decide +kernel⟩
  | .bool b, _ => ⟨rfl, by cases b <;> decide +kernel⟩
  | .int i, h => by
    have h : i.natAbs < 1000000000000000000 := of_decide_eq_true h
    refine ⟨decide_eq_true ?_, ?_⟩
    · refine Nat.lt_of_le_of_lt (m := 60) ?_ (by decide)
      by_cases h0 : i.natAbs = 0
      · rw [h0]; decide
      · exact Nat.le_of_lt ((Nat.log2_lt h0).mpr (Nat.lt_of_lt_of_le h (by decide)))
    · have := int_text_length_le10 (a := i) (k := 18) (by decide) h
      have e : (PyData.shown (.int i)).length = (toString i).length := by
        exact PySem.ofString_length _
      rw [e]
      show _ ≤ 20
      omega
  | .str x, h => by
    have h : (x.cps.toList.all fun c => decide (c < 4294967296)) = true := h
    refine ⟨rfl, ?_⟩
    exact StrLaws.reprText_len x fun c hc => by
      have := of_decide_eq_true (List.all_eq_true.mp h c hc)
      exact Nat.lt_of_lt_of_le this (by decide)
  | .list xs, h => by
    obtain ⟨h1, h2⟩ := sm_shows xs h
    refine ⟨h1, ?_⟩
    have := lst_len (PyData.shownAll xs)
    show (listText (PyData.shownAll xs)).length ≤ szPs xs + 5
    omega
  | .tuple xs, h => by
    obtain ⟨h1, h2⟩ := sm_shows xs h
    refine ⟨h1, ?_⟩
    have := tup_len (PyData.shownAll xs)
    show (tupleText (PyData.shownAll xs)).length ≤ szPs xs + 5
    omega
  | .dict _, h => by cases h
theorem sm_shows : ∀ xs : List PyData, smPs xs = true → PyData.showableAll xs = true ∧ piled (PyData.shownAll xs) ≤ szPs xs
  | [], _ => ⟨rfl, Nat.le_refl _⟩
  | x :: xs, h => by
    have h : (smP x && smPs xs) = true := h
    rw [Bool.and_eq_true] at h
    obtain ⟨a1, a2⟩ := sm_show x h.1
    obtain ⟨b1, b2⟩ := sm_shows xs h.2
    refine ⟨?_, ?_⟩
    · show (x.showable && PyData.showableAll xs) = true
      rw [a1, b1]
      rfl
    · show piled (x.shown :: PyData.shownAll xs) ≤ szP x + 2 + szPs xs
      rw [piled_cons]
      omega
end
theorem repr_int {i : Int} (h : i.natAbs < 1000000000000000000) : dRepr (.int i) = some (.str (toString i)) := by
  have a := (sm_show (.int i) (decide_eq_true h)).1
  unfold dRepr dRepr0
  show (dReprI (.int i)) = _
  exact if_pos a
theorem smPs_map {α : Type} (pd : α → PyData) : ∀ l : List α, (∀ a ∈ l, smP (pd a) = true) → smPs (l.map pd) = true
  | [], _ => rfl
  | a :: l, h => by
    show (smP (pd a) && smPs (l.map pd)) = true
    rw [h a List.mem_cons_self, smPs_map pd l fun b hb => h b (List.mem_cons_of_mem _ hb)]
    rfl
theorem szPs_map {α : Type} (pd : α → PyData) (B : Nat) : ∀ l : List α, (∀ a ∈ l, szP (pd a) ≤ B) → szPs (l.map pd) ≤ (B + 2) * l.length
  | [], _ => Nat.zero_le _
  | a :: l, h => by
    have h1 := h a List.mem_cons_self
    have h2 := szPs_map pd B l fun b hb => h b (List.mem_cons_of_mem _ hb)
    show szP (pd a) + 2 + szPs (l.map pd) ≤ _
    rw [List.length_cons, Nat.mul_succ]
    omega
end DX
namespace DX
open PySem PySem.Spec PyProof.Rows L2 GF
def inR (m : Nat) : Dt → Bool
  | .int i => decide (0 ≤ i) && decide (i ≤ (m : Int) - 1)
  | _ => false
def unI : Dt → Int
  | .int i => i
  | _ => 0
theorem r_between {m : Nat} {a : Dt} {cs : List Cell} (h : pl0 a = true) : m_is_between [.dat a, .dat (.int 0), .dat (.int ((m : Int) - 1))] cs = .ok (.dat (.bl (inR m a))) cs := by
  cases a with
  | int i =>
    have q : m_is_number [.dat (.int i)] cs = .ok (.dat (.bl true)) cs := rfl
    refine fn_ev ?_
    by_cases h0 : (0 : Int) ≤ i
    · k_state0 [b_is_between, start_cons, start_nil, repl_S, repl_0, q, h0]
      simp [inR, h0]
    · k_state0 [b_is_between, start_cons, start_nil, repl_S, repl_0, q, h0]
      simp [inR, h0]
  | op v => cases h
  | scr v => cases h
  | exn v => cases h
  | dit v => cases h
  | lam _ _ => cases h
  | _ => rfl
end DX
namespace DX
open PySem PySem.Spec PyProof.Rows L2
theorem cutL_to {α : Type} {l : List α} {d : Int} (h0 : 0 ≤ d) (h : d ≤ l.length) : cutL l none (some d) = l.take d.toNat := by
  obtain ⟨k, rfl⟩ : ∃ k : Nat, d = k := ⟨d.toNat, by omega⟩
  unfold cutL
  rw [HT.sIx_none, HT.sIx_nat]
  simp
theorem cutL_from {α : Type} {l : List α} {d : Int} (h0 : 0 ≤ d) (h : d ≤ l.length) : cutL l (some d) none = l.drop d.toNat := by
  obtain ⟨k, rfl⟩ : ∃ k : Nat, d = k := ⟨d.toNat, by omega⟩
  unfold cutL
  rw [HT.sIx_none, HT.sIx_nat]
  rw [show min k l.length = k by omega]
  exact List.take_of_length_le (by simp)
section
variable {α β : Type} {t : Tg} {f : Ev} {env : En}
theorem lc_acc (en : α → Wv) (ed : β → Dt) (R : List α → List β → List Cell → Prop) : ∀ (l pre : List α) (acc : List β) (cs : List Cell), (∀ pr x post ac cs, pre ++ l = pr ++ x :: post → R pr ac cs → ∃ env' b cs', t (en x) env = some env' ∧ f env' cs = .ok (.dat (ed b)) cs' ∧ R (pr ++ [x]) (ac ++ [b]) cs') → R pre acc cs →
    ∃ bs cs', loopC t tYesE f env (l.map en) cs = .ok ((bs.map ed).map Wv.dat) cs' ∧ R (pre ++ l) (acc ++ bs) cs' ∧ bs.length = l.length
  | [], pre, acc, cs, _, h0 => ⟨[], cs, rfl, by simpa using h0, rfl⟩
  | x :: l, pre, acc, cs, h, h0 => by
    obtain ⟨env', b, cs1, e1, e2, h1⟩ := h pre x l acc cs rfl h0
    obtain ⟨bs, cs', q1, q2, q3⟩ := lc_acc en ed R l (pre ++ [x]) (acc ++ [b]) cs1 (fun pr y post ac cs e => h pr y post ac cs (by rw [← e]; simp)) h1
    refine ⟨b :: bs, cs', ?_, by simpa using q2, by simp [q3]⟩
    rw [List.map_cons]
    unfold loopC
    rw [e1, mb, m_opt, rb_ok, mb, nx_ok (show tYesE env' cs = .ok true cs from rfl), rb_ok, if_pos rfl, mb, nx_ok e2, rb_ok, mb, q1, rb_ok]
    rfl
end
end DX
namespace DX
open PySem PySem.Spec PyProof.Rows L2 GF
inductive Mv where
  | swap (i : Nat) | trade (i j : Nat) | lean (i j : Nat) | turn (l : List Nat)
def mvD : Mv → Dt
  | .swap i => .tup [.str "swap", .int (i : Nat)]
  | .trade i j => .tup [.str "trade", .int (i : Nat), .int (j : Nat)]
  | .lean i j => .tup [.str "lean", .int (i : Nat), .int (j : Nat)]
  | .turn l => .tup [.str "turn", .str (strOf l)]
def MvOk (n : Nat) : Mv → Prop
  | .swap i => i < n
  | .trade i j => i < j ∧ j < n
  | .lean i j => i ≠ j ∧ i < n ∧ j < n
  | .turn l => l.length = n ∧ Fig l
def swp (x : Nat) : Nat := if x = 1 then 2 else if x = 2 then 1 else x
def ahd (x : Nat) : Nat := x % 2
def bhd (y : Nat) : Nat := if 2 ≤ y then 2 else 0
def c2 (x y : Nat) : Bool := decide (2 ≤ x) && decide (y % 2 = 1)
def fl : Mv → List Nat → Bool
  | .swap i, l => decide (l.getD i 0 = 3)
  | .turn m, l => !gp l m
  | _, _ => false
def lt : Mv → List Nat → List Nat
  | .swap i, l => l.set i (swp (l.getD i 0))
  | .trade i j, l => (l.set i (l.getD j 0)).set j (l.getD i 0)
  | .lean i j, l => (l.set i (l.getD i 0 ^^^ bhd (l.getD j 0))).set j (ahd (l.getD i 0) ^^^ l.getD j 0)
  | .turn _, l => l
def mv (m : Mv) (a : Wd) : Wd := ⟨if fl m a.l = true then -a.s else a.s, lt m a.l⟩
def mvs (ms : List Mv) (a : Wd) : Wd := ms.foldl (fun a m => mv m a) a
theorem fig_get {l : List Nat} (h : Fig l) (i : Nat) : l.getD i 0 < 4 := by
  rw [List.getD_eq_getElem?_getD]
  cases e : l[i]? with
  | none => decide
  | some x => exact h x (List.mem_of_getElem? e)
theorem fig_set {l : List Nat} (h : Fig l) (i : Nat) {x : Nat} (hx : x < 4) : Fig (l.set i x) := fun y hy => by
  rcases List.mem_or_eq_of_mem_set hy with hy | rfl
  · exact h y hy
  · exact hx
theorem swp_lt {x : Nat} (h : x < 4) : swp x < 4 := by
  unfold swp
  split
  · decide
  · split
    · decide
    · exact h
theorem xor_lt4 {x y : Nat} (hx : x < 4) (hy : y < 4) : x ^^^ y < 4 := Nat.xor_lt_two_pow (n := 2) hx hy
theorem bhd_lt (y : Nat) : bhd y < 4 := by unfold bhd; split <;> decide
theorem ahd_lt (x : Nat) : ahd x < 4 := by unfold ahd; omega
theorem lt_ok {n : Nat} {m : Mv} {l : List Nat} (hl : l.length = n) (hf : Fig l) : (lt m l).length = n ∧ Fig (lt m l) := by
  cases m with
  | swap i => exact ⟨by simp [lt, hl], fig_set hf _ (swp_lt (fig_get hf i))⟩
  | trade i j => exact ⟨by simp [lt, hl], fig_set (fig_set hf _ (fig_get hf j)) _ (fig_get hf i)⟩
  | lean i j => exact ⟨by simp [lt, hl], fig_set (fig_set hf _ (xor_lt4 (fig_get hf i) (bhd_lt _))) _ (xor_lt4 (ahd_lt _) (fig_get hf j))⟩
  | turn k => exact ⟨hl, hf⟩
theorem mv_ok {n : Nat} {m : Mv} {a : Wd} (ha : WOk' n a) : WOk' n (mv m a) := ⟨by
  show Sg (if fl m a.l = true then -a.s else a.s)
  split
  · rcases ha.sg with h | h <;> rw [h] <;> simp [Sg]
  · exact ha.sg, (lt_ok ha.len ha.fig).1, (lt_ok ha.len ha.fig).2⟩
end DX
namespace DX
open PySem PySem.Spec PyProof.Rows L2 GF
def b_with_letter : Sv := sRet (eBin dAdd (eBin dAdd (eSl (eVar 0) (oNone) (oSome (eVar 1))) (eVar 2)) (eSl (eVar 0) (oSome (eBin dAdd (eVar 1) (eC (.int 1)))) (oNone)))
abbrev m_with_letter : Fn := fnOf 3 (b_with_letter)
def b_letter_swapped : Sv := sSeq (sAsg (tTupG 2 (tgCons (tName 2) (tgCons (tName 3) (tgNil)))) (eVar 0)) (sSeq (sSet 4 (eIx (eVar 3) (eVar 1))) (sRet (eTup (aCons (eIf (tCmpE (eEqC false (eVar 4) (eC (.str "c")))) (eUn dNeg (eVar 2)) (eVar 2)) (aCons (eFn 3 (m_with_letter) (aCons (eVar 3) (aCons (eVar 1) (aCons (eKd [("1", "1"), ("a", "b"), ("b", "a"), ("c", "c")] (eVar 4)) (aNil))))) (aNil))))))
abbrev m_letter_swapped : Fn := fnOf 5 (b_letter_swapped)
def b_traded : Sv := sSeq (sAsg (tTupG 2 (tgCons (tName 3) (tgCons (tName 4) (tgNil)))) (eVar 0)) (sRet (eTup (aCons (eVar 3) (aCons (eFn 3 (m_with_letter) (aCons (eFn 3 (m_with_letter) (aCons (eVar 4) (aCons (eVar 1) (aCons (eIx (eVar 4) (eVar 2)) (aNil))))) (aCons (eVar 2) (aCons (eIx (eVar 4) (eVar 1)) (aNil))))) (aNil)))))
abbrev m_traded : Fn := fnOf 5 (b_traded)
def b_sign_and_letter : Sv := sRet (eFn 2 (m_put_of) (aCons (eTup (aCons (eC (.int 1)) (aCons (eVar 0) (aNil)))) (aCons (eTup (aCons (eC (.int 1)) (aCons (eVar 1) (aNil)))) (aNil))))
abbrev m_sign_and_letter : Fn := fnOf 2 (b_sign_and_letter)
def b_leaned : Sv := sSeq (sAsg (tTupG 2 (tgCons (tName 3) (tgCons (tName 4) (tgNil)))) (eVar 0)) (sSeq (sSet 5 (eIf (tCmpE (eBin dIn (eIx (eVar 4) (eVar 1)) (eC (.str "ac")))) (eC (.str "a")) (eC (.str "1")))) (sSeq (sSet 6 (eIf (tCmpE (eBin dIn (eIx (eVar 4) (eVar 2)) (eC (.str "bc")))) (eC (.str "b")) (eC (.str "1")))) (sSeq (sAsg (tTupG 2 (tgCons (tName 7) (tgCons (tName 8) (tgNil)))) (eFn 2 (m_sign_and_letter) (aCons (eIx (eVar 4) (eVar 1)) (aCons (eVar 6) (aNil))))) (sSeq (sAsg (tTupG 2 (tgCons (tName 9) (tgCons (tName 10) (tgNil)))) (eFn 2 (m_sign_and_letter) (aCons (eVar 5) (aCons (eIx (eVar 4) (eVar 2)) (aNil))))) (sRet (eTup (aCons (eBin dMul (eBin dMul (eVar 3) (eVar 7)) (eVar 9)) (aCons (eFn 3 (m_with_letter) (aCons (eFn 3 (m_with_letter) (aCons (eVar 4) (aCons (eVar 1) (aCons (eVar 8) (aNil))))) (aCons (eVar 2) (aCons (eVar 10) (aNil))))) (aNil)))))))))
abbrev m_leaned : Fn := fnOf 11 (b_leaned)
def b_turned : Sv := sRet (eIf (tTru (eFn 2 (m_past_of) (aCons (eVar 0) (aCons (eTup (aCons (eC (.int 1)) (aCons (eVar 1) (aNil)))) (aNil))))) (eVar 0) (eTup (aCons (eUn dNeg (eIx (eVar 0) (eC (.int 0)))) (aCons (eIx (eVar 0) (eC (.int 1))) (aNil)))))
abbrev m_turned : Fn := fnOf 2 (b_turned)
def b_moved_word : Sv := sSeq (sIf (tCmpE (eEqC false (eIx (eVar 1) (eC (.int 0))) (eC (.str "swap")))) (sRet (eFn 2 (m_letter_swapped) (aCons (eVar 0) (aCons (eIx (eVar 1) (eC (.int 1))) (aNil))))) (sNil)) (sSeq (sIf (tCmpE (eEqC false (eIx (eVar 1) (eC (.int 0))) (eC (.str "trade")))) (sRet (eFn 3 (m_traded) (aCons (eVar 0) (aCons (eIx (eVar 1) (eC (.int 1))) (aCons (eIx (eVar 1) (eC (.int 2))) (aNil)))))) (sNil)) (sSeq (sIf (tCmpE (eEqC false (eIx (eVar 1) (eC (.int 0))) (eC (.str "lean")))) (sRet (eFn 3 (m_leaned) (aCons (eVar 0) (aCons (eIx (eVar 1) (eC (.int 1))) (aCons (eIx (eVar 1) (eC (.int 2))) (aNil)))))) (sNil)) (sRet (eFn 2 (m_turned) (aCons (eVar 0) (aCons (eIx (eVar 1) (eC (.int 1))) (aNil)))))))
abbrev m_moved_word : Fn := fnOf 2 (b_moved_word)
def ce_led_of_0 : Ev := eFn 2 (m_moved_word) (aCons (eVar 4) (aCons (eVar 3) (aNil)))
def lb_led_of_0 : Sv := sSet 2 (eOfF (fLc (iSeq (eVar 2)) (tName 4) (tYesE) (ce_led_of_0) [4]))
def b_led_of : Sv := sSeq (sSet 2 (eCall oListOf (aCons (eVar 0) (aNil)))) (sSeq (sFor (iSeq (eVar 1)) (tName 3) (lb_led_of_0)) (sRet (eVar 2)))
abbrev m_led_of : Fn := fnOf 5 (b_led_of)
def ce_is_letters_0 : Ev := eBin dIn (eVar 2) (eC (.str "1abc"))
def b_is_letters : Sv := sSeq (sIf (tOr' (tNot' (tTru (eCall oIsi (aCons (eVar 1) (aCons (eC (.op (.ty "str"))) (aNil)))))) (tCmpE (eEqC true (eCall oLen (aCons (eVar 1) (aNil))) (eVar 0)))) (sRet (eC (.bl false))) (sNil)) (sRet (eCall (o1 dAll) (aCons (eOfF (fLc (iSeq (eVar 1)) (tName 2) (tYesE) (ce_is_letters_0) [2])) (aNil))))
abbrev m_is_letters : Fn := fnOf 3 (b_is_letters)
def ce_is_move_of_0 : Ev := eFn 3 (m_is_between) (aCons (eVar 2) (aCons (eC (.int 0)) (aCons (eBin (dI0 fun i j => .int (i - j)) (eVar 0) (eC (.int 1))) (aNil))))
def b_is_move_of : Sv := sSeq (sIf (tOr' (tNot' (tTru (eCall oIsi (aCons (eVar 1) (aCons (eC (.op (.ty "tuple"))) (aNil)))))) (tCmpE (eBin dNotIn (eCall oLen (aCons (eVar 1) (aNil))) (eTup (aCons (eC (.int 2)) (aCons (eC (.int 3)) (aNil))))))) (sRet (eC (.bl false))) (sNil)) (sSeq (sIf (tCmpE (eEqC false (eIx (eVar 1) (eC (.int 0))) (eC (.str "turn")))) (sRet (eAnd (eEqC false (eCall oLen (aCons (eVar 1) (aNil))) (eC (.int 2))) (eFn 2 (m_is_letters) (aCons (eVar 0) (aCons (eIx (eVar 1) (eC (.int 1))) (aNil)))))) (sNil)) (sSeq (sIf (tNot' (tTru (eCall (o1 dAll) (aCons (eOfF (fLc (iSeq (eSl (eVar 1) (oSome (eC (.int 1))) (oNone))) (tName 2) (tYesE) (ce_is_move_of_0) [2])) (aNil))))) (sRet (eC (.bl false))) (sNil)) (sSeq (sIf (tOr' (tCmpE (eEqC false (eIx (eVar 1) (eC (.int 0))) (eC (.str "swap")))) (tCmpE (eEqC false (eCall oLen (aCons (eVar 1) (aNil))) (eC (.int 2))))) (sRet (eAnd (eEqC false (eIx (eVar 1) (eC (.int 0))) (eC (.str "swap"))) (eEqC false (eCall oLen (aCons (eVar 1) (aNil))) (eC (.int 2))))) (sNil)) (sSeq (sIf (tCmpE (eEqC false (eIx (eVar 1) (eC (.int 0))) (eC (.str "trade")))) (sRet (eBin (dI0 fun i j => .bl (decide (i < j))) (eIx (eVar 1) (eC (.int 1))) (eIx (eVar 1) (eC (.int 2))))) (sNil)) (sRet (eAnd (eEqC false (eIx (eVar 1) (eC (.int 0))) (eC (.str "lean"))) (eEqC true (eIx (eVar 1) (eC (.int 1))) (eIx (eVar 1) (eC (.int 2))))))))))
abbrev m_is_move_of : Fn := fnOf 3 (b_is_move_of)
def lb_need_moves_0 : Sv := sIf (tNot' (tTru (eFn 2 (m_is_move_of) (aCons (eVar 0) (aCons (eVar 3) (aNil)))))) (sNever) (sNil)
def b_need_moves : Sv := sSeq (sIf (tNot' (tTru (eFn 1 (m_is_row) (aCons (eVar 1) (aNil))))) (sNever) (sNil)) (sFor (iEnumT (aCons (eVar 1) (aNil))) (tTupG 2 (tgCons (tName 2) (tgCons (tName 3) (tgNil)))) (lb_need_moves_0))
abbrev m_need_moves : Fn := fnOf 4 (b_need_moves)
def b_led : Sv := sSeq (sExpr (eFn 1 (m_need_words) (aCons (eVar 0) (aNil)))) (sSeq (sExpr (eFn 2 (m_need_moves) (aCons (eCall oLen (aCons (eIx (eIx (eVar 0) (eC (.int 0))) (eC (.int 1))) (aNil))) (aCons (eVar 1) (aNil))))) (sRet (eFn 2 (m_led_of) (aCons (eVar 0) (aCons (eVar 1) (aNil))))))
abbrev m_led : Fn := fnOf 2 (b_led)
def b__law_lettered : Sv := sRet (eBin dAdd (eBin dAdd (eSl (eVar 0) (oNone) (oSome (eVar 1))) (eVar 2)) (eSl (eVar 0) (oSome (eBin dAdd (eVar 1) (eC (.int 1)))) (oNone)))
abbrev m__law_lettered : Fn := fnOf 3 (b__law_lettered)
def b__law_a_move : Sv := sSeq (sSet 2 (eFn 2 (m__law_draw) (aCons (eVar 0) (aCons (eC (.int 5)) (aNil))))) (sSeq (sSet 3 (eFn 2 (m__law_draw) (aCons (eVar 0) (aCons (eVar 1) (aNil))))) (sSeq (sIf (tOr' (tCmpE (eEqC false (eVar 2) (eC (.int 0)))) (tAnd' (tCmpE (eEqC false (eVar 1) (eC (.int 1)))) (tCmpE (eBin (dI0 fun i j => .bl (decide (i < j))) (eVar 2) (eC (.int 3)))))) (sRet (eTup (aCons (eC (.str "swap")) (aCons (eVar 3) (aNil))))) (sNil)) (sSeq (sIf (tOr' (tCmpE (eBin (dI0 fun i j => .bl (decide (j < i))) (eVar 2) (eC (.int 3)))) (tCmpE (eEqC false (eVar 1) (eC (.int 1))))) (sRet (eTup (aCons (eC (.str "turn")) (aCons (eIx (eFn 2 (m__law_word) (aCons (eVar 0) (aCons (eVar 1) (aNil)))) (eC (.int 1))) (aNil))))) (sNil)) (sSeq (sSet 4 (eBin (dI cMod fun i j => .int (i % j)) (eCall (o1 dInt1) (aCons (eBin dAdd (eBin dAdd (eVar 3) (eC (.int 1))) (eFn 2 (m__law_draw) (aCons (eVar 0) (aCons (eBin (dI0 fun i j => .int (i - j)) (eVar 1) (eC (.int 1))) (aNil))))) (aNil))) (eVar 1))) (sRet (eIf (tCmpE (eEqC false (eVar 2) (eC (.int 1)))) (eTup (aCons (eC (.str "trade")) (aCons (eCall (o2 dMin2) (aCons (eVar 3) (aCons (eVar 4) (aNil)))) (aCons (eCall (o2 dMax2) (aCons (eVar 3) (aCons (eVar 4) (aNil)))) (aNil))))) (eTup (aCons (eC (.str "lean")) (aCons (eVar 3) (aCons (eVar 4) (aNil)))))))))))
abbrev m__law_a_move : Fn := fnOf 5 (b__law_a_move)
def ce__law_some_moves_0 : Ev := eFn 2 (m__law_a_move) (aCons (eVar 0) (aCons (eVar 1) (aNil)))
def b__law_some_moves : Sv := sRet (eOfF (fLc (iRg1 (aCons (eFn 2 (m__law_draw) (aCons (eVar 0) (aCons (eBin dAdd (eVar 2) (eC (.int 1))) (aNil)))) (aNil))) (tName 3) (tYesE) (ce__law_some_moves_0) [3]))
abbrev m__law_some_moves : Fn := fnOf 4 (b__law_some_moves)
def ce__law_several_0 : Ev := eFn 2 (m__law_pick) (aCons (eVar 0) (aCons (eVar 3) (aNil)))
def lb__law_several_0 : Sv := sSeq (sSet 5 (eFn 2 (m__law_draw) (aCons (eVar 0) (aCons (eC (.int 9)) (aNil))))) (sIf (tAnd' (tCmpE (eEqC true (eVar 3) (eLst (aNil)))) (tCmpE (eBin (dI0 fun i j => .bl (decide (i < j))) (eVar 5) (eC (.int 3))))) (sSeq (sAsg (tTupG 2 (tgCons (tName 6) (tgCons (tName 7) (tgNil)))) (eFn 1 (m__law_row_of) (aCons (eOfF (fLc (iRg1 (aCons (eBin dAdd (eC (.int 1)) (eVar 5)) (aNil))) (tName 8) (tYesE) (ce__law_several_0) [8])) (aNil)))) (sExpr (eMeth okLst oAppend (eVar 3) (aCons (eTup (aCons (eBin dMul (eVar 6) (eFn 2 (m__law_pick) (aCons (eVar 0) (aCons (eLst (aCons (eC (.int 1)) (aCons (eC (.int 1)) (aCons (eUn dNeg (eC (.int 1))) (aNil))))) (aNil))))) (aCons (eVar 7) (aNil)))) (aNil))))) (sIf (tCmpE (eEqC false (eVar 5) (eC (.int 3)))) (sExpr (eMeth okLst oAppend (eVar 3) (aCons (eFn 2 (m__law_nothing) (aCons (eVar 1) (aCons (eFn 2 (m__law_pick) (aCons (eVar 0) (aCons (eLst (aCons (eC (.int 1)) (aCons (eUn dNeg (eC (.int 1))) (aNil)))) (aNil)))) (aNil)))) (aNil)))) (sExpr (eMeth okLst oAppend (eVar 3) (aCons (eIf (tCmpE (eBin (dI0 fun i j => .bl (decide (i < j))) (eVar 5) (eC (.int 6)))) (eFn 2 (m__law_turner) (aCons (eVar 0) (aCons (eVar 1) (aNil)))) (eFn 2 (m__law_word) (aCons (eVar 0) (aCons (eVar 1) (aNil))))) (aNil))))))
def b__law_several : Sv := sSeq (sSet 3 (eCelF (fLst (aNil)))) (sSeq (sFor (iRg1 (aCons (eVar 2) (aNil))) (tName 4) (lb__law_several_0)) (sRet (eFrz (eVar 3))))
abbrev m__law_several : Fn := fnOf 9 (b__law_several)
theorem str_ne {a b : Str} (h : (a == b) = false) : decide (a = b) = false := by rw [← str_beq]; exact h
theorem sw_tn : decide (("swap" : Str) = "turn") = false := str_ne (by decide +kernel)
theorem tr_sw : decide (("trade" : Str) = "swap") = false := str_ne (by decide +kernel)
theorem le_sw : decide (("lean" : Str) = "swap") = false := str_ne (by decide +kernel)
theorem tn_sw : decide (("turn" : Str) = "swap") = false := str_ne (by decide +kernel)
theorem le_tr : decide (("lean" : Str) = "trade") = false := str_ne (by decide +kernel)
theorem tn_tr : decide (("turn" : Str) = "trade") = false := str_ne (by decide +kernel)
theorem tn_le : decide (("turn" : Str) = "lean") = false := str_ne (by decide +kernel)
theorem str_rf {a : Str} : decide (a = a) = true := decide_eq_true rfl
theorem is_c {x : Nat} (h : x < 4) : decide (strOf [x] = ("c" : Str)) = decide (x = 3) := by
  match x, h with
  | 0, _ => decide +kernel
  | 1, _ => decide +kernel
  | 2, _ => decide +kernel
  | 3, _ => decide +kernel
theorem in_strS (c : Nat) (z : Str) : dIn (.str ⟨#[c]⟩) (.str z) = some (.bl (decide (c ∈ z.cps.toList))) := by
  unfold dIn dInS
  dsimp only
  rw [StrLaws.found_one]
  rfl
theorem in_bc {x : Nat} (h : x < 4) : dIn (.str (strOf [x])) (.str "bc") = some (.bl (decide (2 ≤ x))) := by
  have e := in_strS (chr4 x) "bc"
  have e2 : decide (chr4 x ∈ ("bc" : Str).cps.toList) = decide (2 ≤ x) := by
    match x, h with
    | 0, _ => decide +kernel
    | 1, _ => decide +kernel
    | 2, _ => decide +kernel
    | 3, _ => decide +kernel
  rw [e2] at e
  exact e
theorem in_ac {x : Nat} (h : x < 4) : dIn (.str (strOf [x])) (.str "ac") = some (.bl (decide (x % 2 = 1))) := by
  have e := in_strS (chr4 x) "ac"
  have e2 : decide (chr4 x ∈ ("ac" : Str).cps.toList) = decide (x % 2 = 1) := by
    match x, h with
    | 0, _ => decide +kernel
    | 1, _ => decide +kernel
    | 2, _ => decide +kernel
    | 3, _ => decide +kernel
  rw [e2] at e
  exact e
section
variable {cs : List Cell} {env : En} {f : Ev}
theorem if_bc {x : Nat} (h : x < 4) (hf : f env cs = .ok (.dat (.str (strOf [x]))) cs) : eIf (tCmpE (eBin dIn f (eC (.str "bc")))) (eC (.str "b")) (eC (.str "1")) env cs = .ok (.dat (.str (strOf [bhd x]))) cs := by
  have i := in_bc h
  by_cases h2 : 2 ≤ x
  · rw [decide_eq_true h2] at i
    rw [show bhd x = 2 from if_pos h2]
    k_state0 [hf, i]
    rfl
  · rw [decide_eq_false h2] at i
    rw [show bhd x = 0 from if_neg h2]
    k_state0 [hf, i]
    rfl
theorem if_ac {x : Nat} (h : x < 4) (hf : f env cs = .ok (.dat (.str (strOf [x]))) cs) : eIf (tCmpE (eBin dIn f (eC (.str "ac")))) (eC (.str "a")) (eC (.str "1")) env cs = .ok (.dat (.str (strOf [ahd x]))) cs := by
  have i := in_ac h
  by_cases h2 : x % 2 = 1
  · rw [decide_eq_true h2] at i
    rw [show ahd x = 1 from h2]
    k_state0 [hf, i]
    rfl
  · rw [decide_eq_false h2] at i
    rw [show ahd x = 0 by unfold ahd; omega]
    k_state0 [hf, i]
    rfl
end
section
variable {cs : List Cell} {l : List Nat} {i j x n : Nat}
theorem add_with (hl : l.length ≤ 12) (hi : i < l.length) : dAdd (.str (strOf (l.take i))) (.str (strOf [x])) = some (.str (strOf (l.take i ++ [x]))) ∧ dAdd (.str (strOf (l.take i ++ [x]))) (.str (strOf (l.drop (i + 1)))) = some (.str (strOf (l.set i x))) := by
  refine ⟨?_, ?_⟩
  · rw [d_addS (by rw [strOf_len, strOf_len, List.length_take]; simp; omega), strOf_app]
  · rw [d_addS (by rw [strOf_len, strOf_len, List.length_append, List.length_take, List.length_drop]; simp; omega), strOf_app, take_set hi]
theorem r_with (hl : l.length ≤ 12) (hi : i < l.length) : m_with_letter [.dat (.str (strOf l)), .dat (.int (i : Nat)), .dat (.str (strOf [x]))] cs = .ok (.dat (.str (strOf (l.set i x)))) cs := by
  obtain ⟨a1, a2⟩ := add_with (x := x) hl hi
  have e1 := sl_to (l := l) (by omega) i
  have e2 := sl_from (l := l) (by omega) i
  refine fn_ev ?_
  k_state0 [b_with_letter, start_cons, start_nil, repl_S, repl_0, e1, e2, a1, a2]
theorem kd_sw (h : x < 4) : List.lookup (strOf [x]) ([("1", "1"), ("a", "b"), ("b", "a"), ("c", "c")] : List (Str × Str)) = some (strOf [swp x]) := by
  match x, h with
  | 0, _ => decide +kernel
  | 1, _ => decide +kernel
  | 2, _ => decide +kernel
  | 3, _ => decide +kernel
theorem r_swapped {s : Int} (hl : l.length ≤ 12) (hf : Fig l) (hi : i < l.length) : m_letter_swapped [.dat (.tup [.int s, .str (strOf l)]), .dat (.int (i : Nat))] cs = .ok (.dat (wD (mv (.swap i) ⟨s, l⟩))) cs := by
  have hx := fig_get hf i
  have q := r_with (x := swp (l.getD i 0)) (cs := cs) hl hi
  have ix := ix_str1 (l := l) (by omega) hi
  have kd := kd_sw hx
  have ic := is_c hx
  have e : wD (mv (.swap i) ⟨s, l⟩) = .tup [.int (if decide (l.getD i 0 = 3) = true then -s else s), .str (strOf (l.set i (swp (l.getD i 0))))] := rfl
  rw [e]
  refine fn_ev ?_
  by_cases h3 : l.getD i 0 = 3
  · rw [decide_eq_true h3] at ic ⊢
    k_state0 [b_letter_swapped, start_cons, start_nil, repl_S, repl_0, ix, ic, kd, q]
  · rw [decide_eq_false h3] at ic ⊢
    k_state0 [b_letter_swapped, start_cons, start_nil, repl_S, repl_0, ix, ic, kd, q]
theorem r_traded {s : Int} (hl : l.length ≤ 12) (hi : i < l.length) (hj : j < l.length) : m_traded [.dat (.tup [.int s, .str (strOf l)]), .dat (.int (i : Nat)), .dat (.int (j : Nat))] cs = .ok (.dat (wD (mv (.trade i j) ⟨s, l⟩))) cs := by
  have q1 := r_with (x := l.getD j 0) (cs := cs) hl hi
  have q2 := r_with (l := l.set i (l.getD j 0)) (i := j) (x := l.getD i 0) (cs := cs) (by simpa using hl) (by simpa using hj)
  have i1 := ix_str1 (l := l) (by omega) hi
  have i2 := ix_str1 (l := l) (by omega) hj
  have e : wD (mv (.trade i j) ⟨s, l⟩) = .tup [.int s, .str (strOf ((l.set i (l.getD j 0)).set j (l.getD i 0)))] := rfl
  rw [e]
  refine fn_ev ?_
  k_state0 [b_traded, start_cons, start_nil, repl_S, repl_0, i1, i2, q1, q2]
theorem fig1 {x : Nat} (h : x < 4) : Fig [x] := fun y hy => by rw [List.mem_singleton.mp hy]; exact h
theorem ps_b {x y : Nat} : ps 1 1 [x] [bhd y] = 1 := by
  have : bhd y % 2 ≠ 1 := by unfold bhd; split <;> decide
  unfold ps cross
  simp [this, cross]
theorem ps_a {x y : Nat} : ps 1 1 [ahd x] [y] = 1 := by
  have : ¬ 2 ≤ ahd x := by unfold ahd; omega
  unfold ps cross
  simp [this, cross]
theorem r_leaned {s : Int} (hs : Sg s) (hl : l.length ≤ 12) (hf : Fig l) (hi : i < l.length) (hj : j < l.length) : m_leaned [.dat (.tup [.int s, .str (strOf l)]), .dat (.int (i : Nat)), .dat (.int (j : Nat))] cs = .ok (.dat (wD (mv (.lean i j) ⟨s, l⟩))) cs := by
  obtain ⟨x, hx⟩ : ∃ x, x = l.getD i 0 := ⟨_, rfl⟩
  obtain ⟨y, hy⟩ : ∃ y, y = l.getD j 0 := ⟨_, rfl⟩
  have x4 : x < 4 := hx ▸ fig_get hf i
  have y4 : y < 4 := hy ▸ fig_get hf j
  have i1 := ix_str1 (l := l) (by omega) hi
  have i2 := ix_str1 (l := l) (by omega) hj
  rw [← hx] at i1
  rw [← hy] at i2
  have p1 := r_put_of (s := 1) (t := 1) (l := [x]) (m := [bhd y]) (cs := cs) (.inl rfl) (.inl rfl) rfl (by simp) (fig1 x4) (fig1 (bhd_lt y))
  have p2 := r_put_of (s := 1) (t := 1) (l := [ahd x]) (m := [y]) (cs := cs) (.inl rfl) (.inl rfl) rfl (by simp) (fig1 (ahd_lt x)) (fig1 y4)
  rw [ps_b] at p1
  rw [ps_a] at p2
  have p1' : m_put_of [.dat (.tup [.int 1, .str (strOf [x])]), .dat (.tup [.int 1, .str (strOf [bhd y])])] cs = .ok (.dat (.tup [.int 1, .str (strOf [x ^^^ bhd y])])) cs := p1
  have p2' : m_put_of [.dat (.tup [.int 1, .str (strOf [ahd x])]), .dat (.tup [.int 1, .str (strOf [y])])] cs = .ok (.dat (.tup [.int 1, .str (strOf [ahd x ^^^ y])])) cs := p2
  have g1 : m_sign_and_letter [.dat (.str (strOf [x])), .dat (.str (strOf [bhd y]))] cs = .ok (.dat (.tup [.int 1, .str (strOf [x ^^^ bhd y])])) cs := by
    refine fn_ev ?_
    k_state0 [b_sign_and_letter, start_cons, start_nil, repl_S, repl_0, p1']
  have g2 : m_sign_and_letter [.dat (.str (strOf [ahd x])), .dat (.str (strOf [y]))] cs = .ok (.dat (.tup [.int 1, .str (strOf [ahd x ^^^ y])])) cs := by
    refine fn_ev ?_
    k_state0 [b_sign_and_letter, start_cons, start_nil, repl_S, repl_0, p2']
  have q1 := r_with (x := x ^^^ bhd y) (cs := cs) hl hi
  have q2 := r_with (l := l.set i (x ^^^ bhd y)) (i := j) (x := ahd x ^^^ y) (cs := cs) (by simpa using hl) (by simpa using hj)
  have e : wD (mv (.lean i j) ⟨s, l⟩) = .tup [.int s, .str (strOf ((l.set i (x ^^^ bhd y)).set j (ahd x ^^^ y)))] := by rw [hx, hy]; rfl
  obtain ⟨b1, b2, _, _⟩ := mul_sg (t := 1) hs (.inl rfl)
  have sm1 : dMul (.int s) (.int 1) = some (.int s) := by rw [d_mulL (by rcases hs with h | h <;> rw [h] <;> decide) (by rcases hs with h | h <;> rw [h] <;> decide), Int.mul_one]
  have f1 := if_ac (f := eIx (eVar 4) (eVar 1)) (env := [some (.dat (.tup [.int s, .str (strOf l)])), some (.dat (.int (i : Nat))), some (.dat (.int (j : Nat))), some (.dat (.int s)), some (.dat (.str (strOf l))), none, none, none, none, none, none]) (cs := cs) x4 (by k_state0 [i1])
  have f2 := if_bc (f := eIx (eVar 4) (eVar 2)) (env := [some (.dat (.tup [.int s, .str (strOf l)])), some (.dat (.int (i : Nat))), some (.dat (.int (j : Nat))), some (.dat (.int s)), some (.dat (.str (strOf l))), some (.dat (.str (strOf [ahd x]))), none, none, none, none, none]) (cs := cs) y4 (by k_state0 [i2])
  rw [e]
  refine fn_ev ?_
  k_state0 [b_leaned, start_cons, start_nil, repl_S, repl_0, f1, f2, i1, i2, g1, g2, q1, q2, sm1, -s_if]
theorem r_turned {s : Int} {k : List Nat} (hs : Sg s) (hl : l.length ≤ 12) (hf : Fig l) (hk : k.length = l.length) (fk : Fig k) : m_turned [.dat (.tup [.int s, .str (strOf l)]), .dat (.str (strOf k))] cs = .ok (.dat (wD (mv (.turn k) ⟨s, l⟩))) cs := by
  have q : m_past_of [.dat (.tup [.int s, .str (strOf l)]), .dat (.tup [.int 1, .str (strOf k)])] cs = .ok (.dat (.bl (gp l k))) cs := r_past_of (a := ⟨s, l⟩) (b := ⟨1, k⟩) (n := l.length) ⟨hs, rfl, hf⟩ ⟨.inl rfl, hk, fk⟩ hl
  have e : wD (mv (.turn k) ⟨s, l⟩) = .tup [.int (if (!gp l k) = true then -s else s), .str (strOf l)] := rfl
  rw [e]
  refine fn_ev ?_
  cases h : gp l k with
  | true =>
    rw [h] at q
    k_state0 [b_turned, start_cons, start_nil, repl_S, repl_0, q]
  | false =>
    rw [h] at q
    k_state0 [b_turned, start_cons, start_nil, repl_S, repl_0, q]
theorem r_moved_word {a : Wd} {m : Mv} (hm : MvOk n m) (ha : WOk' n a) (hn : n ≤ 12) : m_moved_word [.dat (wD a), .dat (mvD m)] cs = .ok (.dat (wD (mv m a))) cs := by
  have hl := ha.len
  have e : wD a = .tup [.int a.s, .str (strOf a.l)] := rfl
  rw [e]
  refine fn_ev ?_
  cases m with
  | swap i =>
    have hi : i < n := hm
    have q : m_letter_swapped [.dat (.tup [.int a.s, .str (strOf a.l)]), .dat (.int (i : Nat))] cs = .ok (.dat (wD (mv (.swap i) a))) cs := r_swapped (by omega) ha.fig (by omega)
    rw [show mvD (.swap i) = .tup [.str "swap", .int (i : Nat)] from rfl]
    k_state0 [b_moved_word, start_cons, start_nil, repl_S, repl_0, str_rf, q]
  | trade i j =>
    obtain ⟨h1, h2⟩ : i < j ∧ j < n := hm
    have q : m_traded [.dat (.tup [.int a.s, .str (strOf a.l)]), .dat (.int (i : Nat)), .dat (.int (j : Nat))] cs = .ok (.dat (wD (mv (.trade i j) a))) cs := r_traded (by omega) (by omega) (by omega)
    rw [show mvD (.trade i j) = .tup [.str "trade", .int (i : Nat), .int (j : Nat)] from rfl]
    k_state0 [b_moved_word, start_cons, start_nil, repl_S, repl_0, tr_sw, str_rf, q]
  | lean i j =>
    obtain ⟨h1, h2, h3⟩ : i ≠ j ∧ i < n ∧ j < n := hm
    have q : m_leaned [.dat (.tup [.int a.s, .str (strOf a.l)]), .dat (.int (i : Nat)), .dat (.int (j : Nat))] cs = .ok (.dat (wD (mv (.lean i j) a))) cs := r_leaned ha.sg (by omega) ha.fig (by omega) (by omega)
    rw [show mvD (.lean i j) = .tup [.str "lean", .int (i : Nat), .int (j : Nat)] from rfl]
    k_state0 [b_moved_word, start_cons, start_nil, repl_S, repl_0, le_sw, le_tr, str_rf, q]
  | turn k =>
    obtain ⟨h1, h2⟩ : k.length = n ∧ Fig k := hm
    have q : m_turned [.dat (.tup [.int a.s, .str (strOf a.l)]), .dat (.str (strOf k))] cs = .ok (.dat (wD (mv (.turn k) a))) cs := r_turned ha.sg (by omega) ha.fig (by omega) h2
    rw [show mvD (.turn k) = .tup [.str "turn", .str (strOf k)] from rfl]
    k_state0 [b_moved_word, start_cons, start_nil, repl_S, repl_0, tn_sw, tn_tr, tn_le, q]
end
section
variable {cs : List Cell} {n : Nat}
theorem led_loop {ms0 : Dt} {x : Dt} {cs : List Cell} (hn : n ≤ 12) (a4 : Option Wv) : ∀ (ms : List Mv) (as : List Wd) (a3 : Option Wv), (∀ m ∈ ms, MvOk n m) → (∀ a ∈ as, WOk' n a) → as.length ≤ 100 → ∃ a3', loopS (tName 3) lb_led_of_0 (ms.map fun m => Wv.dat (mvD m)) [some (.dat x), some (.dat ms0), some (.dat (.lst (as.map wD))), a3, none] cs = .ok (.nx [some (.dat x), some (.dat ms0), some (.dat (.lst ((as.map (mvs ms)).map wD))), a3', none]) cs
  | [], as, a3, _, _, _ => ⟨a3, by
    have : as.map (mvs []) = as := List.map_id'' (fun _ => rfl) as
    rw [this]
    rfl⟩
  | m :: ms, as, a3, hm, ha, hl => by
    have lm := lc_mapD (t := tName 4) (f := ce_led_of_0) (env := [some (.dat x), some (.dat ms0), some (.dat (.lst (as.map wD))), some (.dat (mvD m)), none]) (cs := cs) wD (fun a => wD (mv m a)) as (fun a h => by
      have q := r_moved_word (cs := cs) (hm m List.mem_cons_self) (ha a h) hn
      refine ⟨_, rfl, ?_⟩
      k_state0 [ce_led_of_0, q])
    rw [show (as.map fun a => wD (mv m a)) = (as.map (mv m)).map wD by rw [List.map_map]; rfl] at lm
    obtain ⟨a3', ih⟩ := led_loop hn a4 ms (as.map (mv m)) (some (.dat (mvD m))) (fun k hk => hm k (List.mem_cons_of_mem _ hk)) (fun b hb => by
      obtain ⟨a, h, rfl⟩ := List.mem_map.mp hb
      exact mv_ok (ha a h)) (by rw [List.length_map]; exact hl)
    refine ⟨a3', ?_⟩
    have st : lb_led_of_0 [some (.dat x), some (.dat ms0), some (.dat (.lst (as.map wD))), some (.dat (mvD m)), none] cs = .ok (.nx [some (.dat x), some (.dat ms0), some (.dat (.lst ((as.map (mv m)).map wD))), some (.dat (mvD m)), none]) cs := by
      k_state0 [lb_led_of_0, wipe_nil, wipe_cons, lm]
    rw [List.map_cons]
    unfold loopS
    rw [show (tName 3) (Wv.dat (mvD m)) [some (.dat x), some (.dat ms0), some (.dat (.lst (as.map wD))), a3, none] = some [some (.dat x), some (.dat ms0), some (.dat (.lst (as.map wD))), some (.dat (mvD m)), none] from rfl, mb, m_opt, rb_ok, mb, st, rb_ok]
    have e : (as.map (mv m)).map (mvs ms) = as.map (mvs (m :: ms)) := by rw [List.map_map]; rfl
    rw [e] at ih
    exact ih
theorem r_led_of {as : List Wd} {ms : List Mv} {x y : Dt} (hx : seqB x (as.map wD)) (hy : seqB y (ms.map mvD)) (hm : ∀ m ∈ ms, MvOk n m) (ha : ∀ a ∈ as, WOk' n a) (hn : n ≤ 12) (hl : as.length ≤ 100) : m_led_of [.dat x, .dat y] cs = .ok (.dat (.lst ((as.map (mvs ms)).map wD))) cs := by
  obtain ⟨a3, q⟩ := led_loop (ms0 := y) (x := x) (cs := cs) hn none ms as none hm ha hl
  have l0 : oListOf [.dat x] cs = some (.lst (as.map wD)) := by rcases hx with rfl | rfl <;> rfl
  have sy : asSeq (.dat y) cs = .ok (ms.map fun m => Wv.dat (mvD m)) cs := by
    have e : (ms.map mvD).map Wv.dat = ms.map fun m => Wv.dat (mvD m) := by rw [List.map_map]; rfl
    rw [← e]
    rcases hy with rfl | rfl <;> rfl
  refine fn_ev ?_
  k_state0 [b_led_of, start_cons, start_nil, repl_S, repl_0, l0, sy, q]
theorem in23 {k : Int} : dNotIn (.int k) (.tup [.int 2, .int 3]) = some (.bl (!(decide (k = 2) || decide (k = 3)))) := by
  show some (Dt.bl (!((2 == k) || ((3 == k) || false)))) = _
  congr 3
  rw [Bool.eq_iff_iff]
  simp
  omega
end
end DX
namespace DX
open PySem PySem.Spec PyProof.Rows L2 GF
/-- data whose repr is told -/
structure RpD {α : Type} (en : α → Dt) (pd : α → PyData) (k B : Nat) (P : α → Prop) : Prop where
  py : ∀ a, DX.py (en a) = some (pd a)
  dep : ∀ a, (pd a).depth ≤ k
  sm : ∀ a, P a → smP (pd a) = true
  sz : ∀ a, P a → szP (pd a) ≤ B
section
variable {α β : Type} {en : α → Dt} {pd : α → PyData} {k l B C : Nat} {P : α → Prop} {em : β → Dt} {qd : β → PyData} {Q : β → Prop}
theorem RpD.int : RpD (fun i : Int => .int i) (fun i => .int i) 0 20 (fun i => i.natAbs < 1000000000000000000) := ⟨fun _ => rfl, fun _ => Nat.le_refl _, fun _ h => decide_eq_true h, fun _ _ => Nat.le_refl _⟩
theorem RpD.bl : RpD (fun b : Bool => .bl b) (fun b => .bool b) 0 5 (fun _ => True) := ⟨fun _ => rfl, fun _ => Nat.le_refl _, fun _ _ => rfl, fun _ _ => Nat.le_refl _⟩
theorem dep_all {N : Nat} : ∀ {xs : List PyData}, (∀ x ∈ xs, PyData.depth x ≤ N) → PyData.depthAll xs ≤ N
  | [], _ => Nat.zero_le _
  | x :: xs, h => by
    show max (PyData.depth x) (PyData.depthAll xs) ≤ N
    exact Nat.max_le.mpr ⟨h x List.mem_cons_self, dep_all fun y hy => h y (List.mem_cons_of_mem _ hy)⟩
theorem RpD.pys (h : RpD en pd k B P) : ∀ l : List α, DX.pys (l.map en) = some (l.map pd)
  | [] => rfl
  | a :: l => by
    have ih := h.pys l
    simp [DX.pys, h.py a, ih]
theorem RpD.lst (h : RpD en pd k B P) (N : Nat) : RpD (fun l : List α => .lst (l.map en)) (fun l => .list (l.map pd)) (k + 1) ((B + 2) * N + 5) (fun l => l.length ≤ N ∧ ∀ a ∈ l, P a) := ⟨fun l => by
  show (DX.pys (l.map en)).map PyData.list = _
  rw [h.pys]
  rfl, fun l => by
  show PyData.depthAll (l.map pd) + 1 ≤ k + 1
  have : PyData.depthAll (l.map pd) ≤ k := dep_all fun x hx => by
    obtain ⟨a, _, rfl⟩ := List.mem_map.mp hx
    exact h.dep a
  omega, fun l hl => smPs_map pd l fun a ha => h.sm a (hl.2 a ha), fun l hl => by
  show szPs (l.map pd) + 5 ≤ _
  have h1 := szPs_map pd B l fun a ha => h.sz a (hl.2 a ha)
  have h2 := Nat.mul_le_mul_left (B + 2) hl.1
  omega⟩
theorem RpD.tup (h : RpD en pd k B P) (N : Nat) : RpD (fun l : List α => .tup (l.map en)) (fun l => .tuple (l.map pd)) (k + 1) ((B + 2) * N + 5) (fun l => l.length ≤ N ∧ ∀ a ∈ l, P a) := ⟨fun l => by
  show (DX.pys (l.map en)).map PyData.tuple = _
  rw [h.pys]
  rfl, fun l => by
  show PyData.depthAll (l.map pd) + 1 ≤ k + 1
  have : PyData.depthAll (l.map pd) ≤ k := dep_all fun x hx => by
    obtain ⟨a, _, rfl⟩ := List.mem_map.mp hx
    exact h.dep a
  omega, fun l hl => smPs_map pd l fun a ha => h.sm a (hl.2 a ha), fun l hl => by
  show szPs (l.map pd) + 5 ≤ _
  have h1 := szPs_map pd B l fun a ha => h.sz a (hl.2 a ha)
  have h2 := Nat.mul_le_mul_left (B + 2) hl.1
  omega⟩
end
def SK := { z : Str // PyData.strOk z = true }
instance : DecidableEq SK := fun a b => if h : a.1 = b.1 then .isTrue (Subtype.ext h) else .isFalse fun e => h (congrArg Subtype.val e)
theorem EqD.sk : EqD (fun z : SK => .str z.1) (fun z => .str z.1) 0 := ⟨fun _ => rfl, fun a => a.2, fun _ => Nat.le_refl _, fun a b => by
  show ((a.1 : Str) == b.1) = _
  rw [str_beq]
  exact decide_eq_decide.mpr ⟨fun h => Subtype.ext h, fun h => congrArg Subtype.val h⟩⟩
def wk (a : Wd) : Int × SK := (a.s, ⟨strOf a.l, strOk_of a.l⟩)
theorem eqW : EqD (fun p : Int × SK => .tup [.int p.1, .str p.2.1]) (fun p => .tuple [.int p.1, .str p.2.1]) 1 := EqD.pair EqD.int EqD.sk
theorem ne_nil_words {as : List Wd} {K : Nat} {cs : List Cell} (h : cs[K]? = some (.lst (as.map fun a => .dat (wD a)))) : eqC true (.cel K) (.dat (.lst [])) cs = some (.bl (!as.isEmpty)) := by
  have q := eq_cell eqW (by decide) true (l := as.map wk) (m := []) h (by rw [List.map_map]; rfl)
  rw [if_pos rfl] at q
  have e : (!decide (as.map wk = [])) = !as.isEmpty := by
    cases as <;> rfl
  rw [e] at q
  exact q
end DX
namespace DX
open PySem PySem.Spec PyProof.Rows L2 GF
section
variable {cs xt : List Cell} {t n : Nat}
theorem r_a_move (hs : St cs xt t) (ht : t + 40 < 1000000) (h1 : 1 ≤ n) (hn : n ≤ 12) : ∃ m cs', m__law_a_move [.cel 1, .dat (.int (n : Nat))] cs = .ok (.dat (mvD m)) cs' ∧ MvOk n m ∧ St cs' xt (t + 20) := by
  obtain ⟨d, cs1, q1, d0, d1, s1⟩ := r_draw (n := 5) hs (by omega) (by omega) (by omega)
  obtain ⟨e, cs2, q2, e0, e1, s2⟩ := r_draw (n := (n : Nat)) s1 (by omega) (by omega) (by omega)
  obtain ⟨i, rfl⟩ : ∃ i : Nat, e = (i : Int) := ⟨e.toNat, by omega⟩
  by_cases c1 : d = 0 ∨ ((n : Int) = 1 ∧ d < 3)
  · refine ⟨.swap i, cs2, fn_ev ?_, (show i < n by omega), s2.mono (by omega)⟩
    rw [show mvD (.swap i) = .tup [.str "swap", .int (i : Nat)] from rfl]
    by_cases z : d = 0
    · subst z
      k_state0 [b__law_a_move, start_cons, start_nil, repl_S, repl_0, q1, q2]
    · obtain ⟨c2, c3⟩ : (n : Int) = 1 ∧ d < 3 := c1.resolve_left z
      k_state0 [b__law_a_move, start_cons, start_nil, repl_S, repl_0, q1, q2, z, c3, show decide ((n : Int) = 1) = true from decide_eq_true c2]
  · have z : ¬ d = 0 := fun h => c1 (.inl h)
    have c1' : ¬ ((n : Int) = 1 ∧ d < 3) := fun h => c1 (.inr h)
    by_cases c2 : 3 < d ∨ (n : Int) = 1
    · obtain ⟨a, cs3, q3, ha, s3⟩ := r_word (n := n) s2 (by omega) hn
      have q3' : m__law_word [.cel 1, .dat (.int (n : Nat))] cs2 = .ok (.dat (.tup [.int a.s, .str (strOf a.l)])) cs3 := q3
      refine ⟨.turn a.l, cs3, fn_ev ?_, ⟨ha.len, ha.fig⟩, s3.mono (by omega)⟩
      rw [show mvD (.turn a.l) = .tup [.str "turn", .str (strOf a.l)] from rfl]
      by_cases hn1 : (n : Int) = 1
      · have c3 : ¬ d < 3 := fun h => c1' ⟨hn1, h⟩
        by_cases c4 : 3 < d
        · k_state0 [b__law_a_move, start_cons, start_nil, repl_S, repl_0, q1, q2, z, show decide ((n : Int) = 1) = true from decide_eq_true hn1, c3, c4, q3']
        · k_state0 [b__law_a_move, start_cons, start_nil, repl_S, repl_0, q1, q2, z, show decide ((n : Int) = 1) = true from decide_eq_true hn1, c3, c4, q3']
      · have c4 : 3 < d := c2.resolve_right hn1
        k_state0 [b__law_a_move, start_cons, start_nil, repl_S, repl_0, q1, q2, z, hn1, c4, q3']
    · have c4 : ¬ 3 < d := fun h => c2 (.inl h)
      have hn1 : ¬ (n : Int) = 1 := fun h => c2 (.inr h)
      obtain ⟨g, cs3, q3, g0, g1, s3⟩ := r_draw (n := (n : Int) - 1) s2 (by omega) (by omega) (by omega)
      obtain ⟨j, hj⟩ : ∃ j : Nat, ((i : Int) + 1 + g) % (n : Int) = (j : Int) := ⟨(((i : Int) + 1 + g) % (n : Int)).toNat, by have := Int.emod_nonneg ((i : Int) + 1 + g) (b := (n : Int)) (by omega); omega⟩
      have jn : j < n := by have := Int.emod_lt_of_pos ((i : Int) + 1 + g) (b := (n : Int)) (by omega); omega
      have ij : i ≠ j := by
        intro h
        subst h
        have hm := Int.emod_emod_of_dvd ((i : Int) + 1 + g) (Int.dvd_refl (n : Int))
        by_cases w : (i : Int) + 1 + g < (n : Int)
        · rw [Int.emod_eq_of_lt (by omega) w] at hj
          omega
        · have : ((i : Int) + 1 + g) % (n : Int) = (i : Int) + 1 + g - (n : Int) := by
            rw [← Int.sub_emod_right]
            exact Int.emod_eq_of_lt (by omega) (by omega)
          omega
      have nm : (0 : Int) < (n : Int) := by omega
      by_cases c5 : d = 1
      · have mn : min (i : Int) (j : Int) = ((min i j : Nat) : Int) := by omega
        have mx : max (i : Int) (j : Int) = ((max i j : Nat) : Int) := by omega
        refine ⟨.trade (min i j) (max i j), cs3, fn_ev ?_, ⟨by omega, by omega⟩, s3.mono (by omega)⟩
        rw [show mvD (.trade (min i j) (max i j)) = .tup [.str "trade", .int (min i j : Nat), .int (max i j : Nat)] from rfl]
        subst c5
        k_state0 [b__law_a_move, start_cons, start_nil, repl_S, repl_0, q1, q2, hn1, q3, hj, mn, mx]
      · refine ⟨.lean i j, cs3, fn_ev ?_, ⟨ij, by omega, jn⟩, s3.mono (by omega)⟩
        rw [show mvD (.lean i j) = .tup [.str "lean", .int (i : Nat), .int (j : Nat)] from rfl]
        k_state0 [b__law_a_move, start_cons, start_nil, repl_S, repl_0, q1, q2, z, c4, hn1, q3, hj, c5]
theorem r_some_moves {most : Nat} (hs : St cs xt t) (hm : most ≤ 20) (ht : t + 500 < 1000000) (h1 : 1 ≤ n) (hn : n ≤ 12) : ∃ (ms : List Mv) (cs' : List Cell), m__law_some_moves [.cel 1, .dat (.int (n : Nat)), .dat (.int (most : Nat))] cs = .ok (.dat (.lst (ms.map mvD))) cs' ∧ (∀ m ∈ ms, MvOk n m) ∧ ms.length ≤ most ∧ St cs' xt (t + 401) := by
  obtain ⟨d, cs1, q1, d0, d1, s1⟩ := r_draw (n := (most : Int) + 1) hs (by omega) (by omega) (by omega)
  obtain ⟨k, rfl⟩ : ∃ k : Nat, d = (k : Int) := ⟨d.toNat, by omega⟩
  obtain ⟨ms, cs2, q2, ⟨s2, ok⟩, l2⟩ := lc_acc (t := tName 3) (f := ce__law_some_moves_0) (env := [some (.cel 1), some (.dat (.int (n : Nat))), some (.dat (.int (most : Nat))), none]) (fun i : Nat => .dat (.int (0 + (i : Int)))) mvD
    (fun pr ac c => St c xt (t + 1 + 20 * pr.length) ∧ ∀ m ∈ ac, MvOk n m) (List.range k) [] [] cs1 (fun pr x post ac c he ⟨h, ok⟩ => by
      have hl : pr.length < 20 := by
        have := congrArg List.length he
        simp at this
        omega
      obtain ⟨m, c1, e1, hm, t1⟩ := r_a_move h (by omega) h1 hn
      refine ⟨[some (.cel 1), some (.dat (.int (n : Nat))), some (.dat (.int (most : Nat))), some (.dat (.int (0 + (x : Int))))], m, c1, rfl, ?_, t1.mono (by simp; omega), fun b hb => ?_⟩
      · k_state0 [ce__law_some_moves_0, e1]
      · rcases List.mem_append.mp hb with hb | hb
        · exact ok b hb
        · rw [List.mem_singleton.mp hb]; exact hm) ⟨s1.mono (by simp), fun b hb => absurd hb (by simp)⟩
  rw [List.nil_append] at s2 ok
  rw [List.length_range] at l2 s2
  rw [← rangeW_is] at q2
  have hz : (rangeW 0 k).length ≤ 16777216 := by rw [rangeW_is, List.length_map, List.length_range]; omega
  refine ⟨ms, cs2, fn_ev ?_, ok, by omega, s2.mono (by omega)⟩
  k_state0 [b__law_some_moves, start_cons, start_nil, repl_S, repl_0, q1, k_lc hz, q2, wipe_nil, wipe_cons]
abbrev wv1 (as : List Wd) : List Wv := as.map fun a => .dat (wD a)
theorem sg_pick {d : Dt} (h : d ∈ [Dt.int 1, .int 1, .int (-1)]) : ∃ s : Int, d = .int s ∧ Sg s := by
  simp only [List.mem_cons, List.not_mem_nil, or_false] at h
  rcases h with h | h | h
  · exact ⟨1, h, .inl rfl⟩
  · exact ⟨1, h, .inl rfl⟩
  · exact ⟨-1, h, .inr rfl⟩
theorem sg_pick2 {d : Dt} (h : d ∈ [Dt.int 1, .int (-1)]) : ∃ s : Int, d = .int s ∧ Sg s := by
  simp only [List.mem_cons, List.not_mem_nil, or_false] at h
  rcases h with h | h
  · exact ⟨1, h, .inl rfl⟩
  · exact ⟨-1, h, .inr rfl⟩
theorem sg_mul {s u : Int} (hs : Sg s) (hu : Sg u) : Sg (s * u) := by
  rcases hs with h | h <;> rcases hu with h2 | h2 <;> rw [h, h2] <;> simp [Sg]
theorem several_step {acc : List Wd} {A : Option Wv} {e4 e5 e6 e7 : Option Wv} (hs : St cs (xt ++ [.lst (wv1 acc)]) t) (ht : t + 60 < 1000000) (hn : n ≤ 12) (ho : ∀ a ∈ acc, WOk' n a) (hl : acc.length < 40) :
    ∃ a e5' e6' e7' cs', lb__law_several_0 [some (.cel 1), some (.dat (.int (n : Nat))), A, some (.cel (xt.length + 2)), e4, e5, e6, e7, none] cs = .ok (.nx [some (.cel 1), some (.dat (.int (n : Nat))), A, some (.cel (xt.length + 2)), e4, e5', e6', e7', none]) cs' ∧ WOk' n a ∧ St cs' (xt ++ [.lst (wv1 (acc ++ [a]))]) (t + 30) := by
  obtain ⟨d, cs1, q1, l1, u1, s1⟩ := r_draw (n := 9) hs (by omega) (by omega) (by omega)
  have g1 := s1.get xt.length
  rw [dk_last] at g1
  have ne := ne_nil_words g1
  have done : ∀ (a : Wd) (cs2 : List Cell) (u : Nat), St cs2 (xt ++ [.lst (wv1 acc)]) u → u ≤ t + 30 → cs2[xt.length + 2]? = some (.lst (wv1 acc)) ∧ oAppend (.cel (xt.length + 2)) [.dat (wD a)] cs2 = .ok (.dat .non) (cs2.set (xt.length + 2) (.lst (wv1 (acc ++ [a])))) ∧ St (cs2.set (xt.length + 2) (.lst (wv1 (acc ++ [a])))) (xt ++ [.lst (wv1 (acc ++ [a]))]) (t + 30) := by
    intro a cs2 u h hu
    have h2 := h.set xt.length (.lst (wv1 (acc ++ [a])))
    rw [dk_setl] at h2
    have g2 := h.get xt.length
    rw [dk_last] at g2
    have ap := append_of (u := .dat (wD a)) g2 (by rw [List.length_map]; omega)
    have e : wv1 acc ++ [.dat (wD a)] = wv1 (acc ++ [a]) := by simp
    rw [e] at ap
    exact ⟨g2, ap, h2.mono hu⟩
  by_cases c : acc ≠ [] ∧ d < 3
  · obtain ⟨c1, c2⟩ := c
    obtain ⟨k, rfl⟩ : ∃ k : Nat, d = (k : Int) := ⟨d.toNat, by omega⟩
    have ne1 : (!acc.isEmpty) = true := by
      cases acc with
      | nil => exact absurd rfl c1
      | cons _ _ => rfl
    rw [ne1] at ne
    have lp : 1 ≤ (wv1 acc).length := by
      rw [List.length_map]
      exact List.length_pos_iff.mpr c1
    obtain ⟨ps, cs2, q2, ⟨s2, ok2⟩, l2⟩ := lc_acc (t := tName 8) (f := ce__law_several_0) (env := [some (.cel 1), some (.dat (.int (n : Nat))), A, some (.cel (xt.length + 2)), e4, some (.dat (.int (k : Nat))), e6, e7, none]) (fun i : Nat => .dat (.int (0 + (i : Int)))) wD
      (fun pr ac c => St c (xt ++ [.lst (wv1 acc)]) (t + 1 + pr.length) ∧ ∀ a ∈ ac, WOk' n a) (List.range (1 + k)) [] [] cs1 (fun pr x post ac c he ⟨h, ok⟩ => by
        have hl : pr.length < 4 := by
          have := congrArg List.length he
          simp at this
          omega
        obtain ⟨w, c3, e3, hw, t3⟩ := r_pickc (k := xt.length) h (by omega) dk_last lp (by rw [List.length_map]; omega)
        obtain ⟨a, ha, rfl⟩ := List.mem_map.mp hw
        refine ⟨[some (.cel 1), some (.dat (.int (n : Nat))), A, some (.cel (xt.length + 2)), e4, some (.dat (.int (k : Nat))), e6, e7, some (.dat (.int (0 + (x : Int))))], a, c3, rfl, ?_, t3.mono (by rw [List.length_append]; simp only [List.length_cons, List.length_nil]; omega), fun b hb => ?_⟩
        · k_state0 [ce__law_several_0, e3]
        · rcases List.mem_append.mp hb with hb | hb
          · exact ok b hb
          · rw [List.mem_singleton.mp hb]; exact ho a ha) ⟨s1, fun b hb => absurd hb (by simp)⟩
    rw [List.nil_append] at s2 ok2
    rw [List.length_range] at l2 s2
    rw [← rangeW_is] at q2
    have rg : ((1 : Int) + (k : Int)).toNat = 1 + k := by omega
    cases ps with
    | nil =>
      rw [List.length_nil] at l2
      omega
    | cons p0 ps =>
      have q3 := r_row_of (cs := cs2) hn (ok2 p0 List.mem_cons_self) (fun b hb => ok2 b (List.mem_cons_of_mem _ hb)) (by simp at l2; omega)
      have op := pus_ok (ok2 p0 List.mem_cons_self) (fun b hb => ok2 b (List.mem_cons_of_mem _ hb))
      obtain ⟨sd, cs4, q4, hsd, s4⟩ := r_pick (l := [.int 1, .int 1, .int (-1)]) s2 (by omega) (by decide) (by decide)
      obtain ⟨u, rfl, hu⟩ := sg_pick hsd
      obtain ⟨g4, ap, s5⟩ := done ⟨(pus p0 ps).s * u, (pus p0 ps).l⟩ cs4 _ s4 (by omega)
      have g2 := s2.get xt.length
      rw [dk_last] at g2
      have m1 := methl_of (o := oAppend) (ga := aCons (eTup (aCons (eBin dMul (eVar 6) (eFn 2 (m__law_pick) (aCons (eVar 0) (aCons (eLst (aCons (eC (.int 1)) (aCons (eC (.int 1)) (aCons (eUn dNeg (eC (.int 1))) (aNil))))) (aNil))))) (aCons (eVar 7) (aNil)))) (aNil)) (env := [some (.cel 1), some (.dat (.int (n : Nat))), A, some (.cel (xt.length + 2)), e4, some (.dat (.int (k : Nat))), some (.dat (.int (pus p0 ps).s)), some (.dat (.str (strOf (pus p0 ps).l))), none]) g2
      have ml : dMul (.int (pus p0 ps).s) (.int u) = some (.int ((pus p0 ps).s * u)) := by rw [d_mulL (by rcases op.sg with h | h <;> rw [h] <;> decide) (by rcases op.sg with h | h <;> rw [h] <;> decide)]
      have w0 : wD (pus p0 ps) = .tup [.int (pus p0 ps).s, .str (strOf (pus p0 ps).l)] := rfl
      have w1 : wD ⟨(pus p0 ps).s * u, (pus p0 ps).l⟩ = .tup [.int ((pus p0 ps).s * u), .str (strOf (pus p0 ps).l)] := rfl
      rw [w0] at q3
      rw [w1] at ap
      have hz : (rangeW 0 (1 + k)).length ≤ 16777216 := by rw [rangeW_is, List.length_map, List.length_range]; omega
      refine ⟨⟨(pus p0 ps).s * u, (pus p0 ps).l⟩, some (.dat (.int (k : Nat))), some (.dat (.int (pus p0 ps).s)), some (.dat (.str (strOf (pus p0 ps).l))), _, ?_, ⟨sg_mul op.sg hu, op.len, op.fig⟩, s5⟩
      simp only [List.map_cons] at q2 q3
      k_state0 [lb__law_several_0, q1, ne, c2, rg, k_lc hz, q2, wipe_nil, wipe_cons, q3, m1, show dNeg (.int 1) = some (.int (-1)) from rfl, q4, ml, ap]
  · have nb : (decide ((!acc.isEmpty) = true) && decide (d < 3)) = false := by
      cases acc with
      | nil => rfl
      | cons a as =>
        have : ¬ d < 3 := fun h => c ⟨by simp, h⟩
        simp [this]
    have step1 : ∀ (X Y : Sv) env, env = [some (.cel 1), some (.dat (.int (n : Nat))), A, some (.cel (xt.length + 2)), e4, some (.dat (.int d)), e6, e7, none] → sIf (tAnd' (tCmpE (eEqC true (eVar 3) (eLst (aNil)))) (tCmpE (eBin (dI0 fun i j => .bl (decide (i < j))) (eVar 5) (eC (.int 3))))) X Y env cs1 = Y env cs1 := by
      rintro X Y env rfl
      cases acc with
      | nil =>
        have ne : eqC true (.cel (xt.length + 2)) (.dat (.lst [])) cs1 = some (.bl false) := ne
        k_state0 [ne]
      | cons a as =>
        have : ¬ d < 3 := fun h => c ⟨by simp, h⟩
        have ne : eqC true (.cel (xt.length + 2)) (.dat (.lst [])) cs1 = some (.bl true) := ne
        k_state0 [ne, this]
    by_cases c3 : d = 3
    · subst c3
      obtain ⟨sd, cs2, q2, hsd, s2⟩ := r_pick (l := [.int 1, .int (-1)]) s1 (by omega) (by decide) (by decide)
      obtain ⟨u, rfl, hu⟩ := sg_pick2 hsd
      have q3 : m__law_nothing [.dat (.int (n : Nat)), .dat (.int u)] cs2 = .ok (.dat (wD (nothing n u))) cs2 := r_nothing hn
      obtain ⟨g4, ap, s5⟩ := done (nothing n u) cs2 _ s2 (by omega)
      have m1 := methl_of (o := oAppend) (ga := aCons (eFn 2 (m__law_nothing) (aCons (eVar 1) (aCons (eFn 2 (m__law_pick) (aCons (eVar 0) (aCons (eLst (aCons (eC (.int 1)) (aCons (eUn dNeg (eC (.int 1))) (aNil)))) (aNil)))) (aNil)))) (aNil)) (env := [some (.cel 1), some (.dat (.int (n : Nat))), A, some (.cel (xt.length + 2)), e4, some (.dat (.int 3)), e6, e7, none]) g1
      refine ⟨nothing n u, some (.dat (.int 3)), e6, e7, _, ?_, nothing_ok hu, s5⟩
      k_state0 [lb__law_several_0, q1, step1, -s_sif]
      k_state0 [m1, show dNeg (.int 1) = some (.int (-1)) from rfl, q2, q3, ap]
    · by_cases c6 : d < 6
      · obtain ⟨a, cs2, q2, ha, ta, s2⟩ := r_turner (n := n) s1 (by omega) hn
        obtain ⟨g4, ap, s5⟩ := done a cs2 _ s2 (by omega)
        have m1 := methl_of (o := oAppend) (ga := aCons (eIf (tCmpE (eBin (dI0 fun i j => .bl (decide (i < j))) (eVar 5) (eC (.int 6)))) (eFn 2 (m__law_turner) (aCons (eVar 0) (aCons (eVar 1) (aNil)))) (eFn 2 (m__law_word) (aCons (eVar 0) (aCons (eVar 1) (aNil))))) (aNil)) (env := [some (.cel 1), some (.dat (.int (n : Nat))), A, some (.cel (xt.length + 2)), e4, some (.dat (.int d)), e6, e7, none]) g1
        refine ⟨a, some (.dat (.int d)), e6, e7, _, ?_, ha, s5⟩
        k_state0 [lb__law_several_0, q1, step1, -s_sif]
        k_state0 [c3, m1, c6, q2, ap]
      · obtain ⟨a, cs2, q2, ha, s2⟩ := r_word (n := n) s1 (by omega) hn
        have q2' : m__law_word [.cel 1, .dat (.int (n : Nat))] cs1 = .ok (.dat (wD a)) cs2 := q2
        obtain ⟨g4, ap, s5⟩ := done a cs2 _ s2 (by omega)
        have m1 := methl_of (o := oAppend) (ga := aCons (eIf (tCmpE (eBin (dI0 fun i j => .bl (decide (i < j))) (eVar 5) (eC (.int 6)))) (eFn 2 (m__law_turner) (aCons (eVar 0) (aCons (eVar 1) (aNil)))) (eFn 2 (m__law_word) (aCons (eVar 0) (aCons (eVar 1) (aNil))))) (aNil)) (env := [some (.cel 1), some (.dat (.int (n : Nat))), A, some (.cel (xt.length + 2)), e4, some (.dat (.int d)), e6, e7, none]) g1
        refine ⟨a, some (.dat (.int d)), e6, e7, _, ?_, ha, s5⟩
        k_state0 [lb__law_several_0, q1, step1, -s_sif]
        k_state0 [c3, m1, c6, q2', ap]
theorem r_several {m : Nat} (hs : St cs xt t) (hm : m ≤ 20) (ht : t + 1000 < 1000000) (hn : n ≤ 12) : ∃ (as : List Wd) (cs' : List Cell), m__law_several [.cel 1, .dat (.int (n : Nat)), .dat (.int (m : Nat))] cs = .ok (.dat (.lst (as.map wD))) cs' ∧ (∀ a ∈ as, WOk' n a) ∧ as.length = m ∧ St cs' (xt ++ [.dead]) (t + 601) := by
  have s0 := hs.app [.lst (wv1 [])]
  have lc := hs.len
  obtain ⟨env', cs', q, as, e4, e5, e6, e7, rfl, la, ok, s1⟩ := ls_all (t := tName 4) (b := lb__law_several_0) (fun i : Nat => .dat (.int (0 + (i : Int)))) (fun pr env c => ∃ (as : List Wd) (e4 e5 e6 e7 : Option Wv), env = [some (.cel 1), some (.dat (.int (n : Nat))), some (.dat (.int (m : Nat))), some (.cel (xt.length + 2)), e4, e5, e6, e7, none] ∧ as.length = pr.length ∧ (∀ a ∈ as, WOk' n a) ∧ St c (xt ++ [.lst (wv1 as)]) (t + 30 * pr.length))
    (List.range m) (env := [some (.cel 1), some (.dat (.int (n : Nat))), some (.dat (.int (m : Nat))), some (.cel (xt.length + 2)), none, none, none, none, none]) (cs := cs ++ [.lst (wv1 [])]) (fun pr x post env c he ⟨as, e4, e5, e6, e7, hv, la, ok, h⟩ => by
      have hl : pr.length < 20 := by
        have := congrArg List.length he
        simp at this
        omega
      subst hv
      obtain ⟨a, f5, f6, f7, c', e, ha, h'⟩ := several_step (A := some (.dat (.int (m : Nat)))) (e4 := some (.dat (.int (0 + (x : Int))))) (e5 := e5) (e6 := e6) (e7 := e7) h (by omega) hn ok (by omega)
      refine ⟨_, _, c', rfl, .inl e, as ++ [a], _, _, _, _, rfl, by simp [la], fun b hb => ?_, h'.mono (by simp; omega)⟩
      rcases List.mem_append.mp hb with hb | hb
      · exact ok b hb
      · rw [List.mem_singleton.mp hb]; exact ha) ⟨[], none, none, none, none, rfl, rfl, fun a h => absurd h (by simp), s0.mono (by simp)⟩
  rw [← rangeW_is] at q
  rw [List.length_range] at la s1
  have g1 := s1.get xt.length
  rw [dk_last] at g1
  have hd : dats (wv1 as) = some (as.map wD) := by
    have : wv1 as = (as.map wD).map Wv.dat := by rw [List.map_map]; rfl
    rw [this, dats_mapd]
  have s2 := s1.set xt.length .dead
  rw [dk_setl] at s2
  refine ⟨as, _, fn_ev ?_, ok, la, s2.mono (by omega)⟩
  simp only [wv1, List.map_nil] at q
  k_state0 [b__law_several, start_cons, start_nil, repl_S, repl_0, lc, q, g1, hd]
end
end DX
namespace DX
open PySem PySem.Spec PyProof.Rows L2
theorem eq_oth {neg : Bool} {x : Dt} {p : PyData} {z : Str} {cs : List Cell} (he : eqS (.dat x) (.dat (.str z)) = none) (hp : DX.py x = some p) (hs : SeqAt.shaped p = true) (hz : SeqAt.shaped (.str z) = true) (hn : PyData.eqv p (.str z) = false) : eqC neg (.dat x) (.dat (.str z)) cs = some (.bl neg) := by
  unfold eqC eqB
  rw [he]
  have e : eqL (.dat x) (.dat (.str z)) cs = some false := by
    unfold eqL
    rw [show snap cs (.dat x) = some p from hp, show snap cs (.dat (.str z)) = some (.str z) from rfl]
    dsimp only
    rw [hs, hz, hn]
    rfl
  show (eqL (.dat x) (.dat (.str z)) cs).map _ = _
  rw [e]
  cases neg <;> rfl
/-- the values of other kinds -/
def othB : PyData → Bool
  | .none => true
  | .bool _ => true
  | .int _ => true
  | .tuple _ => true
  | .list _ => true
  | _ => false
theorem oth_eqv {p : PyData} {z : Str} (h : othB p = true) : PyData.eqv p (.str z) = false := by
  cases p with
  | none => unfold PyData.eqv; rfl
  | bool b => unfold PyData.eqv; rfl
  | int i => unfold PyData.eqv; rfl
  | tuple l => unfold PyData.eqv; rfl
  | list l => unfold PyData.eqv; rfl
  | _ => cases h
theorem eq_kind {neg : Bool} {x : Dt} {p : PyData} {z : Str} {cs : List Cell} (hp : DX.py x = some p) (ho : othB p = true) (hs : SeqAt.shaped p = true) (hz : SeqAt.shaped (.str z) = true) : eqC neg (.dat x) (.dat (.str z)) cs = some (.bl neg) := by
  refine eq_oth ?_ hp hs hz (oth_eqv ho)
  cases x with
  | str y =>
    have e : some (PyData.str y) = some p := hp
    cases e
    cases ho
  | _ => rfl
theorem eq_txt {neg : Bool} {y z : Str} {cs : List Cell} : eqC neg (.dat (.str y)) (.dat (.str z)) cs = some (.bl (if neg then !decide (y = z) else decide (y = z))) := by
  have e : eqS (.dat (.str y)) (.dat (.str z)) = some (y == z) := rfl
  unfold eqC eqB
  rw [e, str_beq]
  rfl
end DX
namespace DX
open PySem PySem.Spec PyProof.Rows L2
noncomputable section
def b_need_length : Sv := sIf (tNot' (tTru (eFn 3 (m_is_between) (aCons (eVar 0) (aCons (eC (.int 1)) (aCons (eC (.int 12)) (aNil))))))) (sRaise "BadLength") (sNil)
abbrev m_need_length : Fn := fnOf 1 (b_need_length)
def ce_is_move_of_v2_0 : Ev := eFn 3 (m_is_between) (aCons (eVar 2) (aCons (eC (.int 0)) (aCons (eBin (dI0 fun i j => .int (i - j)) (eVar 0) (eC (.int 1))) (aNil))))
def b_is_move_of_v2 : Sv := sSeq (sIf (tOr' (tNot' (tTru (eCall oIsi (aCons (eVar 1) (aCons (eC (.op (.ty "tuple"))) (aNil)))))) (tCmpE (eBin dNotIn (eCall oLen (aCons (eVar 1) (aNil))) (eTup (aCons (eC (.int 2)) (aCons (eC (.int 3)) (aNil))))))) (sRet (eC (.bl false))) (sNil)) (sSeq (sIf (tCmpE (eEqCD (eIx (eVar 1) (eC (.int 0))) (eC (.str "turn")))) (sRet (eAnd (eEqCD (eCall oLen (aCons (eVar 1) (aNil))) (eC (.int 2))) (eFn 2 (m_is_letters) (aCons (eVar 0) (aCons (eIx (eVar 1) (eC (.int 1))) (aNil)))))) (sNil)) (sSeq (sIf (tNot' (tTru (eCall (o1 dAll) (aCons (eOfF (fLc (iSeq (eSl (eVar 1) (oSome (eC (.int 1))) (oNone))) (tName 2) (tYesE) (ce_is_move_of_v2_0) [2])) (aNil))))) (sRet (eC (.bl false))) (sNil)) (sSeq (sIf (tOr' (tCmpE (eEqCD (eIx (eVar 1) (eC (.int 0))) (eC (.str "swap")))) (tCmpE (eEqCD (eCall oLen (aCons (eVar 1) (aNil))) (eC (.int 2))))) (sRet (eAnd (eEqCD (eIx (eVar 1) (eC (.int 0))) (eC (.str "swap"))) (eEqCD (eCall oLen (aCons (eVar 1) (aNil))) (eC (.int 2))))) (sNil)) (sSeq (sIf (tCmpE (eEqCD (eIx (eVar 1) (eC (.int 0))) (eC (.str "trade")))) (sRet (eBin (dI0 fun i j => .bl (decide (i < j))) (eIx (eVar 1) (eC (.int 1))) (eIx (eVar 1) (eC (.int 2))))) (sNil)) (sRet (eAnd (eEqCD (eIx (eVar 1) (eC (.int 0))) (eC (.str "lean"))) (eEqC true (eIx (eVar 1) (eC (.int 1))) (eIx (eVar 1) (eC (.int 2))))))))))
abbrev m_is_move_of_v2 : Fn := fnOf 3 (b_is_move_of_v2)
def b_is_move : Sv := sSeq (sExpr (eFn 1 (m_need_length) (aCons (eVar 0) (aNil)))) (sRet (eFn 2 (m_is_move_of_v2) (aCons (eVar 0) (aCons (eVar 1) (aNil)))))
abbrev m_is_move : Fn := fnOf 2 (b_is_move)
def ci__law_is_letters_0 : EvT := tCmpE (eBin dNotIn (eVar 2) (eC (.str "1abc")))
def ce__law_is_letters_0 : Ev := eC (.int 1)
def b__law_is_letters : Sv := sRet (eAnd (eCall oIsi (aCons (eVar 0) (aCons (eC (.op (.ty "str"))) (aNil)))) (eAnd (eEqC false (eCall oLen (aCons (eVar 0) (aNil))) (eVar 1)) (eEqC false (eOfF (fLc (iSeq (eVar 0)) (tName 2) (ci__law_is_letters_0) (ce__law_is_letters_0) [2])) (eLst (aNil)))))
abbrev m__law_is_letters : Fn := fnOf 3 (b__law_is_letters)
def b__law_is_move : Sv := sSeq (sIf (tOr' (tNot' (tTru (eCall oIsi (aCons (eVar 1) (aCons (eC (.op (.ty "tuple"))) (aNil)))))) (tOr' (tCmpE (eEqC false (eCall oLen (aCons (eVar 1) (aNil))) (eC (.int 0)))) (tNot' (tTru (eCall oIsi (aCons (eIx (eVar 1) (eC (.int 0))) (aCons (eC (.op (.ty "str"))) (aNil)))))))) (sRet (eC (.bl false))) (sNil)) (sSeq (sIf (tCmpE (eBin dIn (eIx (eVar 1) (eC (.int 0))) (eLst (aCons (eC (.str "swap")) (aCons (eC (.str "turn")) (aNil)))))) (sSeq (sIf (tCmpE (eEqC true (eCall oLen (aCons (eVar 1) (aNil))) (eC (.int 2)))) (sRet (eC (.bl false))) (sNil)) (sRet (eIf (tCmpE (eEqC false (eIx (eVar 1) (eC (.int 0))) (eC (.str "swap")))) (eFn 2 (m__law_is_below) (aCons (eIx (eVar 1) (eC (.int 1))) (aCons (eVar 0) (aNil)))) (eFn 2 (m__law_is_letters) (aCons (eIx (eVar 1) (eC (.int 1))) (aCons (eVar 0) (aNil))))))) (sNil)) (sSeq (sIf (tOr' (tCmpE (eBin dNotIn (eIx (eVar 1) (eC (.int 0))) (eLst (aCons (eC (.str "trade")) (aCons (eC (.str "lean")) (aNil)))))) (tCmpE (eEqC true (eCall oLen (aCons (eVar 1) (aNil))) (eC (.int 3))))) (sRet (eC (.bl false))) (sNil)) (sSeq (sIf (tOr' (tNot' (tTru (eFn 2 (m__law_is_below) (aCons (eIx (eVar 1) (eC (.int 1))) (aCons (eVar 0) (aNil)))))) (tNot' (tTru (eFn 2 (m__law_is_below) (aCons (eIx (eVar 1) (eC (.int 2))) (aCons (eVar 0) (aNil))))))) (sRet (eC (.bl false))) (sNil)) (sRet (eIf (tCmpE (eEqC false (eIx (eVar 1) (eC (.int 0))) (eC (.str "trade")))) (eBin (dI0 fun i j => .bl (decide (i < j))) (eIx (eVar 1) (eC (.int 1))) (eIx (eVar 1) (eC (.int 2)))) (eEqC true (eIx (eVar 1) (eC (.int 1))) (eIx (eVar 1) (eC (.int 2)))))))))
abbrev m__law_is_move : Fn := fnOf 2 (b__law_is_move)
def b__law_bad_words_v2 : Sv := sSeq (sSet 2 (eFn 2 (m__law_draw) (aCons (eVar 0) (aCons (eC (.int 8)) (aNil))))) (sSeq (sIf (tCmpE (eEqC false (eVar 2) (eC (.int 0)))) (sRet (eBin dAdd (eVar 1) (eLst (aCons (eTup (aCons (eC (.int 1)) (aCons (eBin dAdd (eIx (eIx (eVar 1) (eC (.int 0))) (eC (.int 1))) (eC (.str "1"))) (aNil)))) (aNil))))) (sNil)) (sSeq (sIf (tCmpE (eEqC false (eVar 2) (eC (.int 1)))) (sRet (eSl (eBin dMul (eVar 1) (eC (.int 16))) (oNone) (oSome (eC (.int 16))))) (sNil)) (sSeq (sIf (tCmpE (eEqC false (eVar 2) (eC (.int 2)))) (sRet (eBin dAdd (eLst (aCons (eFn 1 (m__law_bad_word) (aCons (eVar 0) (aNil))) (aNil))) (eSl (eVar 1) (oSome (eC (.int 1))) (oNone)))) (sNil)) (sSeq (sIf (tCmpE (eEqC false (eVar 2) (eC (.int 3)))) (sRet (eBin dAdd (eSl (eVar 1) (oNone) (oSome (eUn dNeg (eC (.int 1))))) (eLst (aCons (eFn 1 (m__law_bad_word) (aCons (eVar 0) (aNil))) (aNil))))) (sNil)) (sRet (eFn 2 (m__law_pick) (aCons (eVar 0) (aCons (eLst (aCons (eLst (aNil)) (aCons (eTup (aNil)) (aCons (eC .non) (aCons (eC (.int 7)) (aCons (eC (.str "a1")) (aCons ((fun _ => M.ret (.dat (.dic [])))) (aCons (eIx (eVar 1) (eC (.int 0))) (aCons (eC (.bl true)) (aCons (eLst (aCons (eVar 1) (aNil))) (aCons (eLst (aCons (eC (.str "a")) (aCons (eC (.str "b")) (aNil)))) (aCons (eDic [(.inl 0, eIx (eVar 1) (eC (.int 0)))]) (aNil))))))))))))) (aNil)))))))))
abbrev m__law_bad_words_v2 : Fn := fnOf 3 (b__law_bad_words_v2)
def b_moved_v2 : Sv := sSeq (sExpr (eFn 1 (m_need_words) (aCons (eVar 0) (aNil)))) (sSeq (sIf (tNot' (tTru (eFn 2 (m_is_move_of_v2) (aCons (eCall oLen (aCons (eIx (eIx (eVar 0) (eC (.int 0))) (eC (.int 1))) (aNil))) (aCons (eVar 1) (aNil)))))) (sRaise "BadMove") (sNil)) (sRet (eFn 2 (m_led_of) (aCons (eVar 0) (aCons (eLst (aCons (eVar 1) (aNil))) (aNil))))))
abbrev m_moved_v2 : Fn := fnOf 2 (b_moved_v2)
def lb_need_moves_v2_0 : Sv := sIf (tNot' (tTru (eFn 2 (m_is_move_of_v2) (aCons (eVar 0) (aCons (eVar 3) (aNil)))))) (sRaise1 "BadMoves" "at" (eVar 2)) (sNil)
def b_need_moves_v2 : Sv := sSeq (sIf (tNot' (tTru (eFn 1 (m_is_row) (aCons (eVar 1) (aNil))))) (sRaise1 "BadMoves" "at" (eC .non)) (sNil)) (sFor (iEnumT (aCons (eVar 1) (aNil))) (tTupG 2 (tgCons (tName 2) (tgCons (tName 3) (tgNil)))) (lb_need_moves_v2_0))
abbrev m_need_moves_v2 : Fn := fnOf 4 (b_need_moves_v2)
def b_led_v3 : Sv := sSeq (sExpr (eFn 1 (m_need_words) (aCons (eVar 0) (aNil)))) (sSeq (sExpr (eFn 2 (m_need_moves_v2) (aCons (eCall oLen (aCons (eIx (eIx (eVar 0) (eC (.int 0))) (eC (.int 1))) (aNil))) (aCons (eVar 1) (aNil))))) (sRet (eFn 2 (m_led_of) (aCons (eVar 0) (aCons (eVar 1) (aNil))))))
abbrev m_led_v3 : Fn := fnOf 2 (b_led_v3)
def ce_plain_of_0 : Ev := eTup (aCons (eVar 2) (aCons (eVar 3) (aNil)))
def cg_plain_of_0 : EvI := iSeq (eC (.str "ab"))
def ce_plain_of_1 : Ev := eTup (aCons (eC (.int 1)) (aCons (eBin dAdd (eBin dAdd (eBin dMul (eC (.str "1")) (eVar 2)) (eVar 3)) (eBin dMul (eC (.str "1")) (eBin (dI0 fun i j => .int (i - j)) (eBin (dI0 fun i j => .int (i - j)) (eVar 0) (eVar 2)) (eC (.int 1))))) (aNil)))
def b_plain_of : Sv := sSeq (sSet 1 (eOfF (fLc2 (iRg1 (aCons (eVar 0) (aNil))) (tName 2) (tYesE) (cg_plain_of_0) (tName 3) (tYesE) (ce_plain_of_0) [2, 3] [3]))) (sRet (eOfF (fLc (iSeq (eVar 1)) (tTupG 2 (tgCons (tName 2) (tgCons (tName 3) (tgNil)))) (tYesE) (ce_plain_of_1) [2, 3])))
abbrev m_plain_of : Fn := fnOf 4 (b_plain_of)
def b_frame_of : Sv := sSeq (sExpr (eFn 1 (m_need_length) (aCons (eVar 0) (aNil)))) (sSeq (sExpr (eFn 2 (m_need_moves_v2) (aCons (eVar 0) (aCons (eVar 1) (aNil))))) (sRet (eFn 2 (m_led_of) (aCons (eFn 1 (m_plain_of) (aCons (eVar 0) (aNil))) (aCons (eVar 1) (aNil))))))
abbrev m_frame_of : Fn := fnOf 2 (b_frame_of)
def ci__law_refusals_0 : EvT := tNot' (tTru (eFn 2 (m__law_is_move) (aCons (eVar 1) (aCons (eVar 13) (aNil)))))
def ce__law_refusals_0 : Ev := eVar 12
noncomputable def lb__law_refusals_0 (V : Ax) (nn : Nat) : Sv := sSeq (sSet 7 (eLamV V.L 11 [(0, V.M 0 nn 0, eFn 2 (m_led_v3) (aCons (eVar 2) (aCons (eVar 6) (aNil)))), (1, V.M 0 nn 1, eFn 2 (m_frame_of) (aCons (eVar 1) (aCons (eVar 6) (aNil))))])) (sSeq (sIf (tAnd' (tCmpE (eEqC false (eVar 10) (eLst (aNil)))) (tCmpE (eBin dNotN (eVar 7) (eC .non)))) (sRet (eC (.bl false))) (sNil)) (sIf (tAnd' (tCmpE (eEqC true (eVar 10) (eLst (aNil)))) (tOr' (tNot' (tTru (eCall (oIsXD V.K (V.L.map (·.2))) (aCons (eVar 7) (aCons (eC (.op (.ref (V.A 19)))) (aNil)))))) (tCmpE (eEqC true (eCall oReprA (aCons (eXf [V.A 19] "at" (eVar 7)) (aNil))) (eCall oReprA (aCons (eIx (eVar 10) (eC (.int 0))) (aNil))))))) (sRet (eC (.bl false))) (sNil)))
noncomputable def b__law_refusals (V : Ax) (nn : Nat) : Sv := sSeq (sAsg (tTupG 2 (tgCons (tName 4) (tgCons (tName 5) (tgNil)))) (eTup (aCons (eFn 2 (m__law_is_move) (aCons (eVar 1) (aCons (eVar 3) (aNil)))) (aCons (eFn 2 (m__law_bad_words_v2) (aCons (eVar 0) (aCons (eVar 2) (aNil)))) (aNil))))) (sSeq (sSet 6 (eFnP 2 [1, 0] (m_is_move) (aCons (eVar 3) (aCons (eVar 1) (aNil))))) (sSeq (sIf (tOr' (tNot' (tTru (eFn 2 (m__law_says) (aCons (eFn 2 (m_is_move) (aCons (eVar 1) (aCons (eVar 3) (aNil)))) (aCons (eVar 4) (aNil)))))) (tNot' (tTru (eFn 2 (m__law_says) (aCons (eVar 6) (aCons (eVar 4) (aNil))))))) (sRet (eC (.bl false))) (sNil)) (sSeq (sSet 7 (eCaught V.L (eFn 2 (m_moved_v2) (aCons (eVar 2) (aCons (eVar 3) (aNil)))))) (sSeq (sIf (tOr' (tCmpE (eEqC false (eBin dNotN (eVar 7) (eC .non)) (eVar 4))) (tAnd' (tNot' (tTru (eVar 4))) (tNot' (tTru (eCall (oIsXD V.K (V.L.map (·.2))) (aCons (eVar 7) (aCons (eC (.op (.ref (V.A 18)))) (aNil)))))))) (sRet (eC (.bl false))) (sNil)) (sSeq (sIf (tNot' (tTru (eCall (oIsXD V.K (V.L.map (·.2))) (aCons (eCaught V.L (eFn 2 (m_moved_v2) (aCons (eVar 5) (aCons (eVar 3) (aNil))))) (aCons (eC (.op (.ref (V.A 37)))) (aNil)))))) (sRet (eC (.bl false))) (sNil)) (sSeq (sIf (tNot' (tTru (eCall (oIsXD V.K (V.L.map (·.2))) (aCons (eCaught V.L (eFn 2 (m_led_v3) (aCons (eVar 5) (aCons (eLst (aCons (eVar 3) (aNil))) (aNil))))) (aCons (eC (.op (.ref (V.A 37)))) (aNil)))))) (sRet (eC (.bl false))) (sNil)) (sSeq (sSet 8 (eFn 3 (m__law_some_moves) (aCons (eVar 0) (aCons (eVar 1) (aCons (eC (.int 4)) (aNil)))))) (sSeq (sSet 9 (eFn 2 (m__law_draw) (aCons (eVar 0) (aCons (eBin dAdd (eCall oLen (aCons (eVar 8) (aNil))) (eC (.int 1))) (aNil))))) (sSeq (sSet 6 (eBin dAdd (eBin dAdd (eBin dAdd (eSl (eVar 8) (oNone) (oSome (eVar 9))) (eLst (aCons (eVar 3) (aNil)))) (eSl (eVar 8) (oSome (eVar 9)) (oNone))) (eFn 2 (m__law_pick) (aCons (eVar 0) (aCons (eLst (aCons (eLst (aNil)) (aCons (eLst (aCons (eC .non) (aNil))) (aCons (eLst (aCons (eVar 3) (aNil))) (aNil))))) (aNil)))))) (sSeq (sSet 10 (eOfF (fLc (iEnumT (aCons (eVar 6) (aNil))) (tTupG 2 (tgCons (tName 12) (tgCons (tName 13) (tgNil)))) (ci__law_refusals_0) (ce__law_refusals_0) [12, 13]))) (sSeq (sFor (iSeq (eLst (aCons (eLam 0 (V.M 0 nn 0)) (aCons (eLam 1 (V.M 0 nn 1)) (aNil))))) (tName 11) ((lb__law_refusals_0 V nn))) (sRet (eC (.bl true))))))))))))))
noncomputable abbrev m__law_refusals (V : Ax) : Fn := fnOfN 14 (b__law_refusals V)
def b__law_put : Sv := sRet (eBin dAdd (eBin dAdd (eSl (eVar 0) (oNone) (oSome (eVar 1))) (eTup (aCons (eVar 2) (aNil)))) (eSl (eVar 0) (oSome (eBin dAdd (eVar 1) (eC (.int 1)))) (oNone)))
abbrev m__law_put : Fn := fnOf 3 (b__law_put)
def b__law_bad_number : Sv := sRet (eFn 2 (m__law_pick) (aCons (eVar 0) (aCons (eLst (aCons (eC .non) (aCons (eC (.str "0")) (aCons (eTup (aCons (eC (.int 0)) (aNil))) (aCons (eLst (aCons (eC (.int 0)) (aNil))) (aCons (eUn dNeg (eC (.int 1))) (aCons (eVar 1) (aCons (eBin dAdd (eVar 1) (eC (.int 7))) (aCons (eC (.bl true)) (aCons (eC (.bl false)) (aCons ((fun _ => M.ret (.dat (.dic [])))) (aNil)))))))))))) (aNil))))
abbrev m__law_bad_number : Fn := fnOf 2 (b__law_bad_number)
def b__law_odd_move : Sv := sSeq (sPar 2 3 (aCons (eFn 2 (m__law_a_move) (aCons (eVar 0) (aCons (eVar 1) (aNil)))) (aCons (eFn 2 (m__law_draw) (aCons (eVar 0) (aCons (eC (.int 15)) (aNil)))) (aNil)))) (sSeq (sPar 4 5 (aCons (eFn 2 (m__law_draw) (aCons (eVar 0) (aCons (eVar 1) (aNil)))) (aCons (eFn 2 (m__law_draw) (aCons (eVar 0) (aCons (eC (.int 4)) (aNil)))) (aNil)))) (sSeq (sIf (tCmpE (eBin (dI0 fun i j => .bl (decide (i < j))) (eVar 3) (eC (.int 3)))) (sRet (eIx (eLst (aCons (eCall oListOf (aCons (eVar 2) (aNil))) (aCons (eBin dAdd (eVar 2) (eTup (aCons (eC (.int 0)) (aNil)))) (aCons (eSl (eVar 2) (oNone) (oSome (eC (.int 1)))) (aNil))))) (eVar 3))) (sNil)) (sSeq (sIf (tCmpE (eEqC false (eVar 3) (eC (.int 3)))) (sRet (eFn 3 (m__law_put) (aCons (eVar 2) (aCons (eFn 2 (m__law_draw) (aCons (eVar 0) (aCons (eCall oLen (aCons (eVar 2) (aNil))) (aNil)))) (aCons (eFn 2 (m__law_bad_number) (aCons (eVar 0) (aCons (eVar 1) (aNil)))) (aNil)))))) (sNil)) (sSeq (sIf (tCmpE (eEqC false (eVar 3) (eC (.int 4)))) (sRet (eFn 3 (m__law_put) (aCons (eVar 2) (aCons (eC (.int 0)) (aCons (eFn 2 (m__law_pick) (aCons (eVar 0) (aCons (eLst (aCons (eC (.str "trade")) (aCons (eC (.str "lean")) (aCons (eC (.str "swap")) (aCons (eC (.str "turn")) (aCons (eC (.str "Swap")) (aCons (eC (.str "")) (aCons (eC .non) (aCons (eC (.int 0)) (aCons (eTup (aCons (eC (.str "swap")) (aNil))) (aNil))))))))))) (aNil)))) (aNil)))))) (sNil)) (sSeq (sIf (tCmpE (eEqC false (eVar 3) (eC (.int 5)))) (sRet (eTup (aCons (eFn 2 (m__law_pick) (aCons (eVar 0) (aCons (eLst (aCons (eC (.str "trade")) (aCons (eC (.str "lean")) (aNil)))) (aNil)))) (aCons (eVar 4) (aCons (eVar 4) (aNil)))))) (sNil)) (sSeq (sIf (tCmpE (eEqC false (eVar 3) (eC (.int 6)))) (sRet (eIf (tCmpE (eEqC false (eCall oLen (aCons (eVar 2) (aNil))) (eC (.int 2)))) (eVar 2) (eTup (aCons (eIx (eVar 2) (eC (.int 0))) (aCons (eIx (eVar 2) (eC (.int 2))) (aCons (eIx (eVar 2) (eC (.int 1))) (aNil))))))) (sNil)) (sSeq (sIf (tCmpE (eEqC false (eVar 3) (eC (.int 7)))) (sSeq (sSet 6 (eIx (eFn 2 (m__law_word) (aCons (eVar 0) (aCons (eVar 1) (aNil)))) (eC (.int 1)))) (sRet (eTup (aCons (eC (.str "turn")) (aCons (eIx (eLst (aCons (eBin dAdd (eVar 6) (eC (.str "1"))) (aCons (eSl (eVar 6) (oSome (eC (.int 1))) (oNone)) (aCons (eFn 3 (m__law_lettered) (aCons (eVar 6) (aCons (eVar 4) (aCons (eC (.str "d")) (aNil))))) (aCons (eCall oListOf (aCons (eVar 6) (aNil))) (aNil)))))) (eVar 5)) (aNil)))))) (sNil)) (sSeq (sIf (tCmpE (eEqC false (eVar 3) (eC (.int 8)))) (sRet (eTup (aCons (eC (.str "turn")) (aCons (eFn 2 (m__law_word) (aCons (eVar 0) (aCons (eVar 1) (aNil)))) (aNil))))) (sNil)) (sSeq (sIf (tCmpE (eEqC false (eVar 3) (eC (.int 9)))) (sRet (eFn 2 (m__law_a_move) (aCons (eVar 0) (aCons (eBin dAdd (eC (.int 1)) (eFn 2 (m__law_draw) (aCons (eVar 0) (aCons (eC (.int 12)) (aNil))))) (aNil))))) (sNil)) (sSeq (sIf (tCmpE (eEqC false (eVar 3) (eC (.int 10)))) (sRet (eFn 2 (m__law_pick) (aCons (eVar 0) (aCons (eLst (aCons (eC .non) (aCons (eC (.int 5)) (aCons (eC (.str "swap")) (aCons (eTup (aCons (eC (.str "swap")) (aNil))) (aCons (eTup (aNil)) (aCons (eLst (aNil)) (aCons ((fun _ => M.ret (.dat (.dic [])))) (aCons (eC (.bl true)) (aCons (eTup (aCons (eC (.int 1)) (aCons (eC (.str "a")) (aNil)))) (aCons (eTup (aCons (eC (.int 0)) (aCons (eC (.int 1)) (aNil)))) (aCons (eTup (aCons (eC (.str "lean")) (aCons (eC (.int 0)) (aCons (eC (.int 1)) (aCons (eC (.int 2)) (aNil)))))) (aNil))))))))))))) (aNil))))) (sNil)) (sRet (eVar 2))))))))))))
abbrev m__law_odd_move : Fn := fnOf 7 (b__law_odd_move)
def lb_law_v42_0 (V : Ax) : Sv := sIf (tNot' (tTru (eFn 4 (m__law_refusals V) (aCons (eVar 1) (aCons (eVar 3) (aCons (eVar 4) (aCons (eFn 2 (m__law_odd_move) (aCons (eVar 1) (aCons (eVar 3) (aNil)))) (aNil)))))))) (sRet (eC (.bl false))) (sNil)
noncomputable def lb_law_v42_1 (V : Ax) (nn : Nat) : Sv := sSeq (sSet 8 (eLamV V.L 7 [(0, V.M 1 nn 0, eFn 2 (m_led_v3) (aCons (eVar 4) (aCons (eVar 6) (aNil)))), (1, V.M 1 nn 1, eFn 2 (m_frame_of) (aCons (eVar 3) (aCons (eVar 6) (aNil)))), (2, V.M 1 nn 2, eFn 2 (m_is_move) (aCons (eVar 9) (aCons (eTup (aCons (eC (.str "swap")) (aCons (eC (.int 0)) (aNil)))) (aNil)))), (3, V.M 1 nn 3, eFn 2 (m_frame_of) (aCons (eVar 9) (aCons (eVar 6) (aNil))))])) (sIf (tOr' (tNot' (tTru (eCall (oIsXD V.K (V.L.map (·.2))) (aCons (eVar 8) (aCons (eC (.op (.ref (V.A 19)))) (aNil)))))) (tCmpE (eBin dNotN (eXf [V.A 19] "at" (eVar 8)) (eC .non)))) (sRet (eC (.bl false))) (sNil))
noncomputable def lb_law_v42_2 (V : Ax) (nn : Nat) : Sv := sIf (tNot' (tTru (eCall (oIsXD V.K (V.L.map (·.2))) (aCons (eLamV V.L 7 [(0, V.M 1 nn 0, eFn 2 (m_led_v3) (aCons (eVar 4) (aCons (eVar 6) (aNil)))), (1, V.M 1 nn 1, eFn 2 (m_frame_of) (aCons (eVar 3) (aCons (eVar 6) (aNil)))), (2, V.M 1 nn 2, eFn 2 (m_is_move) (aCons (eVar 9) (aCons (eTup (aCons (eC (.str "swap")) (aCons (eC (.int 0)) (aNil)))) (aNil)))), (3, V.M 1 nn 3, eFn 2 (m_frame_of) (aCons (eVar 9) (aCons (eVar 6) (aNil))))]) (aCons (eC (.op (.ref (V.A 12)))) (aNil)))))) (sRet (eC (.bl false))) (sNil)
noncomputable def lb_law_v42_3 (V : Ax) (nn : Nat) : Sv := sSeq (sSet 3 (eBin dAdd (eC (.int 1)) (eFn 2 (m__law_draw) (aCons (eVar 1) (aCons (eC (.int 12)) (aNil)))))) (sSeq (sSet 4 (eFn 3 (m__law_several) (aCons (eVar 1) (aCons (eVar 3) (aCons (eBin dAdd (eC (.int 1)) (eFn 2 (m__law_draw) (aCons (eVar 1) (aCons (eC (.int 5)) (aNil))))) (aNil)))))) (sSeq (sFor (iRg1 (aCons (eC (.int 4)) (aNil))) (tName 5) ((lb_law_v42_0 V))) (sSeq (sSet 6 (eFn 2 (m__law_pick) (aCons (eVar 1) (aCons (eLst (aCons (eC .non) (aCons (eC (.int 5)) (aCons (eC (.str "swap")) (aCons ((fun _ => M.ret (.dat (.dic [])))) (aCons (eDic [(.inl 0, eTup (aCons (eC (.str "swap")) (aCons (eC (.int 0)) (aNil))))]) (aCons (eC (.bl true)) (aNil)))))))) (aNil))))) (sSeq (sFor (iSeq (eLst (aCons (eLam 0 (V.M 1 nn 0)) (aCons (eLam 1 (V.M 1 nn 1)) (aNil))))) (tName 7) ((lb_law_v42_1 V nn))) (sSeq (sSet 9 (eFn 2 (m__law_pick) (aCons (eVar 1) (aCons (eLst (aCons (eC .non) (aCons (eC (.str "3")) (aCons (eC (.int 0)) (aCons (eUn dNeg (eC (.int 1))) (aCons (eC (.int 13)) (aCons (eC (.int 100)) (aCons (eC (.bl true)) (aCons (eC (.bl false)) (aCons (eTup (aCons (eC (.int 3)) (aNil))) (aCons (eLst (aCons (eC (.int 3)) (aNil))) (aNil)))))))))))) (aNil))))) (sFor (iSeq (eLst (aCons (eLam 2 (V.M 1 nn 2)) (aCons (eLam 3 (V.M 1 nn 3)) (aNil))))) (tName 7) ((lb_law_v42_2 V nn))))))))
noncomputable def b_law_v42 (V : Ax) (nn : Nat) : Sv := sSeq (sSet 1 (eFn 1 (m__law_begun) (aCons (eVar 0) (aNil)))) (sSeq (sFor (iRg1 (aCons (eBin dAdd (eC (.int 2)) (eCall (o2 dMin2) (aCons (eCall oLen (aCons (eVar 0) (aNil))) (aCons (eC (.int 4)) (aNil))))) (aNil))) (tName 2) ((lb_law_v42_3 V nn))) (sRet (eC (.bl true))))
noncomputable abbrev m_law_v42 (V : Ax) : Fn := fnOfT 10 (b_law_v42 V)
/-- what is known of the classes -/
structure AxF_k11 (V : Ax) : Prop where
  lk_BadLength : V.L.lookup ("BadLength" : Str) = some (V.A 12)
  mm_BadLength : V.A 12 ∈ V.L.map (·.2)
  lk_BadWords : V.L.lookup ("BadWords" : Str) = some (V.A 37)
  mm_BadWords : V.A 37 ∈ V.L.map (·.2)
  lk_BadMove : V.L.lookup ("BadMove" : Str) = some (V.A 18)
  mm_BadMove : V.A 18 ∈ V.L.map (·.2)
  lk_BadMoves : V.L.lookup ("BadMoves" : Str) = some (V.A 19)
  mm_BadMoves : V.A 19 ∈ V.L.map (·.2)
  i_BadWords_BadWords : PySem.W.kitOne V.K (.ref (V.A 37)) (.ref (V.A 37)) = some true
  i_BadMove_BadMove : PySem.W.kitOne V.K (.ref (V.A 18)) (.ref (V.A 18)) = some true
  i_BadMoves_BadMoves : PySem.W.kitOne V.K (.ref (V.A 19)) (.ref (V.A 19)) = some true
  i_BadLength_BadLength : PySem.W.kitOne V.K (.ref (V.A 12)) (.ref (V.A 12)) = some true
  i_BadMoves_BadLength : PySem.W.kitOne V.K (.ref (V.A 19)) (.ref (V.A 12)) = some false
end
end DX
namespace DX
open PySem PySem.Spec PyProof.Rows L2
def topS (i : Nat) : Stmt := PySem.Challenge.pw_leftminus_k11_what_is_no_move.main.body.getD i (.Pass ⟨0, 0, 0, 0⟩)
abbrev s__law_begun : Stmt := topS 48
theorem sc__law_begun : FnScope ["_law_script", "_law_cells_here", "_law_large", "_law_cell"] ["_law_script"] (defScope s__law_begun) := ⟨rfl, rfl, rfl, by decide +kernel, rfl, by decide +kernel, by decide +kernel⟩
abbrev s__law_draw : Stmt := topS 49
theorem sc__law_draw : FnScope ["_law_state", "_law_size_here", "_law_found", "_law_turn", "_law_cell", "_law_mixed"] ["_law_state", "_law_size_here"] (defScope s__law_draw) := ⟨rfl, rfl, rfl, by decide +kernel, rfl, by decide +kernel, by decide +kernel⟩
abbrev s__law_two : Stmt := topS 55
theorem sc__law_two : FnScope ["_law_one", "_law_other", "_law_sign", "_law_letters_here", "_law_first", "_law_second", "_law_here", "_law_there"] ["_law_one", "_law_other"] (defScope s__law_two) := ⟨rfl, rfl, rfl, by decide +kernel, rfl, by decide +kernel, by decide +kernel⟩
abbrev s__law_row_of : Stmt := topS 56
theorem sc__law_row_of : FnScope ["_law_several_here", "_law_found", "_law_each"] ["_law_several_here"] (defScope s__law_row_of) := ⟨rfl, rfl, rfl, by decide +kernel, rfl, by decide +kernel, by decide +kernel⟩
abbrev s__law_pick : Stmt := topS 50
theorem sc__law_pick : FnScope ["_law_state", "_law_several_here"] ["_law_state", "_law_several_here"] (defScope s__law_pick) := ⟨rfl, rfl, rfl, by decide +kernel, rfl, by decide +kernel, by decide +kernel⟩
abbrev s__law_nothing : Stmt := topS 57
theorem sc__law_nothing : FnScope ["_law_size_here", "_law_sign"] ["_law_size_here", "_law_sign"] (defScope s__law_nothing) := ⟨rfl, rfl, rfl, by decide +kernel, rfl, by decide +kernel, by decide +kernel⟩
abbrev s__law_word : Stmt := topS 59
theorem sc__law_word : FnScope ["_law_state", "_law_size_here", "_law_letters_here", "_law_lap"] ["_law_state", "_law_size_here"] (defScope s__law_word) := ⟨rfl, rfl, rfl, by decide +kernel, rfl, by decide +kernel, by decide +kernel⟩
abbrev s__law_turner : Stmt := topS 60
theorem sc__law_turner : FnScope ["_law_state", "_law_size_here", "_law_sign", "_law_letters_here", "_law_spot"] ["_law_state", "_law_size_here"] (defScope s__law_turner) := ⟨rfl, rfl, rfl, by decide +kernel, rfl, by decide +kernel, by decide +kernel⟩
abbrev s__law_several : Stmt := topS 68
theorem sc__law_several : FnScope ["_law_state", "_law_size_here", "_law_many", "_law_found", "_law_lap", "_law_fashion", "_law_sign", "_law_letters_here", "_law_step"] ["_law_state", "_law_size_here", "_law_many"] (defScope s__law_several) := ⟨rfl, rfl, rfl, by decide +kernel, rfl, by decide +kernel, by decide +kernel⟩
abbrev s__law_caught : Stmt := topS 51
theorem sc__law_caught : FnScope ["_law_work", "_law_caught_here", "error"] ["_law_work"] (defScope s__law_caught) := ⟨rfl, rfl, rfl, by decide +kernel, rfl, by decide +kernel, by decide +kernel⟩
abbrev s_is_number : Stmt := topS 1
theorem sc_is_number : FnScope ["thing"] ["thing"] (defScope s_is_number) := ⟨rfl, rfl, rfl, by decide +kernel, rfl, by decide +kernel, by decide +kernel⟩
abbrev s_is_between : Stmt := topS 2
theorem sc_is_between : FnScope ["thing", "least", "most"] ["thing", "least", "most"] (defScope s_is_between) := ⟨rfl, rfl, rfl, by decide +kernel, rfl, by decide +kernel, by decide +kernel⟩
abbrev s_need_length : Stmt := topS 30
theorem sc_need_length : FnScope ["length"] ["length"] (defScope s_need_length) := ⟨rfl, rfl, rfl, by decide +kernel, rfl, by decide +kernel, by decide +kernel⟩
abbrev s_is_letters : Stmt := topS 31
theorem sc_is_letters : FnScope ["length", "thing", "letter"] ["length", "thing"] (defScope s_is_letters) := ⟨rfl, rfl, rfl, by decide +kernel, rfl, by decide +kernel, by decide +kernel⟩
abbrev s_is_move_of : Stmt := topS 32
theorem sc_is_move_of : FnScope ["length", "thing", "place"] ["length", "thing"] (defScope s_is_move_of) := ⟨rfl, rfl, rfl, by decide +kernel, rfl, by decide +kernel, by decide +kernel⟩
abbrev s_is_move : Stmt := topS 33
theorem sc_is_move : FnScope ["length", "thing"] ["length", "thing"] (defScope s_is_move) := ⟨rfl, rfl, rfl, by decide +kernel, rfl, by decide +kernel, by decide +kernel⟩
abbrev s__law_a_move : Stmt := topS 66
theorem sc__law_a_move : FnScope ["_law_state", "_law_size_here", "_law_fashion", "_law_spot", "_law_other"] ["_law_state", "_law_size_here"] (defScope s__law_a_move) := ⟨rfl, rfl, rfl, by decide +kernel, rfl, by decide +kernel, by decide +kernel⟩
abbrev s__law_some_moves : Stmt := topS 67
theorem sc__law_some_moves : FnScope ["_law_state", "_law_size_here", "_law_most", "_law_lap"] ["_law_state", "_law_size_here", "_law_most"] (defScope s__law_some_moves) := ⟨rfl, rfl, rfl, by decide +kernel, rfl, by decide +kernel, by decide +kernel⟩
abbrev s__law_is_whole : Stmt := topS 52
theorem sc__law_is_whole : FnScope ["_law_item"] ["_law_item"] (defScope s__law_is_whole) := ⟨rfl, rfl, rfl, by decide +kernel, rfl, by decide +kernel, by decide +kernel⟩
abbrev s__law_is_below : Stmt := topS 53
theorem sc__law_is_below : FnScope ["_law_item", "_law_size_here"] ["_law_item", "_law_size_here"] (defScope s__law_is_below) := ⟨rfl, rfl, rfl, by decide +kernel, rfl, by decide +kernel, by decide +kernel⟩
abbrev s__law_is_letters : Stmt := topS 64
theorem sc__law_is_letters : FnScope ["_law_item", "_law_size_here", "_law_each"] ["_law_item", "_law_size_here"] (defScope s__law_is_letters) := ⟨rfl, rfl, rfl, by decide +kernel, rfl, by decide +kernel, by decide +kernel⟩
abbrev s__law_is_move : Stmt := topS 65
theorem sc__law_is_move : FnScope ["_law_size_here", "_law_item"] ["_law_size_here", "_law_item"] (defScope s__law_is_move) := ⟨rfl, rfl, rfl, by decide +kernel, rfl, by decide +kernel, by decide +kernel⟩
abbrev s__law_bad_word : Stmt := topS 61
theorem sc__law_bad_word : FnScope ["_law_state", "_law_bad"] ["_law_state"] (defScope s__law_bad_word) := ⟨rfl, rfl, rfl, by decide +kernel, rfl, by decide +kernel, by decide +kernel⟩
abbrev s__law_bad_words : Stmt := topS 69
theorem sc__law_bad_words : FnScope ["_law_state", "_law_several_here", "_law_fashion"] ["_law_state", "_law_several_here"] (defScope s__law_bad_words) := ⟨rfl, rfl, rfl, by decide +kernel, rfl, by decide +kernel, by decide +kernel⟩
abbrev s__law_says : Stmt := topS 58
theorem sc__law_says : FnScope ["_law_found", "_law_due"] ["_law_found", "_law_due"] (defScope s__law_says) := ⟨rfl, rfl, rfl, by decide +kernel, rfl, by decide +kernel, by decide +kernel⟩
abbrev s_is_row : Stmt := topS 4
theorem sc_is_row : FnScope ["thing"] ["thing"] (defScope s_is_row) := ⟨rfl, rfl, rfl, by decide +kernel, rfl, by decide +kernel, by decide +kernel⟩
abbrev s_is_sign : Stmt := topS 3
theorem sc_is_sign : FnScope ["thing"] ["thing"] (defScope s_is_sign) := ⟨rfl, rfl, rfl, by decide +kernel, rfl, by decide +kernel, by decide +kernel⟩
abbrev s_is_word : Stmt := topS 18
theorem sc_is_word : FnScope ["thing", "letters", "one"] ["thing"] (defScope s_is_word) := ⟨rfl, rfl, rfl, by decide +kernel, rfl, by decide +kernel, by decide +kernel⟩
abbrev s_need_words : Stmt := topS 19
theorem sc_need_words : FnScope ["words", "word"] ["words"] (defScope s_need_words) := ⟨rfl, rfl, rfl, by decide +kernel, rfl, by decide +kernel, by decide +kernel⟩
abbrev s_is_odd : Stmt := topS 12
theorem sc_is_odd : FnScope ["mask", "odd"] ["mask"] (defScope s_is_odd) := ⟨rfl, rfl, rfl, by decide +kernel, rfl, by decide +kernel, by decide +kernel⟩
abbrev s_is_crossed : Stmt := topS 22
theorem sc_is_crossed : FnScope ["one", "other"] ["one", "other"] (defScope s_is_crossed) := ⟨rfl, rfl, rfl, by decide +kernel, rfl, by decide +kernel, by decide +kernel⟩
abbrev s_is_past : Stmt := topS 23
theorem sc_is_past : FnScope ["one", "other"] ["one", "other"] (defScope s_is_past) := ⟨rfl, rfl, rfl, by decide +kernel, rfl, by decide +kernel, by decide +kernel⟩
abbrev s_code_of : Stmt := topS 20
theorem sc_code_of : FnScope ["word", "at", "letter"] ["word"] (defScope s_code_of) := ⟨rfl, rfl, rfl, by decide +kernel, rfl, by decide +kernel, by decide +kernel⟩
abbrev s_past_of : Stmt := topS 26
theorem sc_past_of : FnScope ["one", "other"] ["one", "other"] (defScope s_past_of) := ⟨rfl, rfl, rfl, by decide +kernel, rfl, by decide +kernel, by decide +kernel⟩
abbrev s_turned : Stmt := topS 39
theorem sc_turned : FnScope ["word", "letters"] ["word", "letters"] (defScope s_turned) := ⟨rfl, rfl, rfl, by decide +kernel, rfl, by decide +kernel, by decide +kernel⟩
abbrev s_with_letter : Stmt := topS 35
theorem sc_with_letter : FnScope ["letters", "place", "letter"] ["letters", "place", "letter"] (defScope s_with_letter) := ⟨rfl, rfl, rfl, by decide +kernel, rfl, by decide +kernel, by decide +kernel⟩
abbrev s_letter_swapped : Stmt := topS 36
theorem sc_letter_swapped : FnScope ["word", "place", "sign", "letters", "letter"] ["word", "place"] (defScope s_letter_swapped) := ⟨rfl, rfl, rfl, by decide +kernel, rfl, by decide +kernel, by decide +kernel⟩
abbrev s_traded : Stmt := topS 37
theorem sc_traded : FnScope ["word", "place", "second", "sign", "letters"] ["word", "place", "second"] (defScope s_traded) := ⟨rfl, rfl, rfl, by decide +kernel, rfl, by decide +kernel, by decide +kernel⟩
abbrev s_letters_of : Stmt := topS 21
theorem sc_letters_of : FnScope ["code", "length", "at"] ["code", "length"] (defScope s_letters_of) := ⟨rfl, rfl, rfl, by decide +kernel, rfl, by decide +kernel, by decide +kernel⟩
abbrev s_put_of : Stmt := topS 24
theorem sc_put_of : FnScope ["one", "other", "first", "second", "sign"] ["one", "other"] (defScope s_put_of) := ⟨rfl, rfl, rfl, by decide +kernel, rfl, by decide +kernel, by decide +kernel⟩
abbrev s_sign_and_letter : Stmt := topS 25
theorem sc_sign_and_letter : FnScope ["one", "other"] ["one", "other"] (defScope s_sign_and_letter) := ⟨rfl, rfl, rfl, by decide +kernel, rfl, by decide +kernel, by decide +kernel⟩
abbrev s_leaned : Stmt := topS 38
theorem sc_leaned : FnScope ["word", "place", "second", "sign", "letters", "ahead", "behind", "own", "here", "other", "there"] ["word", "place", "second"] (defScope s_leaned) := ⟨rfl, rfl, rfl, by decide +kernel, rfl, by decide +kernel, by decide +kernel⟩
abbrev s_moved_word : Stmt := topS 40
theorem sc_moved_word : FnScope ["word", "move"] ["word", "move"] (defScope s_moved_word) := ⟨rfl, rfl, rfl, by decide +kernel, rfl, by decide +kernel, by decide +kernel⟩
abbrev s_led_of : Stmt := topS 41
theorem sc_led_of : FnScope ["words", "moves", "found", "move", "word"] ["words", "moves"] (defScope s_led_of) := ⟨rfl, rfl, rfl, by decide +kernel, rfl, by decide +kernel, by decide +kernel⟩
abbrev s_moved : Stmt := topS 42
theorem sc_moved : FnScope ["words", "move"] ["words", "move"] (defScope s_moved) := ⟨rfl, rfl, rfl, by decide +kernel, rfl, by decide +kernel, by decide +kernel⟩
abbrev s_need_moves : Stmt := topS 34
theorem sc_need_moves : FnScope ["length", "moves", "at", "move"] ["length", "moves"] (defScope s_need_moves) := ⟨rfl, rfl, rfl, by decide +kernel, rfl, by decide +kernel, by decide +kernel⟩
abbrev s_led : Stmt := topS 43
theorem sc_led : FnScope ["words", "moves"] ["words", "moves"] (defScope s_led) := ⟨rfl, rfl, rfl, by decide +kernel, rfl, by decide +kernel, by decide +kernel⟩
abbrev s_plain_of : Stmt := topS 45
theorem sc_plain_of : FnScope ["length", "spots", "place", "letter"] ["length"] (defScope s_plain_of) := ⟨rfl, rfl, rfl, by decide +kernel, rfl, by decide +kernel, by decide +kernel⟩
abbrev s_frame_of : Stmt := topS 46
theorem sc_frame_of : FnScope ["length", "moves"] ["length", "moves"] (defScope s_frame_of) := ⟨rfl, rfl, rfl, by decide +kernel, rfl, by decide +kernel, by decide +kernel⟩
abbrev s__law_refusals : Stmt := topS 71
theorem sc__law_refusals : FnScope ["_law_state", "_law_size_here", "_law_several_here", "_law_thing", "_law_sound", "_law_bad", "_law_told", "_law_caught_here", "_law_moves_here", "_law_spot", "_law_wrong", "_law_work", "_law_at", "_law_each"] ["_law_state", "_law_size_here", "_law_several_here", "_law_thing"] (defScope s__law_refusals) := ⟨rfl, rfl, rfl, by decide +kernel, rfl, by decide +kernel, by decide +kernel⟩
abbrev s__law_put : Stmt := topS 54
theorem sc__law_put : FnScope ["_law_row", "_law_spot", "_law_item"] ["_law_row", "_law_spot", "_law_item"] (defScope s__law_put) := ⟨rfl, rfl, rfl, by decide +kernel, rfl, by decide +kernel, by decide +kernel⟩
abbrev s__law_bad_number : Stmt := topS 62
theorem sc__law_bad_number : FnScope ["_law_state", "_law_size_here"] ["_law_state", "_law_size_here"] (defScope s__law_bad_number) := ⟨rfl, rfl, rfl, by decide +kernel, rfl, by decide +kernel, by decide +kernel⟩
abbrev s__law_lettered : Stmt := topS 63
theorem sc__law_lettered : FnScope ["_law_letters_here", "_law_spot", "_law_letter"] ["_law_letters_here", "_law_spot", "_law_letter"] (defScope s__law_lettered) := ⟨rfl, rfl, rfl, by decide +kernel, rfl, by decide +kernel, by decide +kernel⟩
abbrev s__law_odd_move : Stmt := topS 70
theorem sc__law_odd_move : FnScope ["_law_state", "_law_size_here", "_law_move", "_law_fashion", "_law_spot", "_law_near", "_law_told"] ["_law_state", "_law_size_here"] (defScope s__law_odd_move) := ⟨rfl, rfl, rfl, by decide +kernel, rfl, by decide +kernel, by decide +kernel⟩
abbrev s_law : Stmt := topS 72
theorem sc_law : FnScope ["_law_script", "_law_state", "_law_turn", "_law_size_here", "_law_several_here", "_law_lap", "_law_none", "_law_work", "_law_caught_here", "_law_wide"] ["_law_script"] (defScope s_law) := ⟨rfl, rfl, rfl, by decide +kernel, rfl, by decide +kernel, by decide +kernel⟩
set_option genInjectivity false
set_option genSizeOf false
structure Top (K : Frag) (mg : MG) (w : World) (P : Program) where
  f__law_begun : Addr
  d__law_begun : FuncData
  F__law_begun : Fun K "_law_begun" "_law_begun" s__law_begun f__law_begun d__law_begun
  m__law_begun : mg "_law_begun" = some (.ref f__law_begun)
  b__law_begun : L2.Binds K d__law_begun ["_law_script"] []
  f__law_draw : Addr
  d__law_draw : FuncData
  F__law_draw : Fun K "_law_draw" "_law_draw" s__law_draw f__law_draw d__law_draw
  m__law_draw : mg "_law_draw" = some (.ref f__law_draw)
  b__law_draw : L2.Binds K d__law_draw ["_law_state", "_law_size_here"] []
  f__law_two : Addr
  d__law_two : FuncData
  F__law_two : Fun K "_law_two" "_law_two" s__law_two f__law_two d__law_two
  m__law_two : mg "_law_two" = some (.ref f__law_two)
  b__law_two : L2.Binds K d__law_two ["_law_one", "_law_other"] []
  f__law_row_of : Addr
  d__law_row_of : FuncData
  F__law_row_of : Fun K "_law_row_of" "_law_row_of" s__law_row_of f__law_row_of d__law_row_of
  m__law_row_of : mg "_law_row_of" = some (.ref f__law_row_of)
  b__law_row_of : L2.Binds K d__law_row_of ["_law_several_here"] []
  f__law_pick : Addr
  d__law_pick : FuncData
  F__law_pick : Fun K "_law_pick" "_law_pick" s__law_pick f__law_pick d__law_pick
  m__law_pick : mg "_law_pick" = some (.ref f__law_pick)
  b__law_pick : L2.Binds K d__law_pick ["_law_state", "_law_several_here"] []
  f__law_nothing : Addr
  d__law_nothing : FuncData
  F__law_nothing : Fun K "_law_nothing" "_law_nothing" s__law_nothing f__law_nothing d__law_nothing
  m__law_nothing : mg "_law_nothing" = some (.ref f__law_nothing)
  b__law_nothing : L2.Binds K d__law_nothing ["_law_size_here", "_law_sign"] []
  f__law_word : Addr
  d__law_word : FuncData
  F__law_word : Fun K "_law_word" "_law_word" s__law_word f__law_word d__law_word
  m__law_word : mg "_law_word" = some (.ref f__law_word)
  b__law_word : L2.Binds K d__law_word ["_law_state", "_law_size_here"] []
  f__law_turner : Addr
  d__law_turner : FuncData
  F__law_turner : Fun K "_law_turner" "_law_turner" s__law_turner f__law_turner d__law_turner
  m__law_turner : mg "_law_turner" = some (.ref f__law_turner)
  b__law_turner : L2.Binds K d__law_turner ["_law_state", "_law_size_here"] []
  f__law_several : Addr
  d__law_several : FuncData
  F__law_several : Fun K "_law_several" "_law_several" s__law_several f__law_several d__law_several
  m__law_several : mg "_law_several" = some (.ref f__law_several)
  b__law_several : L2.Binds K d__law_several ["_law_state", "_law_size_here", "_law_many"] []
  f__law_caught : Addr
  d__law_caught : FuncData
  F__law_caught : Fun K "_law_caught" "_law_caught" s__law_caught f__law_caught d__law_caught
  m__law_caught : mg "_law_caught" = some (.ref f__law_caught)
  b__law_caught : L2.Binds K d__law_caught ["_law_work"] []
  f_is_number : Addr
  d_is_number : FuncData
  F_is_number : Fun K "is_number" "is_number" s_is_number f_is_number d_is_number
  m_is_number : mg "is_number" = some (.ref f_is_number)
  b_is_number : L2.Binds K d_is_number ["thing"] []
  f_is_between : Addr
  d_is_between : FuncData
  F_is_between : Fun K "is_between" "is_between" s_is_between f_is_between d_is_between
  m_is_between : mg "is_between" = some (.ref f_is_between)
  b_is_between : L2.Binds K d_is_between ["thing", "least", "most"] []
  f_need_length : Addr
  d_need_length : FuncData
  F_need_length : Fun K "need_length" "need_length" s_need_length f_need_length d_need_length
  m_need_length : mg "need_length" = some (.ref f_need_length)
  b_need_length : L2.Binds K d_need_length ["length"] []
  f_is_letters : Addr
  d_is_letters : FuncData
  F_is_letters : Fun K "is_letters" "is_letters" s_is_letters f_is_letters d_is_letters
  m_is_letters : mg "is_letters" = some (.ref f_is_letters)
  b_is_letters : L2.Binds K d_is_letters ["length", "thing"] []
  f_is_move_of : Addr
  d_is_move_of : FuncData
  F_is_move_of : Fun K "is_move_of" "is_move_of" s_is_move_of f_is_move_of d_is_move_of
  m_is_move_of : mg "is_move_of" = some (.ref f_is_move_of)
  b_is_move_of : L2.Binds K d_is_move_of ["length", "thing"] []
  f_is_move : Addr
  d_is_move : FuncData
  F_is_move : Fun K "is_move" "is_move" s_is_move f_is_move d_is_move
  m_is_move : mg "is_move" = some (.ref f_is_move)
  b_is_move : L2.Binds K d_is_move ["length", "thing"] []
  f__law_a_move : Addr
  d__law_a_move : FuncData
  F__law_a_move : Fun K "_law_a_move" "_law_a_move" s__law_a_move f__law_a_move d__law_a_move
  m__law_a_move : mg "_law_a_move" = some (.ref f__law_a_move)
  b__law_a_move : L2.Binds K d__law_a_move ["_law_state", "_law_size_here"] []
  f__law_some_moves : Addr
  d__law_some_moves : FuncData
  F__law_some_moves : Fun K "_law_some_moves" "_law_some_moves" s__law_some_moves f__law_some_moves d__law_some_moves
  m__law_some_moves : mg "_law_some_moves" = some (.ref f__law_some_moves)
  b__law_some_moves : L2.Binds K d__law_some_moves ["_law_state", "_law_size_here", "_law_most"] []
  f__law_is_whole : Addr
  d__law_is_whole : FuncData
  F__law_is_whole : Fun K "_law_is_whole" "_law_is_whole" s__law_is_whole f__law_is_whole d__law_is_whole
  m__law_is_whole : mg "_law_is_whole" = some (.ref f__law_is_whole)
  b__law_is_whole : L2.Binds K d__law_is_whole ["_law_item"] []
  f__law_is_below : Addr
  d__law_is_below : FuncData
  F__law_is_below : Fun K "_law_is_below" "_law_is_below" s__law_is_below f__law_is_below d__law_is_below
  m__law_is_below : mg "_law_is_below" = some (.ref f__law_is_below)
  b__law_is_below : L2.Binds K d__law_is_below ["_law_item", "_law_size_here"] []
  f__law_is_letters : Addr
  d__law_is_letters : FuncData
  F__law_is_letters : Fun K "_law_is_letters" "_law_is_letters" s__law_is_letters f__law_is_letters d__law_is_letters
  m__law_is_letters : mg "_law_is_letters" = some (.ref f__law_is_letters)
  b__law_is_letters : L2.Binds K d__law_is_letters ["_law_item", "_law_size_here"] []
  f__law_is_move : Addr
  d__law_is_move : FuncData
  F__law_is_move : Fun K "_law_is_move" "_law_is_move" s__law_is_move f__law_is_move d__law_is_move
  m__law_is_move : mg "_law_is_move" = some (.ref f__law_is_move)
  b__law_is_move : L2.Binds K d__law_is_move ["_law_size_here", "_law_item"] []
  f__law_bad_word : Addr
  d__law_bad_word : FuncData
  F__law_bad_word : Fun K "_law_bad_word" "_law_bad_word" s__law_bad_word f__law_bad_word d__law_bad_word
  m__law_bad_word : mg "_law_bad_word" = some (.ref f__law_bad_word)
  b__law_bad_word : L2.Binds K d__law_bad_word ["_law_state"] []
  f__law_bad_words : Addr
  d__law_bad_words : FuncData
  F__law_bad_words : Fun K "_law_bad_words" "_law_bad_words" s__law_bad_words f__law_bad_words d__law_bad_words
  m__law_bad_words : mg "_law_bad_words" = some (.ref f__law_bad_words)
  b__law_bad_words : L2.Binds K d__law_bad_words ["_law_state", "_law_several_here"] []
  f__law_says : Addr
  d__law_says : FuncData
  F__law_says : Fun K "_law_says" "_law_says" s__law_says f__law_says d__law_says
  m__law_says : mg "_law_says" = some (.ref f__law_says)
  b__law_says : L2.Binds K d__law_says ["_law_found", "_law_due"] []
  f_is_row : Addr
  d_is_row : FuncData
  F_is_row : Fun K "is_row" "is_row" s_is_row f_is_row d_is_row
  m_is_row : mg "is_row" = some (.ref f_is_row)
  b_is_row : L2.Binds K d_is_row ["thing"] []
  f_is_sign : Addr
  d_is_sign : FuncData
  F_is_sign : Fun K "is_sign" "is_sign" s_is_sign f_is_sign d_is_sign
  m_is_sign : mg "is_sign" = some (.ref f_is_sign)
  b_is_sign : L2.Binds K d_is_sign ["thing"] []
  f_is_word : Addr
  d_is_word : FuncData
  F_is_word : Fun K "is_word" "is_word" s_is_word f_is_word d_is_word
  m_is_word : mg "is_word" = some (.ref f_is_word)
  b_is_word : L2.Binds K d_is_word ["thing"] []
  f_need_words : Addr
  d_need_words : FuncData
  F_need_words : Fun K "need_words" "need_words" s_need_words f_need_words d_need_words
  m_need_words : mg "need_words" = some (.ref f_need_words)
  b_need_words : L2.Binds K d_need_words ["words"] []
  f_is_odd : Addr
  d_is_odd : FuncData
  F_is_odd : Fun K "is_odd" "is_odd" s_is_odd f_is_odd d_is_odd
  m_is_odd : mg "is_odd" = some (.ref f_is_odd)
  b_is_odd : L2.Binds K d_is_odd ["mask"] []
  f_is_crossed : Addr
  d_is_crossed : FuncData
  F_is_crossed : Fun K "is_crossed" "is_crossed" s_is_crossed f_is_crossed d_is_crossed
  m_is_crossed : mg "is_crossed" = some (.ref f_is_crossed)
  b_is_crossed : L2.Binds K d_is_crossed ["one", "other"] []
  f_is_past : Addr
  d_is_past : FuncData
  F_is_past : Fun K "is_past" "is_past" s_is_past f_is_past d_is_past
  m_is_past : mg "is_past" = some (.ref f_is_past)
  b_is_past : L2.Binds K d_is_past ["one", "other"] []
  f_code_of : Addr
  d_code_of : FuncData
  F_code_of : Fun K "code_of" "code_of" s_code_of f_code_of d_code_of
  m_code_of : mg "code_of" = some (.ref f_code_of)
  b_code_of : L2.Binds K d_code_of ["word"] []
  f_past_of : Addr
  d_past_of : FuncData
  F_past_of : Fun K "past_of" "past_of" s_past_of f_past_of d_past_of
  m_past_of : mg "past_of" = some (.ref f_past_of)
  b_past_of : L2.Binds K d_past_of ["one", "other"] []
  f_turned : Addr
  d_turned : FuncData
  F_turned : Fun K "turned" "turned" s_turned f_turned d_turned
  m_turned : mg "turned" = some (.ref f_turned)
  b_turned : L2.Binds K d_turned ["word", "letters"] []
  f_with_letter : Addr
  d_with_letter : FuncData
  F_with_letter : Fun K "with_letter" "with_letter" s_with_letter f_with_letter d_with_letter
  m_with_letter : mg "with_letter" = some (.ref f_with_letter)
  b_with_letter : L2.Binds K d_with_letter ["letters", "place", "letter"] []
  f_letter_swapped : Addr
  d_letter_swapped : FuncData
  F_letter_swapped : Fun K "letter_swapped" "letter_swapped" s_letter_swapped f_letter_swapped d_letter_swapped
  m_letter_swapped : mg "letter_swapped" = some (.ref f_letter_swapped)
  b_letter_swapped : L2.Binds K d_letter_swapped ["word", "place"] []
  f_traded : Addr
  d_traded : FuncData
  F_traded : Fun K "traded" "traded" s_traded f_traded d_traded
  m_traded : mg "traded" = some (.ref f_traded)
  b_traded : L2.Binds K d_traded ["word", "place", "second"] []
  f_letters_of : Addr
  d_letters_of : FuncData
  F_letters_of : Fun K "letters_of" "letters_of" s_letters_of f_letters_of d_letters_of
  m_letters_of : mg "letters_of" = some (.ref f_letters_of)
  b_letters_of : L2.Binds K d_letters_of ["code", "length"] []
  f_put_of : Addr
  d_put_of : FuncData
  F_put_of : Fun K "put_of" "put_of" s_put_of f_put_of d_put_of
  m_put_of : mg "put_of" = some (.ref f_put_of)
  b_put_of : L2.Binds K d_put_of ["one", "other"] []
  f_sign_and_letter : Addr
  d_sign_and_letter : FuncData
  F_sign_and_letter : Fun K "sign_and_letter" "sign_and_letter" s_sign_and_letter f_sign_and_letter d_sign_and_letter
  m_sign_and_letter : mg "sign_and_letter" = some (.ref f_sign_and_letter)
  b_sign_and_letter : L2.Binds K d_sign_and_letter ["one", "other"] []
  f_leaned : Addr
  d_leaned : FuncData
  F_leaned : Fun K "leaned" "leaned" s_leaned f_leaned d_leaned
  m_leaned : mg "leaned" = some (.ref f_leaned)
  b_leaned : L2.Binds K d_leaned ["word", "place", "second"] []
  f_moved_word : Addr
  d_moved_word : FuncData
  F_moved_word : Fun K "moved_word" "moved_word" s_moved_word f_moved_word d_moved_word
  m_moved_word : mg "moved_word" = some (.ref f_moved_word)
  b_moved_word : L2.Binds K d_moved_word ["word", "move"] []
  f_led_of : Addr
  d_led_of : FuncData
  F_led_of : Fun K "led_of" "led_of" s_led_of f_led_of d_led_of
  m_led_of : mg "led_of" = some (.ref f_led_of)
  b_led_of : L2.Binds K d_led_of ["words", "moves"] []
  f_moved : Addr
  d_moved : FuncData
  F_moved : Fun K "moved" "moved" s_moved f_moved d_moved
  m_moved : mg "moved" = some (.ref f_moved)
  b_moved : L2.Binds K d_moved ["words", "move"] []
  f_need_moves : Addr
  d_need_moves : FuncData
  F_need_moves : Fun K "need_moves" "need_moves" s_need_moves f_need_moves d_need_moves
  m_need_moves : mg "need_moves" = some (.ref f_need_moves)
  b_need_moves : L2.Binds K d_need_moves ["length", "moves"] []
  f_led : Addr
  d_led : FuncData
  F_led : Fun K "led" "led" s_led f_led d_led
  m_led : mg "led" = some (.ref f_led)
  b_led : L2.Binds K d_led ["words", "moves"] []
  f_plain_of : Addr
  d_plain_of : FuncData
  F_plain_of : Fun K "plain_of" "plain_of" s_plain_of f_plain_of d_plain_of
  m_plain_of : mg "plain_of" = some (.ref f_plain_of)
  b_plain_of : L2.Binds K d_plain_of ["length"] []
  f_frame_of : Addr
  d_frame_of : FuncData
  F_frame_of : Fun K "frame_of" "frame_of" s_frame_of f_frame_of d_frame_of
  m_frame_of : mg "frame_of" = some (.ref f_frame_of)
  b_frame_of : L2.Binds K d_frame_of ["length", "moves"] []
  f__law_refusals : Addr
  d__law_refusals : FuncData
  F__law_refusals : Fun K "_law_refusals" "_law_refusals" s__law_refusals f__law_refusals d__law_refusals
  m__law_refusals : mg "_law_refusals" = some (.ref f__law_refusals)
  b__law_refusals : L2.Binds K d__law_refusals ["_law_state", "_law_size_here", "_law_several_here", "_law_thing"] []
  f__law_put : Addr
  d__law_put : FuncData
  F__law_put : Fun K "_law_put" "_law_put" s__law_put f__law_put d__law_put
  m__law_put : mg "_law_put" = some (.ref f__law_put)
  b__law_put : L2.Binds K d__law_put ["_law_row", "_law_spot", "_law_item"] []
  f__law_bad_number : Addr
  d__law_bad_number : FuncData
  F__law_bad_number : Fun K "_law_bad_number" "_law_bad_number" s__law_bad_number f__law_bad_number d__law_bad_number
  m__law_bad_number : mg "_law_bad_number" = some (.ref f__law_bad_number)
  b__law_bad_number : L2.Binds K d__law_bad_number ["_law_state", "_law_size_here"] []
  f__law_lettered : Addr
  d__law_lettered : FuncData
  F__law_lettered : Fun K "_law_lettered" "_law_lettered" s__law_lettered f__law_lettered d__law_lettered
  m__law_lettered : mg "_law_lettered" = some (.ref f__law_lettered)
  b__law_lettered : L2.Binds K d__law_lettered ["_law_letters_here", "_law_spot", "_law_letter"] []
  f__law_odd_move : Addr
  d__law_odd_move : FuncData
  F__law_odd_move : Fun K "_law_odd_move" "_law_odd_move" s__law_odd_move f__law_odd_move d__law_odd_move
  m__law_odd_move : mg "_law_odd_move" = some (.ref f__law_odd_move)
  b__law_odd_move : L2.Binds K d__law_odd_move ["_law_state", "_law_size_here"] []
  f_law : Addr
  d_law : FuncData
  F_law : Fun K "law" "law" s_law f_law d_law
  m_law : mg "law" = some (.ref f_law)
  b_law : L2.Binds K d_law ["_law_script"] []
  C_TurnError : Addr
  M_TurnError : mg "TurnError" = some (.ref C_TurnError)
  q_TurnError : PySem.W.excIn K C_TurnError bmV newV = true
  k_TurnError : PySem.W.keepIn K (.ref C_TurnError) = true
  r_TurnError : PySem.W.subIn K (.ref C_TurnError) (.type "BaseException") = some true
  t_TurnError : PySem.W.typeIn K (.ref C_TurnError) = some (.type "type")
  X_TurnError : ExcC K C_TurnError
  C_BadLength : Addr
  M_BadLength : mg "BadLength" = some (.ref C_BadLength)
  q_BadLength : PySem.W.excIn K C_BadLength bmV newV = true
  k_BadLength : PySem.W.keepIn K (.ref C_BadLength) = true
  r_BadLength : PySem.W.subIn K (.ref C_BadLength) (.type "BaseException") = some true
  t_BadLength : PySem.W.typeIn K (.ref C_BadLength) = some (.type "type")
  X_BadLength : ExcC K C_BadLength
  C_BadWords : Addr
  M_BadWords : mg "BadWords" = some (.ref C_BadWords)
  q_BadWords : PySem.W.excIn K C_BadWords bmV newV = true
  k_BadWords : PySem.W.keepIn K (.ref C_BadWords) = true
  r_BadWords : PySem.W.subIn K (.ref C_BadWords) (.type "BaseException") = some true
  t_BadWords : PySem.W.typeIn K (.ref C_BadWords) = some (.type "type")
  X_BadWords : ExcC K C_BadWords
  C_BadMove : Addr
  M_BadMove : mg "BadMove" = some (.ref C_BadMove)
  q_BadMove : PySem.W.excIn K C_BadMove bmV newV = true
  k_BadMove : PySem.W.keepIn K (.ref C_BadMove) = true
  r_BadMove : PySem.W.subIn K (.ref C_BadMove) (.type "BaseException") = some true
  t_BadMove : PySem.W.typeIn K (.ref C_BadMove) = some (.type "type")
  X_BadMove : ExcC K C_BadMove
  C_BadMoves : Addr
  I_BadMoves : Addr
  M_BadMoves : mg "BadMoves" = some (.ref C_BadMoves)
  k_BadMoves : PySem.W.keepIn K (.ref C_BadMoves) = true
  X_BadMoves : ExcC K C_BadMoves
  Z_BadMoves : SX.Cls1 P K mg "BadMoves" "at" C_BadMoves I_BadMoves
  g_LETTERS : ∃ t, mg "LETTERS" = some (.str "1abc" t)
  g_MOST_LENGTH : ∃ t, mg "MOST_LENGTH" = some (.int 12 t)
  g_MOST_WORDS : ∃ t, mg "MOST_WORDS" = some (.int 15 t)
  g_A_FIGURES : ∃ t, mg "A_FIGURES" = some (.int 5592405 t)
  g_MOST_LETTERS : ∃ t, mg "MOST_LETTERS" = some (.int 12 t)
  a_SWAPPED : Addr
  M_SWAPPED : mg "SWAPPED" = some (.ref a_SWAPPED)
  kd_SWAPPED : ∀ z v, List.lookup z ([("1", "1"), ("a", "b"), ("b", "a"), ("c", "c")] : List (Str × Str)) = some v → KDct K w a_SWAPPED z (.str v)
  z_abs : mg "abs" = none
  z_all : mg "all" = none
  z_any : mg "any" = none
  z_bool : mg "bool" = none
  z_enumerate : mg "enumerate" = none
  z_int : mg "int" = none
  z_isinstance : mg "isinstance" = none
  z_len : mg "len" = none
  z_list : mg "list" = none
  z_max : mg "max" = none
  z_min : mg "min" = none
  z_range : mg "range" = none
  z_repr : mg "repr" = none
  z_str : mg "str" = none
  z_sum : mg "sum" = none
  z_tuple : mg "tuple" = none
  z_zip : mg "zip" = none
  c__law_refusals : Addr
  P__law_refusals : Addr
  e__law_refusals : d__law_refusals.code = .ref c__law_refusals
  c_law : Addr
  P_law : Addr
  e_law : d_law.code = .ref c_law
  pn__law_refusals_law : P__law_refusals ≠ P_law
  y_BadLength : PySem.W.exmOne K (.ref C_BadLength) (.ref C_TurnError) = some true
  y_BadWords : PySem.W.exmOne K (.ref C_BadWords) (.ref C_TurnError) = some true
  y_BadMove : PySem.W.exmOne K (.ref C_BadMove) (.ref C_TurnError) = some true
  y_BadMoves : PySem.W.exmOne K (.ref C_BadMoves) (.ref C_TurnError) = some true
set_option genInjectivity true
set_option genSizeOf true
def Top.caught {K : Frag} {mg : MG} {w : World} {P : Program} (T : Top K mg w P) : List (Str × Addr) := [("BadLength", T.C_BadLength), ("BadWords", T.C_BadWords), ("BadMove", T.C_BadMove), ("BadMoves", T.C_BadMoves)]
def lamA__law_refusals (k : Nat) : LamA := match k with | 0 => (lamAt (defBody s__law_refusals) [11] 0 [0]).get (by decide +kernel) | _ => (lamAt (defBody s__law_refusals) [11] 0 [1]).get (by decide +kernel)
def lamA_law (k : Nat) : LamA := match k with | 0 => (lamAt (defBody s_law) [1, 4] 0 [0]).get (by decide +kernel) | 1 => (lamAt (defBody s_law) [1, 4] 0 [1]).get (by decide +kernel) | 2 => (lamAt (defBody s_law) [1, 6] 0 [0]).get (by decide +kernel) | _ => (lamAt (defBody s_law) [1, 6] 0 [1]).get (by decide +kernel)
@[reducible] def lamM (f n k : Nat) : LamK := match f with | 0 => ⟨(envOfC "_law_refusals" (defScope s__law_refusals) n 0 .none).qual ++ "<lambda>", (lamA__law_refusals k).1, (lamA__law_refusals k).2.1, (lamA__law_refusals k).2.2, (envOfC "_law_refusals" (defScope s__law_refusals) n 0 .none).cells⟩ | 1 => ⟨(envOfC "law" (defScope s_law) n 0 .none).qual ++ "<lambda>", (lamA_law k).1, (lamA_law k).2.1, (lamA_law k).2.2, (envOfC "law" (defScope s_law) n 0 .none).cells⟩ | _ => lamN
@[reducible] def Top.ax {K : Frag} {mg : MG} {w : World} {P : Program} (T : Top K mg w P) : Ax := ⟨K, fun n => match n with | 0 => T.C_TurnError | 12 => T.C_BadLength | 18 => T.C_BadMove | 19 => T.C_BadMoves | 37 => T.C_BadWords | 80 => T.a_SWAPPED | _ => 0, T.caught, lamM⟩
theorem Top.caught_ok {K : Frag} {mg : MG} {w : World} {P : Program} (T : Top K mg w P) (x : Str) (C : Addr) (h : T.caught.lookup x = some C) : mg x = some (.ref C) ∧ PySem.W.exmOne K (.ref C) (.ref T.C_TurnError) = some true := by
  have h := PySem.mem_of_lookup h
  unfold Top.caught at h
  simp only [List.mem_cons, List.not_mem_nil, or_false, Prod.mk.injEq] at h
  rcases h with ⟨rfl, rfl⟩ | ⟨rfl, rfl⟩ | ⟨rfl, rfl⟩ | ⟨rfl, rfl⟩
  · exact ⟨T.M_BadLength, T.y_BadLength⟩
  · exact ⟨T.M_BadWords, T.y_BadWords⟩
  · exact ⟨T.M_BadMove, T.y_BadMove⟩
  · exact ⟨T.M_BadMoves, T.y_BadMoves⟩
theorem Top.caught_exc {K : Frag} {mg : MG} {w : World} {P : Program} (T : Top K mg w P) : ∀ D ∈ T.caught.map (·.2), ExcC K D := by
  intro D h
  unfold Top.caught at h
  simp only [List.map_cons, List.map_nil, List.mem_cons, List.not_mem_nil, or_false] at h
  rcases h with rfl | rfl | rfl | rfl
  · exact T.X_BadLength
  · exact T.X_BadWords
  · exact T.X_BadMove
  · exact T.X_BadMoves
theorem Top.xf_at {K : Frag} {mg : MG} {w : World} {P : Program} (T : Top K mg w P) : ∀ D ∈ ([T.C_BadMoves] : List Addr), XfC K D ∧ PySem.W.findIn K (.ref D) "at" = some none := by
  intro D h
  simp only [List.mem_cons, List.not_mem_nil, or_false] at h
  rcases h with rfl
  · exact ⟨⟨T.X_BadMoves.hg, T.X_BadMoves.hk, T.X_BadMoves.hs, T.X_BadMoves.hd⟩, T.Z_BadMoves.no⟩
def Top.tabs {K : Frag} {mg : MG} {w : World} {P : Program} (T : Top K mg w P) : List (Addr × Str) := [(T.P__law_refusals, (envOfC "_law_refusals" (defScope s__law_refusals) 0 0 .none).qual ++ "<lambda>"), (T.P_law, (envOfC "law" (defScope s_law) 0 0 .none).qual ++ "<lambda>")]
structure Tb [TabT] {K : Frag} {mg : MG} {w : World} {P : Program} (T : Top K mg w P) (base : Heap) : Prop where
  eq : TabT.T = T.tabs
  tab__law_refusals : LamX.TabB base mg T.c__law_refusals T.P__law_refusals
  tab_law : LamX.TabB base mg T.c_law T.P_law
section
variable [TabT] {P : Program} {w : World} {K : Frag} {mg : MG} {base : Heap}
theorem caught_gv (T : Top K mg w P) {X : Cx} (hm : X.mg = mg) {cdg : Value} {q : Str} : LamX.GivesTo X ["_law_work", "_law_caught_here", "error"] "_law_caught" (defScope s__law_caught) T.f__law_caught cdg (defBody s__law_caught) "_law_work" q (tCaught X.K (.ref T.C_TurnError)) :=
  caught_gives (cT := "TurnError") rfl sc__law_caught.nd rfl rfl rfl (hm ▸ T.M_TurnError) (by decide) (by decide) (by decide) (by decide) (by decide)
theorem ev_caught (T : Top K mg w P) {X : Cx} {E : XK} (hK : X.K = K) (hm : X.mg = mg) {c Pt : Addr} {k : Nat} {fb : Ev} {params : Arguments} {bodyL : Expr} {scope : Scope} {p lpos pos : Pos} (hg : Gl X "_law_caught")
    (TB : LamX.TabB X.base X.mg c Pt) (hcode : X.env.code = .ref c) (hmT : (Pt, X.env.qual ++ "<lambda>") ∈ TabT.T) (hu : ∀ p ∈ TabT.T, p.1 = Pt → p.2 = X.env.qual ++ "<lambda>") (hr : Room (k + 2) X.A) (LS : LamX.LamS X.env.scope scope) (hdef : defaultsOf params X.env = ([], []))
    (hbind : ∀ (q : Str) (cl : List (Str × Addr)) (pm cv ctv : Value), bindArgs (PySem.W.kla_fn "<lambda>" q params bodyL scope cl pm cv ctv) ⟨[], []⟩ = pure [])
    (hbody : ∀ (A : Around) (outer : List Env) (s : Shared) (H : Hp) (E : XK) (f c' : Addr), Room k (A.deeper (LamX.lamEnv X scope s.heap.objs.size f c')) → EV (LamX.lamCx X A outer s H E scope f c') E bodyL fb) :
    EV X E (.Call (.Name "_law_caught" p) [.Lambda params bodyL scope lpos] [] pos) (eCaught T.caught fb) := by
  subst hK hm
  obtain ⟨ocC, odC, kVC, docC, pmC, anC, cdvC, ctC, oslC, eC0, lkC0, hcgC⟩ := T.F__law_caught.ex
  have lkC := eC0 ▸ lkC0
  have bdC := eC0 ▸ T.b__law_caught
  exact ev_lamcall (cT := "TurnError") hg T.m__law_caught T.F__law_caught.kp lkC hcgC bdC sc__law_caught rfl (.inl rfl) (caught_gv T rfl) T.caught_ok TB hcode hmT hu hr LS hdef hbind hbody (by decide) (by decide) (by decide)
theorem caughtL_gv (T : Top K mg w P) {X : Cx} (hm : X.mg = mg) {cdg : Value} : GivesL X ["_law_work", "_law_caught_here", "error"] "_law_caught" (defScope s__law_caught) T.f__law_caught cdg (defBody s__law_caught) "_law_work" (tCaught X.K (.ref T.C_TurnError)) :=
  caughtL_gives (cT := "TurnError") rfl sc__law_caught.nd rfl rfl rfl (hm ▸ T.M_TurnError) (by decide) (by decide) (by decide) (by decide) (by decide)
theorem ev_caughtV (T : Top K mg w P) {X : Cx} {E : XK} (hK : X.K = K) (hm : X.mg = mg) {k i : Nat} {tb : List (Nat × LamK × Ev)} {y : Str} {p p2 pos : Pos} (hg : Gl X "_law_caught") (hr : Room (k + 2) X.A) (hT : ∀ q ∈ tb, HeldL X E k q) (hN : X.N[i]? = some y) (hv : Vis X.env.scope y) (hdy : (y == ("__debug__" : Str)) = false) (hcy : (y == ("__classdict__" : Str)) = false)
    (he : starEach [.Name y p2] X.env = (false, eval (.Name y p2) X.env) :: starEach [] X.env) : EV X E (.Call (.Name "_law_caught" p) [.Name y p2] [] pos) (eLamV T.caught i tb) := by
  subst hK hm
  obtain ⟨ocC, odC, kVC, docC, pmC, anC, cdvC, ctC, oslC, eC0, lkC0, hcgC⟩ := T.F__law_caught.ex
  have lkC := eC0 ▸ lkC0
  have bdC := eC0 ▸ T.b__law_caught
  exact ev_lamcallV (cT := "TurnError") hg T.m__law_caught T.F__law_caught.kp lkC hcgC bdC sc__law_caught rfl (.inl rfl) (caughtL_gv T rfl) T.caught_ok hr hT hN hv (by decide) (by decide) (by decide) hdy hcy he rfl
theorem w__law_begun (T : Top K mg w P) : FnG P w K mg base false 1 T.f__law_begun T.d__law_begun ["_law_script"] (m__law_begun) := fng_of T.F__law_begun sc__law_begun fun cdv A outer s H E hc hr hgd => svs_cons (sv_setLc (i := 1) eOfF (fun _ _ _ _ h => data_use h) rfl sc__law_begun.nd rfl rfl (sw_true rfl rfl rfl rfl) (ei_seq (evV 0)) (own := [("_law_cell", 3)]) (blkOk_by (N := ["_law_script", "_law_cells_here", "_law_large", "_law_cell"]) (sc := defScope s__law_begun) (by decide +kernel)) (fun _ _ _ _ _ => gv_name (i := 3) sc__law_begun.nd rfl (by first | exact .inl rfl | exact .inr rfl) (by first | exact .inl rfl | exact .inr rfl)) (fun _ _ _ _ _ => ets_nil) (fun _ _ _ _ _ => b_abs rfl T.z_abs (ea_cons (evV 3) (ea_nil) rfl) rfl) (by decide) (fun _ => rfl))
    (svs_cons (sv_setLc (i := 2) eCelF (fun _ _ _ _ h => cell_use h) rfl sc__law_begun.nd rfl rfl (sw_true rfl rfl rfl rfl) (ei_seq (evV 1)) (own := [("_law_cell", 3)]) (blkOk_by (N := ["_law_script", "_law_cells_here", "_law_large", "_law_cell"]) (sc := defScope s__law_begun) (by decide +kernel)) (fun _ _ _ _ _ => gv_name (i := 3) sc__law_begun.nd rfl (by first | exact .inl rfl | exact .inr rfl) (by first | exact .inl rfl | exact .inr rfl)) (fun _ _ _ _ _ => ets_one (et_ge (evV 3) (ev_pow (ev_int) (ev_int)))) (fun _ _ _ _ _ => ev_sub (evV 3) (ev_pow (ev_int) (ev_int))) (by decide) (fun _ => rfl))
    (svs_one (sv_ret (ev_dicC (ep_str (evV 2) (ep_str (evV 1) (ep_str (ev_int) (ep_str (ev_int) (ep_nil))))) rfl rfl (List.cons_ne_nil _ _) (by decide) (of_decide_eq_true rfl) (by decide +kernel)))))
theorem w__law_draw (T : Top K mg w P) : FnG P w K mg base false 1 T.f__law_draw T.d__law_draw ["_law_state", "_law_size_here"] (m__law_draw) := fng_of T.F__law_draw sc__law_draw fun cdv A outer s H E hc hr hgd => svs_cons (sv_while mu__law_draw_0 owOf (et_w (ew_and (et_eqC (Room.u64 hr) (ev_ix (Room.u1 hr) (evV 0) (ev_str) (fun _ _ => rfl) (fun _ _ => rfl)) (ev_int)) (ew_and1 (et_neC (Room.u64 hr) (ev_ix (Room.u1 hr) (evV 0) (ev_str) (fun _ _ => rfl) (fun _ _ => rfl)) (ev_lst (ea_nil)))))) (svs_one (sv_put (Room.u1 hr) (evV 0) (ev_str) (ev_popAt (ev_ix (Room.u1 hr) (evV 0) (ev_str) (fun _ _ => rfl) (fun _ _ => rfl)) (ea_cons (ev_int) (ea_nil) rfl) rfl rfl rfl rfl) rfl)))
    (svs_cons (sv_if (et_gt (ev_ix (Room.u1 hr) (evV 0) (ev_str) (fun _ _ => rfl) (fun _ _ => rfl)) (ev_int)) (svs_cons (sv_set (i := 2) sc__law_draw.nd rfl (by first | exact .inl rfl | exact .inr rfl) (ev_mod (b_int rfl T.z_int (ea_cons (ev_ix (Room.u1 hr) (evV 0) (ev_str) (fun _ _ => rfl) (fun _ _ => rfl)) (ea_nil) rfl) rfl) (evV 1)) rfl (by first | exact .inl rfl | exact .inr rfl))
    (svs_cons (sv_put (Room.u1 hr) (evV 0) (ev_str) (ev_fdiv (ev_ix (Room.u1 hr) (evV 0) (ev_str) (fun _ _ => rfl) (fun _ _ => rfl)) (evV 1)) rfl)
    (svs_one (sv_ret (evV 2))))) (svs_nil))
    (svs_cons (sv_set (i := 3) sc__law_draw.nd rfl (by first | exact .inl rfl | exact .inr rfl) (ev_add (ev_ix (Room.u1 hr) (evV 0) (ev_str) (fun _ _ => rfl) (fun _ _ => rfl)) (ev_int)) rfl (by first | exact .inl rfl | exact .inr rfl))
    (svs_cons (sv_put (Room.u1 hr) (evV 0) (ev_str) (evV 3) rfl)
    (svs_cons (sv_set (i := 4) sc__law_draw.nd rfl (by first | exact .inl rfl | exact .inr rfl) (ev_if (et_neC (Room.u64 hr) (ev_ix (Room.u1 hr) (evV 0) (ev_str) (fun _ _ => rfl) (fun _ _ => rfl)) (ev_lst (ea_nil))) (ev_ix (Room.u1 hr) (ev_ix (Room.u1 hr) (evV 0) (ev_str) (fun _ _ => rfl) (fun _ _ => rfl)) (ev_mod (b_int rfl T.z_int (ea_cons (evV 3) (ea_nil) rfl) rfl) (b_len rfl T.z_len (ea_cons (ev_ix (Room.u1 hr) (evV 0) (ev_str) (fun _ _ => rfl) (fun _ _ => rfl)) (ea_nil) rfl) rfl)) (fun _ _ => rfl) (fun _ _ => rfl)) (ev_int)) rfl (by first | exact .inl rfl | exact .inr rfl))
    (svs_cons (sv_set (i := 5) sc__law_draw.nd rfl (by first | exact .inl rfl | exact .inr rfl) (ev_mod (b_int rfl T.z_int (ea_cons (ev_pow (ev_add (ev_add (ev_mod (b_int rfl T.z_int (ea_cons (evV 4) (ea_nil) rfl) rfl) (ev_int)) (ev_mul (ev_int) (evV 3))) (ev_int)) (ev_int)) (ea_nil) rfl) rfl) (ev_int)) rfl (by first | exact .inl rfl | exact .inr rfl))
    (svs_one (sv_ret (ev_mod (b_int rfl T.z_int (ea_cons (ev_fdiv (ev_mod (b_int rfl T.z_int (ea_cons (ev_pow (ev_add (evV 5) (ev_mul (ev_int) (evV 3))) (ev_int)) (ea_nil) rfl) rfl) (ev_int)) (ev_int)) (ea_nil) rfl) rfl) (evV 1)))))))))
theorem w__law_two (T : Top K mg w P) : FnG P w K mg base false 1 T.f__law_two T.d__law_two ["_law_one", "_law_other"] (m__law_two) := fng_of T.F__law_two sc__law_two fun cdv A outer s H E hc hr hgd => svs_cons (sv_par (i := 2) (j := 3) rfl sc__law_two.nd rfl rfl (by decide) rfl rfl (ea_cons (ev_mul (ev_ix (Room.u1 hr) (evV 0) (ev_int) (fun _ _ => rfl) (fun _ _ => rfl)) (ev_ix (Room.u1 hr) (evV 1) (ev_int) (fun _ _ => rfl) (fun _ _ => rfl))) (ea_cons (ev_str) (ea_nil) rfl) rfl) rfl rfl)
    (svs_cons (sv_for owOf rfl (ei_zip rfl T.z_zip (ea_cons (ev_ix (Room.u1 hr) (evV 0) (ev_int) (fun _ _ => rfl) (fun _ _ => rfl)) (ea_cons (ev_ix (Room.u1 hr) (evV 1) (ev_int) (fun _ _ => rfl) (fun _ _ => rfl)) (ea_nil) rfl) rfl) rfl rfl) (gv_tup rfl (gvs_cons (gv_name (i := 4) sc__law_two.nd rfl (by first | exact .inl rfl | exact .inr rfl) (by first | exact .inl rfl | exact .inr rfl)) (gvs_cons (gv_name (i := 5) sc__law_two.nd rfl (by first | exact .inl rfl | exact .inr rfl) (by first | exact .inl rfl | exact .inr rfl)) (gvs_nil) rfl) rfl) rfl rfl) (svs_cons (sv_par (i := 6) (j := 7) rfl sc__law_two.nd rfl rfl (by decide) rfl rfl (ea_cons (ev_index rfl (ev_str) (ea_cons (evV 4) (ea_nil) rfl) rfl rfl rfl rfl) (ea_cons (ev_index rfl (ev_str) (ea_cons (evV 5) (ea_nil) rfl) rfl rfl rfl rfl) (ea_nil) rfl) rfl) rfl rfl)
    (svs_cons (sv_if (et_w (ew_and (et_gt (evV 6) (ev_int)) (ew_and1 (et_eqC (Room.u64 hr) (ev_mod (b_int rfl T.z_int (ea_cons (evV 7) (ea_nil) rfl) rfl) (ev_int)) (ev_int))))) (svs_one (sv_set (i := 2) sc__law_two.nd rfl (by first | exact .inl rfl | exact .inr rfl) (ev_neg (evV 2)) rfl (by first | exact .inl rfl | exact .inr rfl))) (svs_nil))
    (svs_one (sv_set (i := 3) sc__law_two.nd rfl (by first | exact .inl rfl | exact .inr rfl) (ev_add (evV 3) (ev_ix (Room.u1 hr) (ev_str) (ev_xor (evV 6) (evV 7)) (fun _ _ => rfl) (fun _ _ => rfl))) rfl (by first | exact .inl rfl | exact .inr rfl))))) (fun _ => rfl))
    (svs_one (sv_ret (ev_tup (ea_cons (evV 2) (ea_cons (evV 3) (ea_nil) rfl) rfl)))))
theorem w__law_row_of (T : Top K mg w P) : FnG P w K mg base false 2 T.f__law_row_of T.d__law_row_of ["_law_several_here"] (m__law_row_of) := fng_of T.F__law_row_of sc__law_row_of fun cdv A outer s H E hc hr hgd => svs_cons (sv_set (i := 1) sc__law_row_of.nd rfl (by first | exact .inl rfl | exact .inr rfl) (ev_ix (Room.u1 hr) (evV 0) (ev_int) (fun _ _ => rfl) (fun _ _ => rfl)) rfl (by first | exact .inl rfl | exact .inr rfl))
    (svs_cons (sv_for owOf rfl (ei_seq (ev_sl (evV 0) (eo_some (ev_int)) (eo_none))) (gv_name (i := 2) sc__law_row_of.nd rfl (by first | exact .inl rfl | exact .inr rfl) (by first | exact .inl rfl | exact .inr rfl)) (svs_one (sv_set (i := 1) sc__law_row_of.nd rfl (by first | exact .inl rfl | exact .inr rfl) (ev_callF (gd := false) (k := 1) (ps := ["_law_one", "_law_other"]) ((w__law_two T).mono (by decide)) hr (fun h => nomatch h) psOf rfl T.m__law_two T.F__law_two.kp T.b__law_two (ea_cons (evV 1) (ea_cons (evV 2) (ea_nil) rfl) rfl) (by decide) rfl rfl) rfl (by first | exact .inl rfl | exact .inr rfl))) (fun _ => rfl))
    (svs_one (sv_ret (evV 1))))
theorem w__law_pick (T : Top K mg w P) : FnG P w K mg base false 2 T.f__law_pick T.d__law_pick ["_law_state", "_law_several_here"] (m__law_pick) := fng_of T.F__law_pick sc__law_pick fun cdv A outer s H E hc hr hgd => svs_one (sv_ret (ev_ix (Room.u1 hr) (evV 1) (ev_callF (gd := false) (k := 1) (ps := ["_law_state", "_law_size_here"]) ((w__law_draw T).mono (by decide)) hr (fun h => nomatch h) psOf rfl T.m__law_draw T.F__law_draw.kp T.b__law_draw (ea_cons (evV 0) (ea_cons (b_len rfl T.z_len (ea_cons (evV 1) (ea_nil) rfl) rfl) (ea_nil) rfl) rfl) (by decide) rfl rfl) (fun _ _ => rfl) (fun _ _ => rfl)))
theorem w__law_nothing (T : Top K mg w P) : FnG P w K mg base false 1 T.f__law_nothing T.d__law_nothing ["_law_size_here", "_law_sign"] (m__law_nothing) := fng_of T.F__law_nothing sc__law_nothing fun cdv A outer s H E hc hr hgd => svs_one (sv_ret (ev_tup (ea_cons (evV 1) (ea_cons (ev_mul (ev_str) (evV 0)) (ea_nil) rfl) rfl)))
theorem w__law_word (T : Top K mg w P) : FnG P w K mg base false 3 T.f__law_word T.d__law_word ["_law_state", "_law_size_here"] (m__law_word) := fng_of T.F__law_word sc__law_word fun cdv A outer s H E hc hr hgd => svs_cons (sv_set (i := 2) sc__law_word.nd rfl (by first | exact .inl rfl | exact .inr rfl) (ev_str) rfl (by first | exact .inl rfl | exact .inr rfl))
    (svs_cons (sv_for owOf rfl (ei_range1 rfl T.z_range (ea_cons (evV 1) (ea_nil) rfl) rfl) (gv_name (i := 3) sc__law_word.nd rfl (by first | exact .inl rfl | exact .inr rfl) (by first | exact .inl rfl | exact .inr rfl)) (svs_one (sv_set (i := 2) sc__law_word.nd rfl (by first | exact .inl rfl | exact .inr rfl) (ev_add (evV 2) (ev_callF (gd := false) (k := 2) (ps := ["_law_state", "_law_several_here"]) ((w__law_pick T).mono (by decide)) hr (fun h => nomatch h) psOf rfl T.m__law_pick T.F__law_pick.kp T.b__law_pick (ea_cons (evV 0) (ea_cons (ev_lst (ea_cons (ev_str) (ea_cons (ev_str) (ea_cons (ev_str) (ea_cons (ev_str) (ea_nil) rfl) rfl) rfl) rfl)) (ea_nil) rfl) rfl) (by decide) rfl rfl)) rfl (by first | exact .inl rfl | exact .inr rfl))) (fun _ => rfl))
    (svs_one (sv_ret (ev_tup (ea_cons (ev_callF (gd := false) (k := 2) (ps := ["_law_state", "_law_several_here"]) ((w__law_pick T).mono (by decide)) hr (fun h => nomatch h) psOf rfl T.m__law_pick T.F__law_pick.kp T.b__law_pick (ea_cons (evV 0) (ea_cons (ev_lst (ea_cons (ev_int) (ea_cons (ev_int) (ea_cons (ev_neg (ev_int)) (ea_nil) rfl) rfl) rfl)) (ea_nil) rfl) rfl) (by decide) rfl rfl) (ea_cons (evV 2) (ea_nil) rfl) rfl)))))
theorem w__law_turner (T : Top K mg w P) : FnG P w K mg base false 4 T.f__law_turner T.d__law_turner ["_law_state", "_law_size_here"] (m__law_turner) := fng_of T.F__law_turner sc__law_turner fun cdv A outer s H E hc hr hgd => svs_cons (sv_asg (ev_callF (gd := false) (k := 3) (ps := ["_law_state", "_law_size_here"]) ((w__law_word T).mono (by decide)) hr (fun h => nomatch h) psOf rfl T.m__law_word T.F__law_word.kp T.b__law_word (ea_cons (evV 0) (ea_cons (evV 1) (ea_nil) rfl) rfl) (by decide) rfl rfl) (gv_tup rfl (gvs_cons (gv_name (i := 2) sc__law_turner.nd rfl (by first | exact .inl rfl | exact .inr rfl) (by first | exact .inl rfl | exact .inr rfl)) (gvs_cons (gv_name (i := 3) sc__law_turner.nd rfl (by first | exact .inl rfl | exact .inr rfl) (by first | exact .inl rfl | exact .inr rfl)) (gvs_nil) rfl) rfl) rfl rfl) rfl rfl rfl)
    (svs_cons (sv_if (et_eqC (Room.u64 hr) (ev_mod (b_int rfl T.z_int (ea_cons (ev_count (evV 3) (ea_cons (ev_str) (ea_nil) rfl) rfl rfl rfl rfl) (ea_nil) rfl) rfl) (ev_int)) (ev_int)) (svs_cons (sv_set (i := 4) sc__law_turner.nd rfl (by first | exact .inl rfl | exact .inr rfl) (ev_index rfl (evV 3) (ea_cons (ev_str) (ea_nil) rfl) rfl rfl rfl rfl) rfl (by first | exact .inl rfl | exact .inr rfl))
    (svs_one (sv_set (i := 3) sc__law_turner.nd rfl (by first | exact .inl rfl | exact .inr rfl) (ev_add (ev_add (ev_sl (evV 3) (eo_none) (eo_some (evV 4))) (ev_callF (gd := false) (k := 3) (ps := ["_law_state", "_law_several_here"]) ((w__law_pick T).mono (by decide)) hr (fun h => nomatch h) psOf rfl T.m__law_pick T.F__law_pick.kp T.b__law_pick (ea_cons (evV 0) (ea_cons (ev_lst (ea_cons (ev_str) (ea_cons (ev_str) (ea_cons (ev_str) (ea_nil) rfl) rfl) rfl)) (ea_nil) rfl) rfl) (by decide) rfl rfl)) (ev_sl (evV 3) (eo_some (ev_add (evV 4) (ev_int))) (eo_none))) rfl (by first | exact .inl rfl | exact .inr rfl)))) (svs_nil))
    (svs_one (sv_ret (ev_tup (ea_cons (evV 2) (ea_cons (evV 3) (ea_nil) rfl) rfl)))))
theorem w__law_several (T : Top K mg w P) : FnG P w K mg base false 5 T.f__law_several T.d__law_several ["_law_state", "_law_size_here", "_law_many"] (m__law_several) := fng_of T.F__law_several sc__law_several fun cdv A outer s H E hc hr hgd => svs_cons (sv_set (i := 3) sc__law_several.nd rfl (by first | exact .inl rfl | exact .inr rfl) (ev_celF (ef_lst (ea_nil))) rfl (by first | exact .inl rfl | exact .inr rfl))
    (svs_cons (sv_for owOf rfl (ei_range1 rfl T.z_range (ea_cons (evV 2) (ea_nil) rfl) rfl) (gv_name (i := 4) sc__law_several.nd rfl (by first | exact .inl rfl | exact .inr rfl) (by first | exact .inl rfl | exact .inr rfl)) (svs_cons (sv_set (i := 5) sc__law_several.nd rfl (by first | exact .inl rfl | exact .inr rfl) (ev_callF (gd := false) (k := 4) (ps := ["_law_state", "_law_size_here"]) ((w__law_draw T).mono (by decide)) hr (fun h => nomatch h) psOf rfl T.m__law_draw T.F__law_draw.kp T.b__law_draw (ea_cons (evV 0) (ea_cons (ev_int) (ea_nil) rfl) rfl) (by decide) rfl rfl) rfl (by first | exact .inl rfl | exact .inr rfl))
    (svs_one (sv_if (et_w (ew_and (et_neC (Room.u64 hr) (evV 3) (ev_lst (ea_nil))) (ew_and1 (et_lt (evV 5) (ev_int))))) (svs_cons (sv_asg (ev_callF (gd := false) (k := 4) (ps := ["_law_several_here"]) ((w__law_row_of T).mono (by decide)) hr (fun h => nomatch h) psOf rfl T.m__law_row_of T.F__law_row_of.kp T.b__law_row_of (ea_cons (ev_ofF (ef_lc rfl sc__law_several.nd (ei_range1 rfl T.z_range (ea_cons (ev_add (ev_int) (evV 5)) (ea_nil) rfl) rfl) (own := [("_law_step", 8)]) (blkOk_by (N := ["_law_state", "_law_size_here", "_law_many", "_law_found", "_law_lap", "_law_fashion", "_law_sign", "_law_letters_here", "_law_step"]) (sc := defScope s__law_several) (by decide +kernel)) (fun _ _ _ _ _ => gv_name (i := 8) sc__law_several.nd rfl (by first | exact .inl rfl | exact .inr rfl) (by first | exact .inl rfl | exact .inr rfl)) (fun _ _ _ _ _ => ets_nil) (fun _ _ _ _ _ => ev_callF (gd := false) (k := 4) (ps := ["_law_state", "_law_several_here"]) ((w__law_pick T).mono (by decide)) hr (fun h => nomatch h) pass_never rfl T.m__law_pick T.F__law_pick.kp T.b__law_pick (ea_cons (evV 0) (ea_cons (evV 3) (ea_nil) rfl) rfl) (by decide) rfl rfl) (by decide) (fun _ => rfl))) (ea_nil) rfl) (by decide) rfl rfl) (gv_tup rfl (gvs_cons (gv_name (i := 6) sc__law_several.nd rfl (by first | exact .inl rfl | exact .inr rfl) (by first | exact .inl rfl | exact .inr rfl)) (gvs_cons (gv_name (i := 7) sc__law_several.nd rfl (by first | exact .inl rfl | exact .inr rfl) (by first | exact .inl rfl | exact .inr rfl)) (gvs_nil) rfl) rfl) rfl rfl) rfl rfl rfl)
    (svs_one (sv_expr (ev_append (evV 3) (ea_cons (ev_tup (ea_cons (ev_mul (evV 6) (ev_callF (gd := false) (k := 4) (ps := ["_law_state", "_law_several_here"]) ((w__law_pick T).mono (by decide)) hr (fun h => nomatch h) psOf rfl T.m__law_pick T.F__law_pick.kp T.b__law_pick (ea_cons (evV 0) (ea_cons (ev_lst (ea_cons (ev_int) (ea_cons (ev_int) (ea_cons (ev_neg (ev_int)) (ea_nil) rfl) rfl) rfl)) (ea_nil) rfl) rfl) (by decide) rfl rfl)) (ea_cons (evV 7) (ea_nil) rfl) rfl)) (ea_nil) rfl) rfl rfl rfl rfl) rfl))) (svs_one (sv_if (et_eqC (Room.u64 hr) (evV 5) (ev_int)) (svs_one (sv_expr (ev_append (evV 3) (ea_cons (ev_callF (gd := false) (k := 4) (ps := ["_law_size_here", "_law_sign"]) ((w__law_nothing T).mono (by decide)) hr (fun h => nomatch h) psOf rfl T.m__law_nothing T.F__law_nothing.kp T.b__law_nothing (ea_cons (evV 1) (ea_cons (ev_callF (gd := false) (k := 4) (ps := ["_law_state", "_law_several_here"]) ((w__law_pick T).mono (by decide)) hr (fun h => nomatch h) psOf rfl T.m__law_pick T.F__law_pick.kp T.b__law_pick (ea_cons (evV 0) (ea_cons (ev_lst (ea_cons (ev_int) (ea_cons (ev_neg (ev_int)) (ea_nil) rfl) rfl)) (ea_nil) rfl) rfl) (by decide) rfl rfl) (ea_nil) rfl) rfl) (by decide) rfl rfl) (ea_nil) rfl) rfl rfl rfl rfl) rfl)) (svs_one (sv_expr (ev_append (evV 3) (ea_cons (ev_if (et_lt (evV 5) (ev_int)) (ev_callF (gd := false) (k := 4) (ps := ["_law_state", "_law_size_here"]) ((w__law_turner T).mono (by decide)) hr (fun h => nomatch h) psOf rfl T.m__law_turner T.F__law_turner.kp T.b__law_turner (ea_cons (evV 0) (ea_cons (evV 1) (ea_nil) rfl) rfl) (by decide) rfl rfl) (ev_callF (gd := false) (k := 4) (ps := ["_law_state", "_law_size_here"]) ((w__law_word T).mono (by decide)) hr (fun h => nomatch h) psOf rfl T.m__law_word T.F__law_word.kp T.b__law_word (ea_cons (evV 0) (ea_cons (evV 1) (ea_nil) rfl) rfl) (by decide) rfl rfl)) (ea_nil) rfl) rfl rfl rfl rfl) rfl))))))) (fun _ => rfl))
    (svs_one (sv_ret (ev_frz (evV 3)))))
theorem w_is_number (T : Top K mg w P) : FnG P w K mg base false 1 T.f_is_number T.d_is_number ["thing"] (m_is_number) := fng_of T.F_is_number sc_is_number fun cdv A outer s H E hc hr hgd => svs_one (sv_ret (ev_andB (b_isi2 rfl T.z_isinstance (ea_cons (evV 0) (ea_cons (ev_bltn (v := .ty "int") rfl T.z_int boot_int rfl (by decide) (by decide)) (ea_nil) rfl) rfl) rfl rfl) (ev_one (ev_not (b_isi2 rfl T.z_isinstance (ea_cons (evV 0) (ea_cons (ev_bltn (v := .ty "bool") rfl T.z_bool boot_bool rfl (by decide) (by decide)) (ea_nil) rfl) rfl) rfl rfl)))))
theorem w_is_between (T : Top K mg w P) : FnG P w K mg base false 2 T.f_is_between T.d_is_between ["thing", "least", "most"] (m_is_between) := fng_of T.F_is_between sc_is_between fun cdv A outer s H E hc hr hgd => svs_one (sv_ret (ev_andB (ev_callF (gd := false) (k := 1) (ps := ["thing"]) ((w_is_number T).mono (by decide)) hr (fun h => nomatch h) psOf rfl T.m_is_number T.F_is_number.kp T.b_is_number (ea_cons (evV 0) (ea_nil) rfl) (by decide) rfl rfl) (ev_one (ev_chain op_le bo_B0 op_le bo_B0 (evV 1) (evV 0) (evV 2) (by with_unfolding_all rfl)))))
theorem w_need_length (T : Top K mg w P) : FnG P w K mg base false 3 T.f_need_length T.d_need_length ["length"] (m_need_length) := fng_of T.F_need_length sc_need_length fun cdv A outer s H E hc hr hgd => svs_one (sv_if (et_not (et_tru (ev_callF (gd := false) (k := 2) (ps := ["thing", "least", "most"]) ((w_is_between T).mono (by decide)) hr (fun h => nomatch h) psOf rfl T.m_is_between T.F_is_between.kp T.b_is_between (ea_cons (evV 0) (ea_cons (ev_int) (ea_cons (ev_glob (v := .int 12) rfl T.g_MOST_LETTERS.choose_spec ⟨_, rfl⟩ (fun _ _ => .int _) (by decide)) (ea_nil) rfl) rfl) rfl) (by decide) rfl rfl) (fun _ => rfl))) (svs_one (sv_raise rfl tkOf T.M_BadLength (pmk_own PySem.F.excBase_ValueError T.q_BadLength T.M_BadLength T.k_BadLength (raises_own T.r_BadLength T.t_BadLength) rfl (by decide)))) (svs_nil))
theorem w_is_letters (T : Top K mg w P) : FnG P w K mg base false 1 T.f_is_letters T.d_is_letters ["length", "thing"] (m_is_letters) := fng_of T.F_is_letters sc_is_letters fun cdv A outer s H E hc hr hgd => svs_cons (sv_if (et_w (ew_or (et_not (et_tru (b_isi2 rfl T.z_isinstance (ea_cons (evV 1) (ea_cons (ev_bltn (v := .ty "str") rfl T.z_str boot_str rfl (by decide) (by decide)) (ea_nil) rfl) rfl) rfl rfl) (fun _ => rfl))) (ew_or1 (et_neC (Room.u64 hr) (b_len rfl T.z_len (ea_cons (evV 1) (ea_nil) rfl) rfl) (evV 0))))) (svs_one (sv_ret (ev_bl))) (svs_nil))
    (svs_one (sv_ret (b_all rfl rfl T.z_all (ea_cons (ev_ofF (ef_lc rfl sc_is_letters.nd (ei_seq (evV 1)) (own := [("letter", 2)]) (blkOk_by (N := ["length", "thing", "letter"]) (sc := defScope s_is_letters) (by decide +kernel)) (fun _ _ _ _ _ => gv_name (i := 2) sc_is_letters.nd rfl (by first | exact .inl rfl | exact .inr rfl) (by first | exact .inl rfl | exact .inr rfl)) (fun _ _ _ _ _ => ets_nil) (fun _ _ _ _ _ => ev_in (Room.u65 hr) (evV 2) (ev_str) rfl) (by decide) (fun _ => rfl))) (ea_nil) rfl) rfl)))
theorem w_is_move_of (T : Top K mg w P) : FnG P w K mg base false 3 T.f_is_move_of T.d_is_move_of ["length", "thing"] (m_is_move_of_v2) := fng_of T.F_is_move_of sc_is_move_of fun cdv A outer s H E hc hr hgd => svs_cons (sv_if (et_w (ew_or (et_not (et_tru (b_isi2 rfl T.z_isinstance (ea_cons (evV 1) (ea_cons (ev_bltn (v := .ty "tuple") rfl T.z_tuple boot_tuple rfl (by decide) (by decide)) (ea_nil) rfl) rfl) rfl rfl) (fun _ => rfl))) (ew_or1 (et_notIn (Room.u65 hr) (b_len rfl T.z_len (ea_cons (evV 1) (ea_nil) rfl) rfl) (ev_tup (ea_cons (ev_int) (ea_cons (ev_int) (ea_nil) rfl) rfl)) rfl)))) (svs_one (sv_ret (ev_bl))) (svs_nil))
    (svs_cons (sv_if (et_eqCD (Room.u64 hr) (ev_ix (Room.u1 hr) (evV 1) (ev_int) (fun _ _ => rfl) (fun _ _ => rfl)) (ev_str)) (svs_one (sv_ret (ev_andB (ev_eqCD (Room.u64 hr) (b_len rfl T.z_len (ea_cons (evV 1) (ea_nil) rfl) rfl) (ev_int)) (ev_one (ev_callF (gd := false) (k := 2) (ps := ["length", "thing"]) ((w_is_letters T).mono (by decide)) hr (fun h => nomatch h) psOf rfl T.m_is_letters T.F_is_letters.kp T.b_is_letters (ea_cons (evV 0) (ea_cons (ev_ix (Room.u1 hr) (evV 1) (ev_int) (fun _ _ => rfl) (fun _ _ => rfl)) (ea_nil) rfl) rfl) (by decide) rfl rfl))))) (svs_nil))
    (svs_cons (sv_if (et_not (et_tru (b_all rfl rfl T.z_all (ea_cons (ev_ofF (ef_lc rfl sc_is_move_of.nd (ei_seq (ev_sl (evV 1) (eo_some (ev_int)) (eo_none))) (own := [("place", 2)]) (blkOk_by (N := ["length", "thing", "place"]) (sc := defScope s_is_move_of) (by decide +kernel)) (fun _ _ _ _ _ => gv_name (i := 2) sc_is_move_of.nd rfl (by first | exact .inl rfl | exact .inr rfl) (by first | exact .inl rfl | exact .inr rfl)) (fun _ _ _ _ _ => ets_nil) (fun _ _ _ _ _ => ev_callF (gd := false) (k := 2) (ps := ["thing", "least", "most"]) ((w_is_between T).mono (by decide)) hr (fun h => nomatch h) pass_never rfl T.m_is_between T.F_is_between.kp T.b_is_between (ea_cons (evV 2) (ea_cons (ev_int) (ea_cons (ev_sub (evV 0) (ev_int)) (ea_nil) rfl) rfl) rfl) (by decide) rfl rfl) (by decide) (fun _ => rfl))) (ea_nil) rfl) rfl) (fun _ => rfl))) (svs_one (sv_ret (ev_bl))) (svs_nil))
    (svs_cons (sv_if (et_w (ew_or (et_eqCD (Room.u64 hr) (ev_ix (Room.u1 hr) (evV 1) (ev_int) (fun _ _ => rfl) (fun _ _ => rfl)) (ev_str)) (ew_or1 (et_eqCD (Room.u64 hr) (b_len rfl T.z_len (ea_cons (evV 1) (ea_nil) rfl) rfl) (ev_int))))) (svs_one (sv_ret (ev_andB (ev_eqCD (Room.u64 hr) (ev_ix (Room.u1 hr) (evV 1) (ev_int) (fun _ _ => rfl) (fun _ _ => rfl)) (ev_str)) (ev_one (ev_eqCD (Room.u64 hr) (b_len rfl T.z_len (ea_cons (evV 1) (ea_nil) rfl) rfl) (ev_int)))))) (svs_nil))
    (svs_cons (sv_if (et_eqCD (Room.u64 hr) (ev_ix (Room.u1 hr) (evV 1) (ev_int) (fun _ _ => rfl) (fun _ _ => rfl)) (ev_str)) (svs_one (sv_ret (ev_lt (ev_ix (Room.u1 hr) (evV 1) (ev_int) (fun _ _ => rfl) (fun _ _ => rfl)) (ev_ix (Room.u1 hr) (evV 1) (ev_int) (fun _ _ => rfl) (fun _ _ => rfl))))) (svs_nil))
    (svs_one (sv_ret (ev_andB (ev_eqCD (Room.u64 hr) (ev_ix (Room.u1 hr) (evV 1) (ev_int) (fun _ _ => rfl) (fun _ _ => rfl)) (ev_str)) (ev_one (ev_neC (Room.u64 hr) (ev_ix (Room.u1 hr) (evV 1) (ev_int) (fun _ _ => rfl) (fun _ _ => rfl)) (ev_ix (Room.u1 hr) (evV 1) (ev_int) (fun _ _ => rfl) (fun _ _ => rfl)))))))))))
theorem w_is_move (T : Top K mg w P) : FnG P w K mg base false 4 T.f_is_move T.d_is_move ["length", "thing"] (m_is_move) := fng_of T.F_is_move sc_is_move fun cdv A outer s H E hc hr hgd => svs_cons (sv_expr (ev_callF (gd := false) (k := 3) (ps := ["length"]) ((w_need_length T).mono (by decide)) hr (fun h => nomatch h) psOf rfl T.m_need_length T.F_need_length.kp T.b_need_length (ea_cons (evV 0) (ea_nil) rfl) (by decide) rfl rfl) rfl)
    (svs_one (sv_ret (ev_callF (gd := false) (k := 3) (ps := ["length", "thing"]) ((w_is_move_of T).mono (by decide)) hr (fun h => nomatch h) psOf rfl T.m_is_move_of T.F_is_move_of.kp T.b_is_move_of (ea_cons (evV 0) (ea_cons (evV 1) (ea_nil) rfl) rfl) (by decide) rfl rfl)))
theorem w__law_a_move (T : Top K mg w P) : FnG P w K mg base false 4 T.f__law_a_move T.d__law_a_move ["_law_state", "_law_size_here"] (m__law_a_move) := fng_of T.F__law_a_move sc__law_a_move fun cdv A outer s H E hc hr hgd => svs_cons (sv_set (i := 2) sc__law_a_move.nd rfl (by first | exact .inl rfl | exact .inr rfl) (ev_callF (gd := false) (k := 3) (ps := ["_law_state", "_law_size_here"]) ((w__law_draw T).mono (by decide)) hr (fun h => nomatch h) psOf rfl T.m__law_draw T.F__law_draw.kp T.b__law_draw (ea_cons (evV 0) (ea_cons (ev_int) (ea_nil) rfl) rfl) (by decide) rfl rfl) rfl (by first | exact .inl rfl | exact .inr rfl))
    (svs_cons (sv_set (i := 3) sc__law_a_move.nd rfl (by first | exact .inl rfl | exact .inr rfl) (ev_callF (gd := false) (k := 3) (ps := ["_law_state", "_law_size_here"]) ((w__law_draw T).mono (by decide)) hr (fun h => nomatch h) psOf rfl T.m__law_draw T.F__law_draw.kp T.b__law_draw (ea_cons (evV 0) (ea_cons (evV 1) (ea_nil) rfl) rfl) (by decide) rfl rfl) rfl (by first | exact .inl rfl | exact .inr rfl))
    (svs_cons (sv_if (et_w (ew_or (et_eqC (Room.u64 hr) (evV 2) (ev_int)) (ew_or1 (et_w (ew_and (et_eqC (Room.u64 hr) (evV 1) (ev_int)) (ew_and1 (et_lt (evV 2) (ev_int)))))))) (svs_one (sv_ret (ev_tup (ea_cons (ev_str) (ea_cons (evV 3) (ea_nil) rfl) rfl)))) (svs_nil))
    (svs_cons (sv_if (et_w (ew_or (et_gt (evV 2) (ev_int)) (ew_or1 (et_eqC (Room.u64 hr) (evV 1) (ev_int))))) (svs_one (sv_ret (ev_tup (ea_cons (ev_str) (ea_cons (ev_ix (Room.u1 hr) (ev_callF (gd := false) (k := 3) (ps := ["_law_state", "_law_size_here"]) ((w__law_word T).mono (by decide)) hr (fun h => nomatch h) psOf rfl T.m__law_word T.F__law_word.kp T.b__law_word (ea_cons (evV 0) (ea_cons (evV 1) (ea_nil) rfl) rfl) (by decide) rfl rfl) (ev_int) (fun _ _ => rfl) (fun _ _ => rfl)) (ea_nil) rfl) rfl)))) (svs_nil))
    (svs_cons (sv_set (i := 4) sc__law_a_move.nd rfl (by first | exact .inl rfl | exact .inr rfl) (ev_mod (b_int rfl T.z_int (ea_cons (ev_add (ev_add (evV 3) (ev_int)) (ev_callF (gd := false) (k := 3) (ps := ["_law_state", "_law_size_here"]) ((w__law_draw T).mono (by decide)) hr (fun h => nomatch h) psOf rfl T.m__law_draw T.F__law_draw.kp T.b__law_draw (ea_cons (evV 0) (ea_cons (ev_sub (evV 1) (ev_int)) (ea_nil) rfl) rfl) (by decide) rfl rfl)) (ea_nil) rfl) rfl) (evV 1)) rfl (by first | exact .inl rfl | exact .inr rfl))
    (svs_one (sv_ret (ev_if (et_eqC (Room.u64 hr) (evV 2) (ev_int)) (ev_tup (ea_cons (ev_str) (ea_cons (b_min2 rfl rfl T.z_min (ea_cons (evV 3) (ea_cons (evV 4) (ea_nil) rfl) rfl) rfl rfl) (ea_cons (b_max2 rfl rfl T.z_max (ea_cons (evV 3) (ea_cons (evV 4) (ea_nil) rfl) rfl) rfl rfl) (ea_nil) rfl) rfl) rfl)) (ev_tup (ea_cons (ev_str) (ea_cons (evV 3) (ea_cons (evV 4) (ea_nil) rfl) rfl) rfl)))))))))
theorem w__law_some_moves (T : Top K mg w P) : FnG P w K mg base false 5 T.f__law_some_moves T.d__law_some_moves ["_law_state", "_law_size_here", "_law_most"] (m__law_some_moves) := fng_of T.F__law_some_moves sc__law_some_moves fun cdv A outer s H E hc hr hgd => svs_one (sv_ret (ev_ofF (ef_lc rfl sc__law_some_moves.nd (ei_range1 rfl T.z_range (ea_cons (ev_callF (gd := false) (k := 4) (ps := ["_law_state", "_law_size_here"]) ((w__law_draw T).mono (by decide)) hr (fun h => nomatch h) psOf rfl T.m__law_draw T.F__law_draw.kp T.b__law_draw (ea_cons (evV 0) (ea_cons (ev_add (evV 2) (ev_int)) (ea_nil) rfl) rfl) (by decide) rfl rfl) (ea_nil) rfl) rfl) (own := [("_law_lap", 3)]) (blkOk_by (N := ["_law_state", "_law_size_here", "_law_most", "_law_lap"]) (sc := defScope s__law_some_moves) (by decide +kernel)) (fun _ _ _ _ _ => gv_name (i := 3) sc__law_some_moves.nd rfl (by first | exact .inl rfl | exact .inr rfl) (by first | exact .inl rfl | exact .inr rfl)) (fun _ _ _ _ _ => ets_nil) (fun _ _ _ _ _ => ev_callF (gd := false) (k := 4) (ps := ["_law_state", "_law_size_here"]) ((w__law_a_move T).mono (by decide)) hr (fun h => nomatch h) pass_never rfl T.m__law_a_move T.F__law_a_move.kp T.b__law_a_move (ea_cons (evV 0) (ea_cons (evV 1) (ea_nil) rfl) rfl) (by decide) rfl rfl) (by decide) (fun _ => rfl))))
theorem w__law_is_whole (T : Top K mg w P) : FnG P w K mg base false 1 T.f__law_is_whole T.d__law_is_whole ["_law_item"] (m__law_is_whole) := fng_of T.F__law_is_whole sc__law_is_whole fun cdv A outer s H E hc hr hgd => svs_one (sv_ret (ev_andB (b_isi2 rfl T.z_isinstance (ea_cons (evV 0) (ea_cons (ev_bltn (v := .ty "int") rfl T.z_int boot_int rfl (by decide) (by decide)) (ea_nil) rfl) rfl) rfl rfl) (ev_one (ev_not (b_isi2 rfl T.z_isinstance (ea_cons (evV 0) (ea_cons (ev_bltn (v := .ty "bool") rfl T.z_bool boot_bool rfl (by decide) (by decide)) (ea_nil) rfl) rfl) rfl rfl)))))
theorem w__law_is_below (T : Top K mg w P) : FnG P w K mg base false 2 T.f__law_is_below T.d__law_is_below ["_law_item", "_law_size_here"] (m__law_is_below) := fng_of T.F__law_is_below sc__law_is_below fun cdv A outer s H E hc hr hgd => svs_one (sv_ret (ev_andB (ev_callF (gd := false) (k := 1) (ps := ["_law_item"]) ((w__law_is_whole T).mono (by decide)) hr (fun h => nomatch h) psOf rfl T.m__law_is_whole T.F__law_is_whole.kp T.b__law_is_whole (ea_cons (evV 0) (ea_nil) rfl) (by decide) rfl rfl) (ev_one (ev_chain op_le bo_B0 op_lt bo_B0 (ev_int) (evV 0) (evV 1) (by with_unfolding_all rfl)))))
theorem w__law_is_letters (T : Top K mg w P) : FnG P w K mg base false 1 T.f__law_is_letters T.d__law_is_letters ["_law_item", "_law_size_here"] (m__law_is_letters) := fng_of T.F__law_is_letters sc__law_is_letters fun cdv A outer s H E hc hr hgd => svs_one (sv_ret (ev_andB (b_isi2 rfl T.z_isinstance (ea_cons (evV 0) (ea_cons (ev_bltn (v := .ty "str") rfl T.z_str boot_str rfl (by decide) (by decide)) (ea_nil) rfl) rfl) rfl rfl) (ev_andB (ev_eqC (Room.u64 hr) (b_len rfl T.z_len (ea_cons (evV 0) (ea_nil) rfl) rfl) (evV 1)) (ev_one (ev_eqC (Room.u64 hr) (ev_ofF (ef_lc rfl sc__law_is_letters.nd (ei_seq (evV 0)) (own := [("_law_each", 2)]) (blkOk_by (N := ["_law_item", "_law_size_here", "_law_each"]) (sc := defScope s__law_is_letters) (by decide +kernel)) (fun _ _ _ _ _ => gv_name (i := 2) sc__law_is_letters.nd rfl (by first | exact .inl rfl | exact .inr rfl) (by first | exact .inl rfl | exact .inr rfl)) (fun _ _ _ _ _ => ets_one (et_notIn (Room.u65 hr) (evV 2) (ev_str) rfl)) (fun _ _ _ _ _ => ev_int) (by decide) (fun _ => rfl))) (ev_lst (ea_nil)))))))
theorem w__law_is_move (T : Top K mg w P) : FnG P w K mg base false 3 T.f__law_is_move T.d__law_is_move ["_law_size_here", "_law_item"] (m__law_is_move) := fng_of T.F__law_is_move sc__law_is_move fun cdv A outer s H E hc hr hgd => svs_cons (sv_if (et_w (ew_or (et_not (et_tru (b_isi2 rfl T.z_isinstance (ea_cons (evV 1) (ea_cons (ev_bltn (v := .ty "tuple") rfl T.z_tuple boot_tuple rfl (by decide) (by decide)) (ea_nil) rfl) rfl) rfl rfl) (fun _ => rfl))) (ew_or (et_eqC (Room.u64 hr) (b_len rfl T.z_len (ea_cons (evV 1) (ea_nil) rfl) rfl) (ev_int)) (ew_or1 (et_not (et_tru (b_isi2 rfl T.z_isinstance (ea_cons (ev_ix (Room.u1 hr) (evV 1) (ev_int) (fun _ _ => rfl) (fun _ _ => rfl)) (ea_cons (ev_bltn (v := .ty "str") rfl T.z_str boot_str rfl (by decide) (by decide)) (ea_nil) rfl) rfl) rfl rfl) (fun _ => rfl))))))) (svs_one (sv_ret (ev_bl))) (svs_nil))
    (svs_cons (sv_if (et_in (Room.u65 hr) (ev_ix (Room.u1 hr) (evV 1) (ev_int) (fun _ _ => rfl) (fun _ _ => rfl)) (ev_lst (ea_cons (ev_str) (ea_cons (ev_str) (ea_nil) rfl) rfl)) rfl) (svs_cons (sv_if (et_neC (Room.u64 hr) (b_len rfl T.z_len (ea_cons (evV 1) (ea_nil) rfl) rfl) (ev_int)) (svs_one (sv_ret (ev_bl))) (svs_nil))
    (svs_one (sv_ret (ev_if (et_eqC (Room.u64 hr) (ev_ix (Room.u1 hr) (evV 1) (ev_int) (fun _ _ => rfl) (fun _ _ => rfl)) (ev_str)) (ev_callF (gd := false) (k := 2) (ps := ["_law_item", "_law_size_here"]) ((w__law_is_below T).mono (by decide)) hr (fun h => nomatch h) psOf rfl T.m__law_is_below T.F__law_is_below.kp T.b__law_is_below (ea_cons (ev_ix (Room.u1 hr) (evV 1) (ev_int) (fun _ _ => rfl) (fun _ _ => rfl)) (ea_cons (evV 0) (ea_nil) rfl) rfl) (by decide) rfl rfl) (ev_callF (gd := false) (k := 2) (ps := ["_law_item", "_law_size_here"]) ((w__law_is_letters T).mono (by decide)) hr (fun h => nomatch h) psOf rfl T.m__law_is_letters T.F__law_is_letters.kp T.b__law_is_letters (ea_cons (ev_ix (Room.u1 hr) (evV 1) (ev_int) (fun _ _ => rfl) (fun _ _ => rfl)) (ea_cons (evV 0) (ea_nil) rfl) rfl) (by decide) rfl rfl))))) (svs_nil))
    (svs_cons (sv_if (et_w (ew_or (et_notIn (Room.u65 hr) (ev_ix (Room.u1 hr) (evV 1) (ev_int) (fun _ _ => rfl) (fun _ _ => rfl)) (ev_lst (ea_cons (ev_str) (ea_cons (ev_str) (ea_nil) rfl) rfl)) rfl) (ew_or1 (et_neC (Room.u64 hr) (b_len rfl T.z_len (ea_cons (evV 1) (ea_nil) rfl) rfl) (ev_int))))) (svs_one (sv_ret (ev_bl))) (svs_nil))
    (svs_cons (sv_if (et_w (ew_or (et_not (et_tru (ev_callF (gd := false) (k := 2) (ps := ["_law_item", "_law_size_here"]) ((w__law_is_below T).mono (by decide)) hr (fun h => nomatch h) psOf rfl T.m__law_is_below T.F__law_is_below.kp T.b__law_is_below (ea_cons (ev_ix (Room.u1 hr) (evV 1) (ev_int) (fun _ _ => rfl) (fun _ _ => rfl)) (ea_cons (evV 0) (ea_nil) rfl) rfl) (by decide) rfl rfl) (fun _ => rfl))) (ew_or1 (et_not (et_tru (ev_callF (gd := false) (k := 2) (ps := ["_law_item", "_law_size_here"]) ((w__law_is_below T).mono (by decide)) hr (fun h => nomatch h) psOf rfl T.m__law_is_below T.F__law_is_below.kp T.b__law_is_below (ea_cons (ev_ix (Room.u1 hr) (evV 1) (ev_int) (fun _ _ => rfl) (fun _ _ => rfl)) (ea_cons (evV 0) (ea_nil) rfl) rfl) (by decide) rfl rfl) (fun _ => rfl)))))) (svs_one (sv_ret (ev_bl))) (svs_nil))
    (svs_one (sv_ret (ev_if (et_eqC (Room.u64 hr) (ev_ix (Room.u1 hr) (evV 1) (ev_int) (fun _ _ => rfl) (fun _ _ => rfl)) (ev_str)) (ev_lt (ev_ix (Room.u1 hr) (evV 1) (ev_int) (fun _ _ => rfl) (fun _ _ => rfl)) (ev_ix (Room.u1 hr) (evV 1) (ev_int) (fun _ _ => rfl) (fun _ _ => rfl))) (ev_neC (Room.u64 hr) (ev_ix (Room.u1 hr) (evV 1) (ev_int) (fun _ _ => rfl) (fun _ _ => rfl)) (ev_ix (Room.u1 hr) (evV 1) (ev_int) (fun _ _ => rfl) (fun _ _ => rfl)))))))))
theorem w__law_bad_word (T : Top K mg w P) : FnG P w K mg base false 3 T.f__law_bad_word T.d__law_bad_word ["_law_state"] (m__law_bad_word) := fng_of T.F__law_bad_word sc__law_bad_word fun cdv A outer s H E hc hr hgd => svs_cons (sv_set (i := 1) sc__law_bad_word.nd rfl (by first | exact .inl rfl | exact .inr rfl) (ev_lst (ea_cons (ev_non) (ea_cons (ev_int) (ea_cons (ev_str) (ea_cons (ev_tup (ea_nil)) (ea_cons (ev_tup (ea_cons (ev_int) (ea_nil) rfl)) (ea_cons (ev_tup (ea_cons (ev_int) (ea_cons (ev_str) (ea_nil) rfl) rfl)) (ea_cons (ev_tup (ea_cons (ev_int) (ea_cons (ev_str) (ea_nil) rfl) rfl)) (ea_cons (ev_tup (ea_cons (ev_int) (ea_cons (ev_str) (ea_nil) rfl) rfl)) (ea_cons (ev_tup (ea_cons (ev_bl) (ea_cons (ev_str) (ea_nil) rfl) rfl)) (ea_cons (ev_tup (ea_cons (ev_int) (ea_cons (ev_str) (ea_nil) rfl) rfl)) (ea_cons (ev_tup (ea_cons (ev_int) (ea_cons (ev_str) (ea_nil) rfl) rfl)) (ea_cons (ev_lst (ea_cons (ev_int) (ea_cons (ev_str) (ea_nil) rfl) rfl)) (ea_cons (ev_tup (ea_cons (ev_int) (ea_cons (ev_int) (ea_nil) rfl) rfl)) (ea_nil) rfl) rfl) rfl) rfl) rfl) rfl) rfl) rfl) rfl) rfl) rfl) rfl) rfl)) rfl (by first | exact .inl rfl | exact .inr rfl))
    (svs_cons (sv_set (i := 1) sc__law_bad_word.nd rfl (by first | exact .inl rfl | exact .inr rfl) (ev_add (evV 1) (ev_lst (ea_cons (ev_tup (ea_cons (ev_int) (ea_cons (ev_mul (ev_str) (ev_int)) (ea_nil) rfl) rfl)) (ea_cons (ev_tup (ea_cons (ev_str) (ea_cons (ev_str) (ea_nil) rfl) rfl)) (ea_cons (ev_tup (ea_cons (ev_int) (ea_cons (ev_tup (ea_cons (ev_str) (ea_nil) rfl)) (ea_nil) rfl) rfl)) (ea_cons (ev_tup (ea_cons (ev_int) (ea_cons (ev_str) (ea_cons (ev_int) (ea_nil) rfl) rfl) rfl)) (ea_cons (ev_tup (ea_cons (ev_neg (ev_int)) (ea_cons (ev_str) (ea_nil) rfl) rfl)) (ea_cons (ev_tup (ea_cons (ev_non) (ea_cons (ev_str) (ea_nil) rfl) rfl)) (ea_cons (ev_dic0) (ea_nil) rfl) rfl) rfl) rfl) rfl) rfl) rfl))) rfl (by first | exact .inl rfl | exact .inr rfl))
    (svs_one (sv_ret (ev_callF (gd := false) (k := 2) (ps := ["_law_state", "_law_several_here"]) ((w__law_pick T).mono (by decide)) hr (fun h => nomatch h) psOf rfl T.m__law_pick T.F__law_pick.kp T.b__law_pick (ea_cons (evV 0) (ea_cons (evV 1) (ea_nil) rfl) rfl) (by decide) rfl rfl))))
theorem w__law_bad_words (T : Top K mg w P) : FnG P w K mg base false 4 T.f__law_bad_words T.d__law_bad_words ["_law_state", "_law_several_here"] (m__law_bad_words_v2) := fng_of T.F__law_bad_words sc__law_bad_words fun cdv A outer s H E hc hr hgd => svs_cons (sv_set (i := 2) sc__law_bad_words.nd rfl (by first | exact .inl rfl | exact .inr rfl) (ev_callF (gd := false) (k := 3) (ps := ["_law_state", "_law_size_here"]) ((w__law_draw T).mono (by decide)) hr (fun h => nomatch h) psOf rfl T.m__law_draw T.F__law_draw.kp T.b__law_draw (ea_cons (evV 0) (ea_cons (ev_int) (ea_nil) rfl) rfl) (by decide) rfl rfl) rfl (by first | exact .inl rfl | exact .inr rfl))
    (svs_cons (sv_if (et_eqC (Room.u64 hr) (evV 2) (ev_int)) (svs_one (sv_ret (ev_add (evV 1) (ev_lst (ea_cons (ev_tup (ea_cons (ev_int) (ea_cons (ev_add (ev_ix (Room.u1 hr) (ev_ix (Room.u1 hr) (evV 1) (ev_int) (fun _ _ => rfl) (fun _ _ => rfl)) (ev_int) (fun _ _ => rfl) (fun _ _ => rfl)) (ev_str)) (ea_nil) rfl) rfl)) (ea_nil) rfl))))) (svs_nil))
    (svs_cons (sv_if (et_eqC (Room.u64 hr) (evV 2) (ev_int)) (svs_one (sv_ret (ev_sl (ev_mul (evV 1) (ev_int)) (eo_none) (eo_some (ev_int))))) (svs_nil))
    (svs_cons (sv_if (et_eqC (Room.u64 hr) (evV 2) (ev_int)) (svs_one (sv_ret (ev_add (ev_lst (ea_cons (ev_callF (gd := false) (k := 3) (ps := ["_law_state"]) ((w__law_bad_word T).mono (by decide)) hr (fun h => nomatch h) psOf rfl T.m__law_bad_word T.F__law_bad_word.kp T.b__law_bad_word (ea_cons (evV 0) (ea_nil) rfl) (by decide) rfl rfl) (ea_nil) rfl)) (ev_sl (evV 1) (eo_some (ev_int)) (eo_none))))) (svs_nil))
    (svs_cons (sv_if (et_eqC (Room.u64 hr) (evV 2) (ev_int)) (svs_one (sv_ret (ev_add (ev_sl (evV 1) (eo_none) (eo_some (ev_neg (ev_int)))) (ev_lst (ea_cons (ev_callF (gd := false) (k := 3) (ps := ["_law_state"]) ((w__law_bad_word T).mono (by decide)) hr (fun h => nomatch h) psOf rfl T.m__law_bad_word T.F__law_bad_word.kp T.b__law_bad_word (ea_cons (evV 0) (ea_nil) rfl) (by decide) rfl rfl) (ea_nil) rfl))))) (svs_nil))
    (svs_one (sv_ret (ev_callF (gd := false) (k := 3) (ps := ["_law_state", "_law_several_here"]) ((w__law_pick T).mono (by decide)) hr (fun h => nomatch h) psOf rfl T.m__law_pick T.F__law_pick.kp T.b__law_pick (ea_cons (evV 0) (ea_cons (ev_lst (ea_cons (ev_lst (ea_nil)) (ea_cons (ev_tup (ea_nil)) (ea_cons (ev_non) (ea_cons (ev_int) (ea_cons (ev_str) (ea_cons (ev_dic0) (ea_cons (ev_ix (Room.u1 hr) (evV 1) (ev_int) (fun _ _ => rfl) (fun _ _ => rfl)) (ea_cons (ev_bl) (ea_cons (ev_lst (ea_cons (evV 1) (ea_nil) rfl)) (ea_cons (ev_lst (ea_cons (ev_str) (ea_cons (ev_str) (ea_nil) rfl) rfl)) (ea_cons (ev_dic (ep_int (ev_ix (Room.u1 hr) (evV 1) (ev_int) (fun _ _ => rfl) (fun _ _ => rfl)) (ep_nil)) rfl rfl (List.cons_ne_nil _ _) (by decide) (of_decide_eq_true rfl) (by decide +kernel)) (ea_nil) rfl) rfl) rfl) rfl) rfl) rfl) rfl) rfl) rfl) rfl) rfl)) (ea_nil) rfl) rfl) (by decide) rfl rfl)))))))
theorem w__law_says (T : Top K mg w P) : FnG P w K mg base false 1 T.f__law_says T.d__law_says ["_law_found", "_law_due"] (m__law_says) := fng_of T.F__law_says sc__law_says fun cdv A outer s H E hc hr hgd => svs_one (sv_ret (ev_if (et_tru (evV 1) (fun _ => rfl)) (ev_is (evV 0) (ev_bl)) (ev_is (evV 0) (ev_bl))))
theorem w_is_row (T : Top K mg w P) : FnG P w K mg base false 1 T.f_is_row T.d_is_row ["thing"] (m_is_row) := fng_of T.F_is_row sc_is_row fun cdv A outer s H E hc hr hgd => svs_one (sv_ret (b_isi2 rfl T.z_isinstance (ea_cons (evV 0) (ea_cons (ev_tup (ea_cons (ev_bltn (v := .ty "list") rfl T.z_list boot_list rfl (by decide) (by decide)) (ea_cons (ev_bltn (v := .ty "tuple") rfl T.z_tuple boot_tuple rfl (by decide) (by decide)) (ea_nil) rfl) rfl)) (ea_nil) rfl) rfl) rfl rfl))
theorem w_is_sign (T : Top K mg w P) : FnG P w K mg base false 2 T.f_is_sign T.d_is_sign ["thing"] (m_is_sign) := fng_of T.F_is_sign sc_is_sign fun cdv A outer s H E hc hr hgd => svs_one (sv_ret (ev_andB (ev_callF (gd := false) (k := 1) (ps := ["thing"]) ((w_is_number T).mono (by decide)) hr (fun h => nomatch h) psOf rfl T.m_is_number T.F_is_number.kp T.b_is_number (ea_cons (evV 0) (ea_nil) rfl) (by decide) rfl rfl) (ev_one (ev_in (Room.u65 hr) (evV 0) (ev_tup (ea_cons (ev_int) (ea_cons (ev_neg (ev_int)) (ea_nil) rfl) rfl)) rfl))))
theorem w_is_word (T : Top K mg w P) : FnG P w K mg base false 3 T.f_is_word T.d_is_word ["thing"] (m_is_word) := fng_of T.F_is_word sc_is_word fun cdv A outer s H E hc hr hgd => svs_cons (sv_if (et_w (ew_or (et_not (et_tru (b_isi2 rfl T.z_isinstance (ea_cons (evV 0) (ea_cons (ev_bltn (v := .ty "tuple") rfl T.z_tuple boot_tuple rfl (by decide) (by decide)) (ea_nil) rfl) rfl) rfl rfl) (fun _ => rfl))) (ew_or (et_neC (Room.u64 hr) (b_len rfl T.z_len (ea_cons (evV 0) (ea_nil) rfl) rfl) (ev_int)) (ew_or1 (et_not (et_tru (ev_callF (gd := false) (k := 2) (ps := ["thing"]) ((w_is_sign T).mono (by decide)) hr (fun h => nomatch h) psOf rfl T.m_is_sign T.F_is_sign.kp T.b_is_sign (ea_cons (ev_ix (Room.u1 hr) (evV 0) (ev_int) (fun _ _ => rfl) (fun _ _ => rfl)) (ea_nil) rfl) (by decide) rfl rfl) (fun _ => rfl))))))) (svs_one (sv_ret (ev_bl))) (svs_nil))
    (svs_cons (sv_set (i := 1) sc_is_word.nd rfl (by first | exact .inl rfl | exact .inr rfl) (ev_ix (Room.u1 hr) (evV 0) (ev_int) (fun _ _ => rfl) (fun _ _ => rfl)) rfl (by first | exact .inl rfl | exact .inr rfl))
    (svs_one (sv_ret (ev_andB (b_isi2 rfl T.z_isinstance (ea_cons (evV 1) (ea_cons (ev_bltn (v := .ty "str") rfl T.z_str boot_str rfl (by decide) (by decide)) (ea_nil) rfl) rfl) rfl rfl) (ev_andB (ev_chain op_le bo_B0 op_le bo_B0 (ev_int) (b_len rfl T.z_len (ea_cons (evV 1) (ea_nil) rfl) rfl) (ev_glob (v := .int 12) rfl T.g_MOST_LENGTH.choose_spec ⟨_, rfl⟩ (fun _ _ => .int _) (by decide)) (by with_unfolding_all rfl)) (ev_one (b_all rfl rfl T.z_all (ea_cons (ev_ofF (ef_lc rfl sc_is_word.nd (ei_seq (evV 1)) (own := [("one", 2)]) (blkOk_by (N := ["thing", "letters", "one"]) (sc := defScope s_is_word) (by decide +kernel)) (fun _ _ _ _ _ => gv_name (i := 2) sc_is_word.nd rfl (by first | exact .inl rfl | exact .inr rfl) (by first | exact .inl rfl | exact .inr rfl)) (fun _ _ _ _ _ => ets_nil) (fun _ _ _ _ _ => ev_in (Room.u65 hr) (evV 2) (ev_glob (v := .str "1abc") rfl T.g_LETTERS.choose_spec ⟨_, rfl⟩ (fun _ _ => .str _) (by decide)) rfl) (by decide) (fun _ => rfl))) (ea_nil) rfl) rfl)))))))
theorem w_need_words (T : Top K mg w P) : FnG P w K mg base false 4 T.f_need_words T.d_need_words ["words"] (m_need_words) := fng_of T.F_need_words sc_need_words fun cdv A outer s H E hc hr hgd => svs_cons (sv_if (et_w (ew_or (et_not (et_tru (ev_callF (gd := false) (k := 3) (ps := ["thing"]) ((w_is_row T).mono (by decide)) hr (fun h => nomatch h) psOf rfl T.m_is_row T.F_is_row.kp T.b_is_row (ea_cons (evV 0) (ea_nil) rfl) (by decide) rfl rfl) (fun _ => rfl))) (ew_or (et_not (et_chain op_le bo_B0 op_le bo_B0 (ev_int) (b_len rfl T.z_len (ea_cons (evV 0) (ea_nil) rfl) rfl) (ev_glob (v := .int 15) rfl T.g_MOST_WORDS.choose_spec ⟨_, rfl⟩ (fun _ _ => .int _) (by decide)) (by with_unfolding_all rfl))) (ew_or1 (et_not (et_tru (b_all rfl rfl T.z_all (ea_cons (ev_ofF (ef_lc rfl sc_need_words.nd (ei_seq (evV 0)) (own := [("word", 1)]) (blkOk_by (N := ["words", "word"]) (sc := defScope s_need_words) (by decide +kernel)) (fun _ _ _ _ _ => gv_name (i := 1) sc_need_words.nd rfl (by first | exact .inl rfl | exact .inr rfl) (by first | exact .inl rfl | exact .inr rfl)) (fun _ _ _ _ _ => ets_nil) (fun _ _ _ _ _ => ev_callF (gd := false) (k := 3) (ps := ["thing"]) ((w_is_word T).mono (by decide)) hr (fun h => nomatch h) pass_never rfl T.m_is_word T.F_is_word.kp T.b_is_word (ea_cons (evV 1) (ea_nil) rfl) (by decide) rfl rfl) (by decide) (fun _ => rfl))) (ea_nil) rfl) rfl) (fun _ => rfl))))))) (svs_one (sv_raise rfl tkOf T.M_BadWords (pmk_own PySem.F.excBase_ValueError T.q_BadWords T.M_BadWords T.k_BadWords (raises_own T.r_BadWords T.t_BadWords) rfl (by decide)))) (svs_nil))
    (svs_one (sv_if (et_tru (b_any rfl rfl T.z_any (ea_cons (ev_ofF (ef_lc rfl sc_need_words.nd (ei_seq (evV 0)) (own := [("word", 1)]) (blkOk_by (N := ["words", "word"]) (sc := defScope s_need_words) (by decide +kernel)) (fun _ _ _ _ _ => gv_name (i := 1) sc_need_words.nd rfl (by first | exact .inl rfl | exact .inr rfl) (by first | exact .inl rfl | exact .inr rfl)) (fun _ _ _ _ _ => ets_nil) (fun _ _ _ _ _ => ev_neC (Room.u64 hr) (b_len rfl T.z_len (ea_cons (ev_ix (Room.u1 hr) (evV 1) (ev_int) (fun _ _ => rfl) (fun _ _ => rfl)) (ea_nil) rfl) rfl) (b_len rfl T.z_len (ea_cons (ev_ix (Room.u1 hr) (ev_ix (Room.u1 hr) (evV 0) (ev_int) (fun _ _ => rfl) (fun _ _ => rfl)) (ev_int) (fun _ _ => rfl) (fun _ _ => rfl)) (ea_nil) rfl) rfl)) (by decide) (fun _ => rfl))) (ea_nil) rfl) rfl) (fun _ => rfl)) (svs_one (sv_raise rfl tkOf T.M_BadWords (pmk_own PySem.F.excBase_ValueError T.q_BadWords T.M_BadWords T.k_BadWords (raises_own T.r_BadWords T.t_BadWords) rfl (by decide)))) (svs_nil)))
theorem w_is_odd (T : Top K mg w P) : FnG P w K mg base false 1 T.f_is_odd T.d_is_odd ["mask"] (m_is_odd) := fng_of T.F_is_odd sc_is_odd fun cdv A outer s H E hc hr hgd => svs_cons (sv_set (i := 1) sc_is_odd.nd rfl (by first | exact .inl rfl | exact .inr rfl) (ev_bl) rfl (by first | exact .inl rfl | exact .inr rfl))
    (svs_cons (sv_while mu_is_odd_0 owOf (et_gt (evV 0) (ev_int)) (svs_one (sv_par (i := 0) (j := 1) rfl sc_is_odd.nd rfl rfl (by decide) rfl rfl (ea_cons (ev_and (evV 0) (ev_sub (evV 0) (ev_int))) (ea_cons (ev_not (evV 1)) (ea_nil) rfl) rfl) rfl rfl)))
    (svs_one (sv_ret (evV 1))))
theorem w_is_crossed (T : Top K mg w P) : FnG P w K mg base false 2 T.f_is_crossed T.d_is_crossed ["one", "other"] (m_is_crossed) := fng_of T.F_is_crossed sc_is_crossed fun cdv A outer s H E hc hr hgd => svs_one (sv_ret (ev_callF (gd := false) (k := 1) (ps := ["mask"]) ((w_is_odd T).mono (by decide)) hr (fun h => nomatch h) psOf rfl T.m_is_odd T.F_is_odd.kp T.b_is_odd (ea_cons (ev_and (ev_and (ev_shr (evV 0) (ev_int)) (evV 1)) (ev_glob (v := .int 5592405) rfl T.g_A_FIGURES.choose_spec ⟨_, rfl⟩ (fun _ _ => .int _) (by decide))) (ea_nil) rfl) (by decide) rfl rfl))
theorem w_is_past (T : Top K mg w P) : FnG P w K mg base false 3 T.f_is_past T.d_is_past ["one", "other"] (m_is_past) := fng_of T.F_is_past sc_is_past fun cdv A outer s H E hc hr hgd => svs_one (sv_ret (ev_eqC (Room.u64 hr) (ev_callF (gd := false) (k := 2) (ps := ["one", "other"]) ((w_is_crossed T).mono (by decide)) hr (fun h => nomatch h) psOf rfl T.m_is_crossed T.F_is_crossed.kp T.b_is_crossed (ea_cons (evV 0) (ea_cons (evV 1) (ea_nil) rfl) rfl) (by decide) rfl rfl) (ev_callF (gd := false) (k := 2) (ps := ["one", "other"]) ((w_is_crossed T).mono (by decide)) hr (fun h => nomatch h) psOf rfl T.m_is_crossed T.F_is_crossed.kp T.b_is_crossed (ea_cons (evV 1) (ea_cons (evV 0) (ea_nil) rfl) rfl) (by decide) rfl rfl)))
theorem w_code_of (T : Top K mg w P) : FnG P w K mg base false 1 T.f_code_of T.d_code_of ["word"] (m_code_of) := fng_of T.F_code_of sc_code_of fun cdv A outer s H E hc hr hgd => svs_one (sv_ret (b_sum rfl rfl T.z_sum (ea_cons (ev_ofF (ef_lc rfl sc_code_of.nd (ei_enumT rfl T.z_enumerate (ea_cons (ev_ix (Room.u1 hr) (evV 0) (ev_int) (fun _ _ => rfl) (fun _ _ => rfl)) (ea_nil) rfl) rfl) (own := [("at", 1), ("letter", 2)]) (blkOk_by (N := ["word", "at", "letter"]) (sc := defScope s_code_of) (by decide +kernel)) (fun _ _ _ _ _ => gv_tup rfl (gvs_cons (gv_name (i := 1) sc_code_of.nd rfl (by first | exact .inl rfl | exact .inr rfl) (by first | exact .inl rfl | exact .inr rfl)) (gvs_cons (gv_name (i := 2) sc_code_of.nd rfl (by first | exact .inl rfl | exact .inr rfl) (by first | exact .inl rfl | exact .inr rfl)) (gvs_nil) rfl) rfl) rfl rfl) (fun _ _ _ _ _ => ets_nil) (fun _ _ _ _ _ => ev_shl (ev_index rfl (ev_glob (v := .str "1abc") rfl T.g_LETTERS.choose_spec ⟨_, rfl⟩ (fun _ _ => .str _) (by decide)) (ea_cons (evV 2) (ea_nil) rfl) rfl rfl rfl rfl) (ev_mul (ev_int) (evV 1))) (by decide) (fun _ => rfl))) (ea_nil) rfl) rfl))
theorem w_past_of (T : Top K mg w P) : FnG P w K mg base false 4 T.f_past_of T.d_past_of ["one", "other"] (m_past_of) := fng_of T.F_past_of sc_past_of fun cdv A outer s H E hc hr hgd => svs_one (sv_ret (ev_callF (gd := false) (k := 3) (ps := ["one", "other"]) ((w_is_past T).mono (by decide)) hr (fun h => nomatch h) psOf rfl T.m_is_past T.F_is_past.kp T.b_is_past (ea_cons (ev_callF (gd := false) (k := 3) (ps := ["word"]) ((w_code_of T).mono (by decide)) hr (fun h => nomatch h) psOf rfl T.m_code_of T.F_code_of.kp T.b_code_of (ea_cons (evV 0) (ea_nil) rfl) (by decide) rfl rfl) (ea_cons (ev_callF (gd := false) (k := 3) (ps := ["word"]) ((w_code_of T).mono (by decide)) hr (fun h => nomatch h) psOf rfl T.m_code_of T.F_code_of.kp T.b_code_of (ea_cons (evV 1) (ea_nil) rfl) (by decide) rfl rfl) (ea_nil) rfl) rfl) (by decide) rfl rfl))
theorem w_turned (T : Top K mg w P) : FnG P w K mg base false 5 T.f_turned T.d_turned ["word", "letters"] (m_turned) := fng_of T.F_turned sc_turned fun cdv A outer s H E hc hr hgd => svs_one (sv_ret (ev_if (et_tru (ev_callF (gd := false) (k := 4) (ps := ["one", "other"]) ((w_past_of T).mono (by decide)) hr (fun h => nomatch h) psOf rfl T.m_past_of T.F_past_of.kp T.b_past_of (ea_cons (evV 0) (ea_cons (ev_tup (ea_cons (ev_int) (ea_cons (evV 1) (ea_nil) rfl) rfl)) (ea_nil) rfl) rfl) (by decide) rfl rfl) (fun _ => rfl)) (evV 0) (ev_tup (ea_cons (ev_neg (ev_ix (Room.u1 hr) (evV 0) (ev_int) (fun _ _ => rfl) (fun _ _ => rfl))) (ea_cons (ev_ix (Room.u1 hr) (evV 0) (ev_int) (fun _ _ => rfl) (fun _ _ => rfl)) (ea_nil) rfl) rfl))))
theorem w_with_letter (T : Top K mg w P) : FnG P w K mg base false 1 T.f_with_letter T.d_with_letter ["letters", "place", "letter"] (m_with_letter) := fng_of T.F_with_letter sc_with_letter fun cdv A outer s H E hc hr hgd => svs_one (sv_ret (ev_add (ev_add (ev_sl (evV 0) (eo_none) (eo_some (evV 1))) (evV 2)) (ev_sl (evV 0) (eo_some (ev_add (evV 1) (ev_int))) (eo_none))))
theorem w_letter_swapped (T : Top K mg w P) : FnG P w K mg base false 2 T.f_letter_swapped T.d_letter_swapped ["word", "place"] (m_letter_swapped) := fng_of T.F_letter_swapped sc_letter_swapped fun cdv A outer s H E hc hr hgd => svs_cons (sv_asg (evV 0) (gv_tup rfl (gvs_cons (gv_name (i := 2) sc_letter_swapped.nd rfl (by first | exact .inl rfl | exact .inr rfl) (by first | exact .inl rfl | exact .inr rfl)) (gvs_cons (gv_name (i := 3) sc_letter_swapped.nd rfl (by first | exact .inl rfl | exact .inr rfl) (by first | exact .inl rfl | exact .inr rfl)) (gvs_nil) rfl) rfl) rfl rfl) rfl rfl rfl)
    (svs_cons (sv_set (i := 4) sc_letter_swapped.nd rfl (by first | exact .inl rfl | exact .inr rfl) (ev_ix (Room.u1 hr) (evV 3) (evV 1) (fun _ _ => rfl) (fun _ _ => rfl)) rfl (by first | exact .inl rfl | exact .inr rfl))
    (svs_one (sv_ret (ev_tup (ea_cons (ev_if (et_eqC (Room.u64 hr) (evV 4) (ev_str)) (ev_neg (evV 2)) (evV 2)) (ea_cons (ev_callF (gd := false) (k := 1) (ps := ["letters", "place", "letter"]) ((w_with_letter T).mono (by decide)) hr (fun h => nomatch h) psOf rfl T.m_with_letter T.F_with_letter.kp T.b_with_letter (ea_cons (evV 3) (ea_cons (evV 1) (ea_cons (ev_kd T.kd_SWAPPED (ev_glob (v := .ref T.a_SWAPPED) rfl T.M_SWAPPED rfl (fun _ _ => .op _) (by decide)) (evV 4)) (ea_nil) rfl) rfl) rfl) (by decide) rfl rfl) (ea_nil) rfl) rfl)))))
theorem w_traded (T : Top K mg w P) : FnG P w K mg base false 2 T.f_traded T.d_traded ["word", "place", "second"] (m_traded) := fng_of T.F_traded sc_traded fun cdv A outer s H E hc hr hgd => svs_cons (sv_asg (evV 0) (gv_tup rfl (gvs_cons (gv_name (i := 3) sc_traded.nd rfl (by first | exact .inl rfl | exact .inr rfl) (by first | exact .inl rfl | exact .inr rfl)) (gvs_cons (gv_name (i := 4) sc_traded.nd rfl (by first | exact .inl rfl | exact .inr rfl) (by first | exact .inl rfl | exact .inr rfl)) (gvs_nil) rfl) rfl) rfl rfl) rfl rfl rfl)
    (svs_one (sv_ret (ev_tup (ea_cons (evV 3) (ea_cons (ev_callF (gd := false) (k := 1) (ps := ["letters", "place", "letter"]) ((w_with_letter T).mono (by decide)) hr (fun h => nomatch h) psOf rfl T.m_with_letter T.F_with_letter.kp T.b_with_letter (ea_cons (ev_callF (gd := false) (k := 1) (ps := ["letters", "place", "letter"]) ((w_with_letter T).mono (by decide)) hr (fun h => nomatch h) psOf rfl T.m_with_letter T.F_with_letter.kp T.b_with_letter (ea_cons (evV 4) (ea_cons (evV 1) (ea_cons (ev_ix (Room.u1 hr) (evV 4) (evV 2) (fun _ _ => rfl) (fun _ _ => rfl)) (ea_nil) rfl) rfl) rfl) (by decide) rfl rfl) (ea_cons (evV 2) (ea_cons (ev_ix (Room.u1 hr) (evV 4) (evV 1) (fun _ _ => rfl) (fun _ _ => rfl)) (ea_nil) rfl) rfl) rfl) (by decide) rfl rfl) (ea_nil) rfl) rfl))))
theorem w_letters_of (T : Top K mg w P) : FnG P w K mg base false 1 T.f_letters_of T.d_letters_of ["code", "length"] (m_letters_of) := fng_of T.F_letters_of sc_letters_of fun cdv A outer s H E hc hr hgd => svs_one (sv_ret (ev_join (ev_str) (ea_cons (ev_ofF (ef_lc rfl sc_letters_of.nd (ei_range1 rfl T.z_range (ea_cons (evV 1) (ea_nil) rfl) rfl) (own := [("at", 2)]) (blkOk_by (N := ["code", "length", "at"]) (sc := defScope s_letters_of) (by decide +kernel)) (fun _ _ _ _ _ => gv_name (i := 2) sc_letters_of.nd rfl (by first | exact .inl rfl | exact .inr rfl) (by first | exact .inl rfl | exact .inr rfl)) (fun _ _ _ _ _ => ets_nil) (fun _ _ _ _ _ => ev_ix (Room.u1 hr) (ev_glob (v := .str "1abc") rfl T.g_LETTERS.choose_spec ⟨_, rfl⟩ (fun _ _ => .str _) (by decide)) (ev_and (ev_shr (evV 0) (ev_mul (ev_int) (evV 2))) (ev_int)) (fun _ _ => rfl) (fun _ _ => rfl)) (by decide) (fun _ => rfl))) (ea_nil) rfl) rfl rfl rfl rfl))
theorem w_put_of (T : Top K mg w P) : FnG P w K mg base false 3 T.f_put_of T.d_put_of ["one", "other"] (m_put_of) := fng_of T.F_put_of sc_put_of fun cdv A outer s H E hc hr hgd => svs_cons (sv_par (i := 2) (j := 3) rfl sc_put_of.nd rfl rfl (by decide) rfl rfl (ea_cons (ev_callF (gd := false) (k := 2) (ps := ["word"]) ((w_code_of T).mono (by decide)) hr (fun h => nomatch h) psOf rfl T.m_code_of T.F_code_of.kp T.b_code_of (ea_cons (evV 0) (ea_nil) rfl) (by decide) rfl rfl) (ea_cons (ev_callF (gd := false) (k := 2) (ps := ["word"]) ((w_code_of T).mono (by decide)) hr (fun h => nomatch h) psOf rfl T.m_code_of T.F_code_of.kp T.b_code_of (ea_cons (evV 1) (ea_nil) rfl) (by decide) rfl rfl) (ea_nil) rfl) rfl) rfl rfl)
    (svs_cons (sv_set (i := 4) sc_put_of.nd rfl (by first | exact .inl rfl | exact .inr rfl) (ev_if (et_tru (ev_callF (gd := false) (k := 2) (ps := ["one", "other"]) ((w_is_crossed T).mono (by decide)) hr (fun h => nomatch h) psOf rfl T.m_is_crossed T.F_is_crossed.kp T.b_is_crossed (ea_cons (evV 2) (ea_cons (evV 3) (ea_nil) rfl) rfl) (by decide) rfl rfl) (fun _ => rfl)) (ev_mul (ev_neg (ev_ix (Room.u1 hr) (evV 0) (ev_int) (fun _ _ => rfl) (fun _ _ => rfl))) (ev_ix (Room.u1 hr) (evV 1) (ev_int) (fun _ _ => rfl) (fun _ _ => rfl))) (ev_mul (ev_ix (Room.u1 hr) (evV 0) (ev_int) (fun _ _ => rfl) (fun _ _ => rfl)) (ev_ix (Room.u1 hr) (evV 1) (ev_int) (fun _ _ => rfl) (fun _ _ => rfl)))) rfl (by first | exact .inl rfl | exact .inr rfl))
    (svs_one (sv_ret (ev_tup (ea_cons (evV 4) (ea_cons (ev_callF (gd := false) (k := 2) (ps := ["code", "length"]) ((w_letters_of T).mono (by decide)) hr (fun h => nomatch h) psOf rfl T.m_letters_of T.F_letters_of.kp T.b_letters_of (ea_cons (ev_xor (evV 2) (evV 3)) (ea_cons (b_len rfl T.z_len (ea_cons (ev_ix (Room.u1 hr) (evV 0) (ev_int) (fun _ _ => rfl) (fun _ _ => rfl)) (ea_nil) rfl) rfl) (ea_nil) rfl) rfl) (by decide) rfl rfl) (ea_nil) rfl) rfl)))))
theorem w_sign_and_letter (T : Top K mg w P) : FnG P w K mg base false 4 T.f_sign_and_letter T.d_sign_and_letter ["one", "other"] (m_sign_and_letter) := fng_of T.F_sign_and_letter sc_sign_and_letter fun cdv A outer s H E hc hr hgd => svs_one (sv_ret (ev_callF (gd := false) (k := 3) (ps := ["one", "other"]) ((w_put_of T).mono (by decide)) hr (fun h => nomatch h) psOf rfl T.m_put_of T.F_put_of.kp T.b_put_of (ea_cons (ev_tup (ea_cons (ev_int) (ea_cons (evV 0) (ea_nil) rfl) rfl)) (ea_cons (ev_tup (ea_cons (ev_int) (ea_cons (evV 1) (ea_nil) rfl) rfl)) (ea_nil) rfl) rfl) (by decide) rfl rfl))
theorem w_leaned (T : Top K mg w P) : FnG P w K mg base false 5 T.f_leaned T.d_leaned ["word", "place", "second"] (m_leaned) := fng_of T.F_leaned sc_leaned fun cdv A outer s H E hc hr hgd => svs_cons (sv_asg (evV 0) (gv_tup rfl (gvs_cons (gv_name (i := 3) sc_leaned.nd rfl (by first | exact .inl rfl | exact .inr rfl) (by first | exact .inl rfl | exact .inr rfl)) (gvs_cons (gv_name (i := 4) sc_leaned.nd rfl (by first | exact .inl rfl | exact .inr rfl) (by first | exact .inl rfl | exact .inr rfl)) (gvs_nil) rfl) rfl) rfl rfl) rfl rfl rfl)
    (svs_cons (sv_set (i := 5) sc_leaned.nd rfl (by first | exact .inl rfl | exact .inr rfl) (ev_if (et_in (Room.u65 hr) (ev_ix (Room.u1 hr) (evV 4) (evV 1) (fun _ _ => rfl) (fun _ _ => rfl)) (ev_str) rfl) (ev_str) (ev_str)) rfl (by first | exact .inl rfl | exact .inr rfl))
    (svs_cons (sv_set (i := 6) sc_leaned.nd rfl (by first | exact .inl rfl | exact .inr rfl) (ev_if (et_in (Room.u65 hr) (ev_ix (Room.u1 hr) (evV 4) (evV 2) (fun _ _ => rfl) (fun _ _ => rfl)) (ev_str) rfl) (ev_str) (ev_str)) rfl (by first | exact .inl rfl | exact .inr rfl))
    (svs_cons (sv_asg (ev_callF (gd := false) (k := 4) (ps := ["one", "other"]) ((w_sign_and_letter T).mono (by decide)) hr (fun h => nomatch h) psOf rfl T.m_sign_and_letter T.F_sign_and_letter.kp T.b_sign_and_letter (ea_cons (ev_ix (Room.u1 hr) (evV 4) (evV 1) (fun _ _ => rfl) (fun _ _ => rfl)) (ea_cons (evV 6) (ea_nil) rfl) rfl) (by decide) rfl rfl) (gv_tup rfl (gvs_cons (gv_name (i := 7) sc_leaned.nd rfl (by first | exact .inl rfl | exact .inr rfl) (by first | exact .inl rfl | exact .inr rfl)) (gvs_cons (gv_name (i := 8) sc_leaned.nd rfl (by first | exact .inl rfl | exact .inr rfl) (by first | exact .inl rfl | exact .inr rfl)) (gvs_nil) rfl) rfl) rfl rfl) rfl rfl rfl)
    (svs_cons (sv_asg (ev_callF (gd := false) (k := 4) (ps := ["one", "other"]) ((w_sign_and_letter T).mono (by decide)) hr (fun h => nomatch h) psOf rfl T.m_sign_and_letter T.F_sign_and_letter.kp T.b_sign_and_letter (ea_cons (evV 5) (ea_cons (ev_ix (Room.u1 hr) (evV 4) (evV 2) (fun _ _ => rfl) (fun _ _ => rfl)) (ea_nil) rfl) rfl) (by decide) rfl rfl) (gv_tup rfl (gvs_cons (gv_name (i := 9) sc_leaned.nd rfl (by first | exact .inl rfl | exact .inr rfl) (by first | exact .inl rfl | exact .inr rfl)) (gvs_cons (gv_name (i := 10) sc_leaned.nd rfl (by first | exact .inl rfl | exact .inr rfl) (by first | exact .inl rfl | exact .inr rfl)) (gvs_nil) rfl) rfl) rfl rfl) rfl rfl rfl)
    (svs_one (sv_ret (ev_tup (ea_cons (ev_mul (ev_mul (evV 3) (evV 7)) (evV 9)) (ea_cons (ev_callF (gd := false) (k := 4) (ps := ["letters", "place", "letter"]) ((w_with_letter T).mono (by decide)) hr (fun h => nomatch h) psOf rfl T.m_with_letter T.F_with_letter.kp T.b_with_letter (ea_cons (ev_callF (gd := false) (k := 4) (ps := ["letters", "place", "letter"]) ((w_with_letter T).mono (by decide)) hr (fun h => nomatch h) psOf rfl T.m_with_letter T.F_with_letter.kp T.b_with_letter (ea_cons (evV 4) (ea_cons (evV 1) (ea_cons (evV 8) (ea_nil) rfl) rfl) rfl) (by decide) rfl rfl) (ea_cons (evV 2) (ea_cons (evV 10) (ea_nil) rfl) rfl) rfl) (by decide) rfl rfl) (ea_nil) rfl) rfl))))))))
theorem w_moved_word (T : Top K mg w P) : FnG P w K mg base false 6 T.f_moved_word T.d_moved_word ["word", "move"] (m_moved_word) := fng_of T.F_moved_word sc_moved_word fun cdv A outer s H E hc hr hgd => svs_cons (sv_if (et_eqC (Room.u64 hr) (ev_ix (Room.u1 hr) (evV 1) (ev_int) (fun _ _ => rfl) (fun _ _ => rfl)) (ev_str)) (svs_one (sv_ret (ev_callF (gd := false) (k := 5) (ps := ["word", "place"]) ((w_letter_swapped T).mono (by decide)) hr (fun h => nomatch h) psOf rfl T.m_letter_swapped T.F_letter_swapped.kp T.b_letter_swapped (ea_cons (evV 0) (ea_cons (ev_ix (Room.u1 hr) (evV 1) (ev_int) (fun _ _ => rfl) (fun _ _ => rfl)) (ea_nil) rfl) rfl) (by decide) rfl rfl))) (svs_nil))
    (svs_cons (sv_if (et_eqC (Room.u64 hr) (ev_ix (Room.u1 hr) (evV 1) (ev_int) (fun _ _ => rfl) (fun _ _ => rfl)) (ev_str)) (svs_one (sv_ret (ev_callF (gd := false) (k := 5) (ps := ["word", "place", "second"]) ((w_traded T).mono (by decide)) hr (fun h => nomatch h) psOf rfl T.m_traded T.F_traded.kp T.b_traded (ea_cons (evV 0) (ea_cons (ev_ix (Room.u1 hr) (evV 1) (ev_int) (fun _ _ => rfl) (fun _ _ => rfl)) (ea_cons (ev_ix (Room.u1 hr) (evV 1) (ev_int) (fun _ _ => rfl) (fun _ _ => rfl)) (ea_nil) rfl) rfl) rfl) (by decide) rfl rfl))) (svs_nil))
    (svs_cons (sv_if (et_eqC (Room.u64 hr) (ev_ix (Room.u1 hr) (evV 1) (ev_int) (fun _ _ => rfl) (fun _ _ => rfl)) (ev_str)) (svs_one (sv_ret (ev_callF (gd := false) (k := 5) (ps := ["word", "place", "second"]) ((w_leaned T).mono (by decide)) hr (fun h => nomatch h) psOf rfl T.m_leaned T.F_leaned.kp T.b_leaned (ea_cons (evV 0) (ea_cons (ev_ix (Room.u1 hr) (evV 1) (ev_int) (fun _ _ => rfl) (fun _ _ => rfl)) (ea_cons (ev_ix (Room.u1 hr) (evV 1) (ev_int) (fun _ _ => rfl) (fun _ _ => rfl)) (ea_nil) rfl) rfl) rfl) (by decide) rfl rfl))) (svs_nil))
    (svs_one (sv_ret (ev_callF (gd := false) (k := 5) (ps := ["word", "letters"]) ((w_turned T).mono (by decide)) hr (fun h => nomatch h) psOf rfl T.m_turned T.F_turned.kp T.b_turned (ea_cons (evV 0) (ea_cons (ev_ix (Room.u1 hr) (evV 1) (ev_int) (fun _ _ => rfl) (fun _ _ => rfl)) (ea_nil) rfl) rfl) (by decide) rfl rfl)))))
theorem w_led_of (T : Top K mg w P) : FnG P w K mg base false 7 T.f_led_of T.d_led_of ["words", "moves"] (m_led_of) := fng_of T.F_led_of sc_led_of fun cdv A outer s H E hc hr hgd => svs_cons (sv_set (i := 2) sc_led_of.nd rfl (by first | exact .inl rfl | exact .inr rfl) (b_list2 rfl rfl T.z_list (ea_cons (evV 0) (ea_nil) rfl) rfl) rfl (by first | exact .inl rfl | exact .inr rfl))
    (svs_cons (sv_for owOf rfl (ei_seq (evV 1)) (gv_name (i := 3) sc_led_of.nd rfl (by first | exact .inl rfl | exact .inr rfl) (by first | exact .inl rfl | exact .inr rfl)) (svs_one (sv_setLc (i := 2) eOfF (fun _ _ _ _ h => data_use h) rfl sc_led_of.nd rfl rfl (sw_true rfl rfl rfl rfl) (ei_seq (evV 2)) (own := [("word", 4)]) (blkOk_by (N := ["words", "moves", "found", "move", "word"]) (sc := defScope s_led_of) (by decide +kernel)) (fun _ _ _ _ _ => gv_name (i := 4) sc_led_of.nd rfl (by first | exact .inl rfl | exact .inr rfl) (by first | exact .inl rfl | exact .inr rfl)) (fun _ _ _ _ _ => ets_nil) (fun _ _ _ _ _ => ev_callF (gd := false) (k := 6) (ps := ["word", "move"]) ((w_moved_word T).mono (by decide)) hr (fun h => nomatch h) pass_never rfl T.m_moved_word T.F_moved_word.kp T.b_moved_word (ea_cons (evV 4) (ea_cons (evV 3) (ea_nil) rfl) rfl) (by decide) rfl rfl) (by decide) (fun _ => rfl))) (fun _ => rfl))
    (svs_one (sv_ret (evV 2))))
theorem w_moved (T : Top K mg w P) : FnG P w K mg base false 8 T.f_moved T.d_moved ["words", "move"] (m_moved_v2) := fng_of T.F_moved sc_moved fun cdv A outer s H E hc hr hgd => svs_cons (sv_expr (ev_callF (gd := false) (k := 7) (ps := ["words"]) ((w_need_words T).mono (by decide)) hr (fun h => nomatch h) psOf rfl T.m_need_words T.F_need_words.kp T.b_need_words (ea_cons (evV 0) (ea_nil) rfl) (by decide) rfl rfl) rfl)
    (svs_cons (sv_if (et_not (et_tru (ev_callF (gd := false) (k := 7) (ps := ["length", "thing"]) ((w_is_move_of T).mono (by decide)) hr (fun h => nomatch h) psOf rfl T.m_is_move_of T.F_is_move_of.kp T.b_is_move_of (ea_cons (b_len rfl T.z_len (ea_cons (ev_ix (Room.u1 hr) (ev_ix (Room.u1 hr) (evV 0) (ev_int) (fun _ _ => rfl) (fun _ _ => rfl)) (ev_int) (fun _ _ => rfl) (fun _ _ => rfl)) (ea_nil) rfl) rfl) (ea_cons (evV 1) (ea_nil) rfl) rfl) (by decide) rfl rfl) (fun _ => rfl))) (svs_one (sv_raise rfl tkOf T.M_BadMove (pmk_own PySem.F.excBase_ValueError T.q_BadMove T.M_BadMove T.k_BadMove (raises_own T.r_BadMove T.t_BadMove) rfl (by decide)))) (svs_nil))
    (svs_one (sv_ret (ev_callF (gd := false) (k := 7) (ps := ["words", "moves"]) ((w_led_of T).mono (by decide)) hr (fun h => nomatch h) psOf rfl T.m_led_of T.F_led_of.kp T.b_led_of (ea_cons (evV 0) (ea_cons (ev_lst (ea_cons (evV 1) (ea_nil) rfl)) (ea_nil) rfl) rfl) (by decide) rfl rfl))))
theorem w_need_moves (T : Top K mg w P) : FnG P w K mg base false 4 T.f_need_moves T.d_need_moves ["length", "moves"] (m_need_moves_v2) := fng_of T.F_need_moves sc_need_moves fun cdv A outer s H E hc hr hgd => svs_cons (sv_if (et_not (et_tru (ev_callF (gd := false) (k := 3) (ps := ["thing"]) ((w_is_row T).mono (by decide)) hr (fun h => nomatch h) psOf rfl T.m_is_row T.F_is_row.kp T.b_is_row (ea_cons (evV 1) (ea_nil) rfl) (by decide) rfl rfl) (fun _ => rfl))) (svs_one (sv_raise1 rfl tkOf T.Z_BadMoves hr (ev_non) rfl (by decide) rfl rfl)) (svs_nil))
    (svs_one (sv_for owOf rfl (ei_enumT rfl T.z_enumerate (ea_cons (evV 1) (ea_nil) rfl) rfl) (gv_tup rfl (gvs_cons (gv_name (i := 2) sc_need_moves.nd rfl (by first | exact .inl rfl | exact .inr rfl) (by first | exact .inl rfl | exact .inr rfl)) (gvs_cons (gv_name (i := 3) sc_need_moves.nd rfl (by first | exact .inl rfl | exact .inr rfl) (by first | exact .inl rfl | exact .inr rfl)) (gvs_nil) rfl) rfl) rfl rfl) (svs_one (sv_if (et_not (et_tru (ev_callF (gd := false) (k := 3) (ps := ["length", "thing"]) ((w_is_move_of T).mono (by decide)) hr (fun h => nomatch h) psOf rfl T.m_is_move_of T.F_is_move_of.kp T.b_is_move_of (ea_cons (evV 0) (ea_cons (evV 3) (ea_nil) rfl) rfl) (by decide) rfl rfl) (fun _ => rfl))) (svs_one (sv_raise1 rfl tkOf T.Z_BadMoves hr (evV 2) rfl (by decide) rfl rfl)) (svs_nil))) (fun _ => rfl)))
theorem w_led (T : Top K mg w P) : FnG P w K mg base false 8 T.f_led T.d_led ["words", "moves"] (m_led_v3) := fng_of T.F_led sc_led fun cdv A outer s H E hc hr hgd => svs_cons (sv_expr (ev_callF (gd := false) (k := 7) (ps := ["words"]) ((w_need_words T).mono (by decide)) hr (fun h => nomatch h) psOf rfl T.m_need_words T.F_need_words.kp T.b_need_words (ea_cons (evV 0) (ea_nil) rfl) (by decide) rfl rfl) rfl)
    (svs_cons (sv_expr (ev_callF (gd := false) (k := 7) (ps := ["length", "moves"]) ((w_need_moves T).mono (by decide)) hr (fun h => nomatch h) psOf rfl T.m_need_moves T.F_need_moves.kp T.b_need_moves (ea_cons (b_len rfl T.z_len (ea_cons (ev_ix (Room.u1 hr) (ev_ix (Room.u1 hr) (evV 0) (ev_int) (fun _ _ => rfl) (fun _ _ => rfl)) (ev_int) (fun _ _ => rfl) (fun _ _ => rfl)) (ea_nil) rfl) rfl) (ea_cons (evV 1) (ea_nil) rfl) rfl) (by decide) rfl rfl) rfl)
    (svs_one (sv_ret (ev_callF (gd := false) (k := 7) (ps := ["words", "moves"]) ((w_led_of T).mono (by decide)) hr (fun h => nomatch h) psOf rfl T.m_led_of T.F_led_of.kp T.b_led_of (ea_cons (evV 0) (ea_cons (evV 1) (ea_nil) rfl) rfl) (by decide) rfl rfl))))
theorem w_plain_of (T : Top K mg w P) : FnG P w K mg base false 1 T.f_plain_of T.d_plain_of ["length"] (m_plain_of) := fng_of T.F_plain_of sc_plain_of fun cdv A outer s H E hc hr hgd => svs_cons (sv_setLc2 (i := 1) eOfF (fun _ _ _ _ h => data_use h) rfl sc_plain_of.nd rfl rfl (sw_true rfl rfl rfl rfl) (ei_range1 rfl T.z_range (ea_cons (evV 0) (ea_nil) rfl) rfl) (own := [("place", 2), ("letter", 3)]) (blkOk_by (N := ["length", "spots", "place", "letter"]) (sc := defScope s_plain_of) (by decide +kernel)) (vs1 := [3]) (by decide) (fun _ _ _ _ _ => gv_name (i := 2) sc_plain_of.nd rfl (by first | exact .inl rfl | exact .inr rfl) (by first | exact .inl rfl | exact .inr rfl)) (fun _ _ _ _ _ => ets_nil) (fun _ _ _ _ _ => ei_seq (ev_str)) (fun _ _ _ _ _ => gv_name (i := 3) sc_plain_of.nd rfl (by first | exact .inl rfl | exact .inr rfl) (by first | exact .inl rfl | exact .inr rfl)) (fun _ _ _ _ _ => ets_nil) (fun _ _ _ _ _ => ev_tup (ea_cons (evV 2) (ea_cons (evV 3) (ea_nil) rfl) rfl)) (by decide) (by decide) (fun _ => rfl) (fun _ _ => rfl))
    (svs_one (sv_ret (ev_ofF (ef_lc rfl sc_plain_of.nd (ei_seq (evV 1)) (own := [("place", 2), ("letter", 3)]) (blkOk_by (N := ["length", "spots", "place", "letter"]) (sc := defScope s_plain_of) (by decide +kernel)) (fun _ _ _ _ _ => gv_tup rfl (gvs_cons (gv_name (i := 2) sc_plain_of.nd rfl (by first | exact .inl rfl | exact .inr rfl) (by first | exact .inl rfl | exact .inr rfl)) (gvs_cons (gv_name (i := 3) sc_plain_of.nd rfl (by first | exact .inl rfl | exact .inr rfl) (by first | exact .inl rfl | exact .inr rfl)) (gvs_nil) rfl) rfl) rfl rfl) (fun _ _ _ _ _ => ets_nil) (fun _ _ _ _ _ => ev_tup (ea_cons (ev_int) (ea_cons (ev_add (ev_add (ev_mul (ev_str) (evV 2)) (evV 3)) (ev_mul (ev_str) (ev_sub (ev_sub (evV 0) (evV 2)) (ev_int)))) (ea_nil) rfl) rfl)) (by decide) (fun _ => rfl)))))
theorem w_frame_of (T : Top K mg w P) : FnG P w K mg base false 8 T.f_frame_of T.d_frame_of ["length", "moves"] (m_frame_of) := fng_of T.F_frame_of sc_frame_of fun cdv A outer s H E hc hr hgd => svs_cons (sv_expr (ev_callF (gd := false) (k := 7) (ps := ["length"]) ((w_need_length T).mono (by decide)) hr (fun h => nomatch h) psOf rfl T.m_need_length T.F_need_length.kp T.b_need_length (ea_cons (evV 0) (ea_nil) rfl) (by decide) rfl rfl) rfl)
    (svs_cons (sv_expr (ev_callF (gd := false) (k := 7) (ps := ["length", "moves"]) ((w_need_moves T).mono (by decide)) hr (fun h => nomatch h) psOf rfl T.m_need_moves T.F_need_moves.kp T.b_need_moves (ea_cons (evV 0) (ea_cons (evV 1) (ea_nil) rfl) rfl) (by decide) rfl rfl) rfl)
    (svs_one (sv_ret (ev_callF (gd := false) (k := 7) (ps := ["words", "moves"]) ((w_led_of T).mono (by decide)) hr (fun h => nomatch h) psOf rfl T.m_led_of T.F_led_of.kp T.b_led_of (ea_cons (ev_callF (gd := false) (k := 7) (ps := ["length"]) ((w_plain_of T).mono (by decide)) hr (fun h => nomatch h) psOf rfl T.m_plain_of T.F_plain_of.kp T.b_plain_of (ea_cons (evV 0) (ea_nil) rfl) (by decide) rfl rfl) (ea_cons (evV 1) (ea_nil) rfl) rfl) (by decide) rfl rfl))))
theorem w__law_refusals (T : Top K mg w P) (hTB : Tb T base) : FnG P w K mg base true 11 T.f__law_refusals T.d__law_refusals ["_law_state", "_law_size_here", "_law_several_here", "_law_thing"] (m__law_refusals T.ax) := fng_ofN T.F__law_refusals sc__law_refusals fun cdv A outer s H E hc hr hgd => svs_cons (sv_asg (ev_tup (ea_cons (ev_callF (gd := false) (k := 10) (ps := ["_law_size_here", "_law_item"]) ((w__law_is_move T).mono (by decide)) hr (fun h => nomatch h) psOf rfl T.m__law_is_move T.F__law_is_move.kp T.b__law_is_move (ea_cons (evV 1) (ea_cons (evV 3) (ea_nil) rfl) rfl) (by decide) rfl rfl) (ea_cons (ev_callF (gd := false) (k := 10) (ps := ["_law_state", "_law_several_here"]) ((w__law_bad_words T).mono (by decide)) hr (fun h => nomatch h) psOf rfl T.m__law_bad_words T.F__law_bad_words.kp T.b__law_bad_words (ea_cons (evV 0) (ea_cons (evV 2) (ea_nil) rfl) rfl) (by decide) rfl rfl) (ea_nil) rfl) rfl)) (gv_tup rfl (gvs_cons (gv_name (i := 4) sc__law_refusals.nd rfl (by first | exact .inl rfl | exact .inr rfl) (by first | exact .inl rfl | exact .inr rfl)) (gvs_cons (gv_name (i := 5) sc__law_refusals.nd rfl (by first | exact .inl rfl | exact .inr rfl) (by first | exact .inl rfl | exact .inr rfl)) (gvs_nil) rfl) rfl) rfl rfl) rfl rfl rfl)
    (svs_cons (sv_set (i := 6) sc__law_refusals.nd rfl (by first | exact .inl rfl | exact .inr rfl) (ev_callK (ks := ["thing", "length"]) (π := [1, 0]) (gd := false) (k := 10) (ps := ["length", "thing"]) ((w_is_move T).mono (by decide)) hr (fun h => nomatch h) psOf rfl T.m_is_move T.F_is_move.kp (fun s us hl => match us, hl with | [u0, u1], _ => bindK T.F_is_move (fun _ _ _ _ _ _ => rfl) s) (ek_cons (evV 3) (ek_cons (evV 1) (ek_nil))) rfl rfl (by decide) rfl) rfl (by first | exact .inl rfl | exact .inr rfl))
    (svs_cons (sv_if (et_w (ew_or (et_not (et_tru (ev_callF (gd := false) (k := 10) (ps := ["_law_found", "_law_due"]) ((w__law_says T).mono (by decide)) hr (fun h => nomatch h) psOf rfl T.m__law_says T.F__law_says.kp T.b__law_says (ea_cons (ev_callF (gd := false) (k := 10) (ps := ["length", "thing"]) ((w_is_move T).mono (by decide)) hr (fun h => nomatch h) psOf rfl T.m_is_move T.F_is_move.kp T.b_is_move (ea_cons (evV 1) (ea_cons (evV 3) (ea_nil) rfl) rfl) (by decide) rfl rfl) (ea_cons (evV 4) (ea_nil) rfl) rfl) (by decide) rfl rfl) (fun _ => rfl))) (ew_or1 (et_not (et_tru (ev_callF (gd := false) (k := 10) (ps := ["_law_found", "_law_due"]) ((w__law_says T).mono (by decide)) hr (fun h => nomatch h) psOf rfl T.m__law_says T.F__law_says.kp T.b__law_says (ea_cons (evV 6) (ea_cons (evV 4) (ea_nil) rfl) rfl) (by decide) rfl rfl) (fun _ => rfl)))))) (svs_one (sv_ret (ev_bl))) (svs_nil))
    (svs_cons (sv_set (i := 7) sc__law_refusals.nd rfl (by first | exact .inl rfl | exact .inr rfl) (ev_caught T (k := 8) rfl rfl rfl hTB.tab__law_refusals (hc.symm.trans T.e__law_refusals) (by rw [hTB.eq]; exact (List.mem_cons_self)) (fun p hp hP => by rw [hTB.eq] at hp; unfold Top.tabs at hp; simp only [List.mem_cons, List.not_mem_nil, or_false] at hp; rcases hp with rfl | rfl; all_goals first | exact absurd hP (Ne.symm T.pn__law_refusals_law) | rfl) hr (LamX.lamS_by (sc := defScope s__law_refusals) (by decide +kernel)) rfl (fun _ _ _ _ _ => rfl) (fun A2 outer2 s2 H2 E2 f2 c2 hr2 => ev_callF (gd := false) (k := 8) (ps := ["words", "move"]) ((w_moved T).mono (by decide)) hr2 (fun h => nomatch h) psLam rfl T.m_moved T.F_moved.kp T.b_moved (ea_cons (evV 2) (ea_cons (evV 3) (ea_nil) rfl) rfl) (by decide) rfl rfl)) rfl (by first | exact .inl rfl | exact .inr rfl))
    (svs_cons (sv_if (et_w (ew_or (et_eqC (Room.u64 hr) (ev_isNot (evV 7) (ev_non)) (evV 4)) (ew_or1 (et_w (ew_and (et_not (et_tru (evV 4) (fun _ => rfl))) (ew_and1 (et_not (et_tru (b_isX T.caught_exc rfl T.z_isinstance (ea_cons (evV 7) (ea_cons (ev_glob (v := .ref T.C_BadMove) rfl T.M_BadMove rfl (fun _ _ => .op _) (by decide)) (ea_nil) rfl) rfl) rfl rfl) (fun _ => rfl))))))))) (svs_one (sv_ret (ev_bl))) (svs_nil))
    (svs_cons (sv_if (et_not (et_tru (b_isX T.caught_exc rfl T.z_isinstance (ea_cons (ev_caught T (k := 8) rfl rfl rfl hTB.tab__law_refusals (hc.symm.trans T.e__law_refusals) (by rw [hTB.eq]; exact (List.mem_cons_self)) (fun p hp hP => by rw [hTB.eq] at hp; unfold Top.tabs at hp; simp only [List.mem_cons, List.not_mem_nil, or_false] at hp; rcases hp with rfl | rfl; all_goals first | exact absurd hP (Ne.symm T.pn__law_refusals_law) | rfl) hr (LamX.lamS_by (sc := defScope s__law_refusals) (by decide +kernel)) rfl (fun _ _ _ _ _ => rfl) (fun A2 outer2 s2 H2 E2 f2 c2 hr2 => ev_callF (gd := false) (k := 8) (ps := ["words", "move"]) ((w_moved T).mono (by decide)) hr2 (fun h => nomatch h) psLam rfl T.m_moved T.F_moved.kp T.b_moved (ea_cons (evV 5) (ea_cons (evV 3) (ea_nil) rfl) rfl) (by decide) rfl rfl)) (ea_cons (ev_glob (v := .ref T.C_BadWords) rfl T.M_BadWords rfl (fun _ _ => .op _) (by decide)) (ea_nil) rfl) rfl) rfl rfl) (fun _ => rfl))) (svs_one (sv_ret (ev_bl))) (svs_nil))
    (svs_cons (sv_if (et_not (et_tru (b_isX T.caught_exc rfl T.z_isinstance (ea_cons (ev_caught T (k := 8) rfl rfl rfl hTB.tab__law_refusals (hc.symm.trans T.e__law_refusals) (by rw [hTB.eq]; exact (List.mem_cons_self)) (fun p hp hP => by rw [hTB.eq] at hp; unfold Top.tabs at hp; simp only [List.mem_cons, List.not_mem_nil, or_false] at hp; rcases hp with rfl | rfl; all_goals first | exact absurd hP (Ne.symm T.pn__law_refusals_law) | rfl) hr (LamX.lamS_by (sc := defScope s__law_refusals) (by decide +kernel)) rfl (fun _ _ _ _ _ => rfl) (fun A2 outer2 s2 H2 E2 f2 c2 hr2 => ev_callF (gd := false) (k := 8) (ps := ["words", "moves"]) ((w_led T).mono (by decide)) hr2 (fun h => nomatch h) psLam rfl T.m_led T.F_led.kp T.b_led (ea_cons (evV 5) (ea_cons (ev_lst (ea_cons (evV 3) (ea_nil) rfl)) (ea_nil) rfl) rfl) (by decide) rfl rfl)) (ea_cons (ev_glob (v := .ref T.C_BadWords) rfl T.M_BadWords rfl (fun _ _ => .op _) (by decide)) (ea_nil) rfl) rfl) rfl rfl) (fun _ => rfl))) (svs_one (sv_ret (ev_bl))) (svs_nil))
    (svs_cons (sv_set (i := 8) sc__law_refusals.nd rfl (by first | exact .inl rfl | exact .inr rfl) (ev_callF (gd := false) (k := 10) (ps := ["_law_state", "_law_size_here", "_law_most"]) ((w__law_some_moves T).mono (by decide)) hr (fun h => nomatch h) psOf rfl T.m__law_some_moves T.F__law_some_moves.kp T.b__law_some_moves (ea_cons (evV 0) (ea_cons (evV 1) (ea_cons (ev_int) (ea_nil) rfl) rfl) rfl) (by decide) rfl rfl) rfl (by first | exact .inl rfl | exact .inr rfl))
    (svs_cons (sv_set (i := 9) sc__law_refusals.nd rfl (by first | exact .inl rfl | exact .inr rfl) (ev_callF (gd := false) (k := 10) (ps := ["_law_state", "_law_size_here"]) ((w__law_draw T).mono (by decide)) hr (fun h => nomatch h) psOf rfl T.m__law_draw T.F__law_draw.kp T.b__law_draw (ea_cons (evV 0) (ea_cons (ev_add (b_len rfl T.z_len (ea_cons (evV 8) (ea_nil) rfl) rfl) (ev_int)) (ea_nil) rfl) rfl) (by decide) rfl rfl) rfl (by first | exact .inl rfl | exact .inr rfl))
    (svs_cons (sv_set (i := 6) sc__law_refusals.nd rfl (by first | exact .inl rfl | exact .inr rfl) (ev_add (ev_add (ev_add (ev_sl (evV 8) (eo_none) (eo_some (evV 9))) (ev_lst (ea_cons (evV 3) (ea_nil) rfl))) (ev_sl (evV 8) (eo_some (evV 9)) (eo_none))) (ev_callF (gd := false) (k := 10) (ps := ["_law_state", "_law_several_here"]) ((w__law_pick T).mono (by decide)) hr (fun h => nomatch h) psOf rfl T.m__law_pick T.F__law_pick.kp T.b__law_pick (ea_cons (evV 0) (ea_cons (ev_lst (ea_cons (ev_lst (ea_nil)) (ea_cons (ev_lst (ea_cons (ev_non) (ea_nil) rfl)) (ea_cons (ev_lst (ea_cons (evV 3) (ea_nil) rfl)) (ea_nil) rfl) rfl) rfl)) (ea_nil) rfl) rfl) (by decide) rfl rfl)) rfl (by first | exact .inl rfl | exact .inr rfl))
    (svs_cons (sv_setLc (i := 10) eOfF (fun _ _ _ _ h => data_use h) rfl sc__law_refusals.nd rfl rfl (sw_true rfl rfl rfl rfl) (ei_enumT rfl T.z_enumerate (ea_cons (evV 6) (ea_nil) rfl) rfl) (own := [("_law_at", 12), ("_law_each", 13)]) (blkOk_by (N := ["_law_state", "_law_size_here", "_law_several_here", "_law_thing", "_law_sound", "_law_bad", "_law_told", "_law_caught_here", "_law_moves_here", "_law_spot", "_law_wrong", "_law_work", "_law_at", "_law_each"]) (sc := defScope s__law_refusals) (by decide +kernel)) (fun _ _ _ _ _ => gv_tup rfl (gvs_cons (gv_name (i := 12) sc__law_refusals.nd rfl (by first | exact .inl rfl | exact .inr rfl) (by first | exact .inl rfl | exact .inr rfl)) (gvs_cons (gv_name (i := 13) sc__law_refusals.nd rfl (by first | exact .inl rfl | exact .inr rfl) (by first | exact .inl rfl | exact .inr rfl)) (gvs_nil) rfl) rfl) rfl rfl) (fun _ _ _ _ _ => ets_one (et_not (et_tru (ev_callF (gd := false) (k := 10) (ps := ["_law_size_here", "_law_item"]) ((w__law_is_move T).mono (by decide)) hr (fun h => nomatch h) pass_never rfl T.m__law_is_move T.F__law_is_move.kp T.b__law_is_move (ea_cons (evV 1) (ea_cons (evV 13) (ea_nil) rfl) rfl) (by decide) rfl rfl) (fun _ => rfl)))) (fun _ _ _ _ _ => evV 12) (by decide) (fun _ => rfl))
    (svs_cons (sv_for owOf rfl (ei_seq (ev_lst (ea_cons (ev_lam (L := T.ax.M 0 s.heap.objs.size 0) rfl hTB.tab__law_refusals (hc.symm.trans T.e__law_refusals) (by rw [hTB.eq]; exact (List.mem_cons_self)) (fun p hp hP => by rw [hTB.eq] at hp; unfold Top.tabs at hp; simp only [List.mem_cons, List.not_mem_nil, or_false] at hp; rcases hp with rfl | rfl; all_goals first | exact absurd hP (Ne.symm T.pn__law_refusals_law) | rfl) (LamX.lamS_by (sc := defScope s__law_refusals) (scope := (lamA__law_refusals 0).2.2) (by decide +kernel)) rfl) (ea_cons (ev_lam (L := T.ax.M 0 s.heap.objs.size 1) rfl hTB.tab__law_refusals (hc.symm.trans T.e__law_refusals) (by rw [hTB.eq]; exact (List.mem_cons_self)) (fun p hp hP => by rw [hTB.eq] at hp; unfold Top.tabs at hp; simp only [List.mem_cons, List.not_mem_nil, or_false] at hp; rcases hp with rfl | rfl; all_goals first | exact absurd hP (Ne.symm T.pn__law_refusals_law) | rfl) (LamX.lamS_by (sc := defScope s__law_refusals) (scope := (lamA__law_refusals 1).2.2) (by decide +kernel)) rfl) (ea_nil) rfl) rfl))) (gv_name (i := 11) sc__law_refusals.nd rfl (by first | exact .inl rfl | exact .inr rfl) (by first | exact .inl rfl | exact .inr rfl)) (svs_cons (sv_set (i := 7) sc__law_refusals.nd rfl (by first | exact .inl rfl | exact .inr rfl) (ev_caughtV T (k := 8) rfl rfl rfl hr (heldl_c ⟨rfl, rfl, LamX.lamS_by (sc := defScope s__law_refusals) (scope := (lamA__law_refusals 0).2.2) (by decide +kernel), fun _ _ _ _ _ => rfl, fun A2 outer2 s2 H2 E2 f2 c2 hr2 => ev_callF (gd := false) (k := 8) (ps := ["words", "moves"]) ((w_led T).mono (by decide)) hr2 (fun h => nomatch h) psLam rfl T.m_led T.F_led.kp T.b_led (ea_cons (evV 2) (ea_cons (evV 6) (ea_nil) rfl) rfl) (by decide) rfl rfl⟩ (heldl_c ⟨rfl, rfl, LamX.lamS_by (sc := defScope s__law_refusals) (scope := (lamA__law_refusals 1).2.2) (by decide +kernel), fun _ _ _ _ _ => rfl, fun A2 outer2 s2 H2 E2 f2 c2 hr2 => ev_callF (gd := false) (k := 8) (ps := ["length", "moves"]) ((w_frame_of T).mono (by decide)) hr2 (fun h => nomatch h) psLam rfl T.m_frame_of T.F_frame_of.kp T.b_frame_of (ea_cons (evV 1) (ea_cons (evV 6) (ea_nil) rfl) rfl) (by decide) rfl rfl⟩ (heldl_n))) rfl (by first | exact .inl rfl | exact .inr (.inl rfl) | exact .inr (.inr rfl)) (by decide) (by decide) rfl) rfl (by first | exact .inl rfl | exact .inr rfl))
    (svs_cons (sv_if (et_w (ew_and (et_eqC (Room.u64 hr) (evV 10) (ev_lst (ea_nil))) (ew_and1 (et_isNot (evV 7) (ev_non))))) (svs_one (sv_ret (ev_bl))) (svs_nil))
    (svs_one (sv_if (et_w (ew_and (et_neC (Room.u64 hr) (evV 10) (ev_lst (ea_nil))) (ew_and1 (et_w (ew_or (et_not (et_tru (b_isX T.caught_exc rfl T.z_isinstance (ea_cons (evV 7) (ea_cons (ev_glob (v := .ref T.C_BadMoves) rfl T.M_BadMoves rfl (fun _ _ => .op _) (by decide)) (ea_nil) rfl) rfl) rfl rfl) (fun _ => rfl))) (ew_or1 (et_neC (Room.u64 hr) (b_reprA (hgd rfl) (Room.u66 hr) rfl T.z_repr (ea_cons (ev_xf T.xf_at (evV 7) rfl) (ea_nil) rfl) rfl) (b_reprA (hgd rfl) (Room.u66 hr) rfl T.z_repr (ea_cons (ev_ix (Room.u1 hr) (evV 10) (ev_int) (fun _ _ => rfl) (fun _ _ => rfl)) (ea_nil) rfl) rfl)))))))) (svs_one (sv_ret (ev_bl))) (svs_nil))))) (fun _ => rfl))
    (svs_one (sv_ret (ev_bl))))))))))))))
theorem w__law_put (T : Top K mg w P) : FnG P w K mg base false 1 T.f__law_put T.d__law_put ["_law_row", "_law_spot", "_law_item"] (m__law_put) := fng_of T.F__law_put sc__law_put fun cdv A outer s H E hc hr hgd => svs_one (sv_ret (ev_add (ev_add (ev_sl (evV 0) (eo_none) (eo_some (evV 1))) (ev_tup (ea_cons (evV 2) (ea_nil) rfl))) (ev_sl (evV 0) (eo_some (ev_add (evV 1) (ev_int))) (eo_none))))
theorem w__law_bad_number (T : Top K mg w P) : FnG P w K mg base false 3 T.f__law_bad_number T.d__law_bad_number ["_law_state", "_law_size_here"] (m__law_bad_number) := fng_of T.F__law_bad_number sc__law_bad_number fun cdv A outer s H E hc hr hgd => svs_one (sv_ret (ev_callF (gd := false) (k := 2) (ps := ["_law_state", "_law_several_here"]) ((w__law_pick T).mono (by decide)) hr (fun h => nomatch h) psOf rfl T.m__law_pick T.F__law_pick.kp T.b__law_pick (ea_cons (evV 0) (ea_cons (ev_lst (ea_cons (ev_non) (ea_cons (ev_str) (ea_cons (ev_tup (ea_cons (ev_int) (ea_nil) rfl)) (ea_cons (ev_lst (ea_cons (ev_int) (ea_nil) rfl)) (ea_cons (ev_neg (ev_int)) (ea_cons (evV 1) (ea_cons (ev_add (evV 1) (ev_int)) (ea_cons (ev_bl) (ea_cons (ev_bl) (ea_cons (ev_dic0) (ea_nil) rfl) rfl) rfl) rfl) rfl) rfl) rfl) rfl) rfl) rfl)) (ea_nil) rfl) rfl) (by decide) rfl rfl))
theorem w__law_lettered (T : Top K mg w P) : FnG P w K mg base false 1 T.f__law_lettered T.d__law_lettered ["_law_letters_here", "_law_spot", "_law_letter"] (m__law_lettered) := fng_of T.F__law_lettered sc__law_lettered fun cdv A outer s H E hc hr hgd => svs_one (sv_ret (ev_add (ev_add (ev_sl (evV 0) (eo_none) (eo_some (evV 1))) (evV 2)) (ev_sl (evV 0) (eo_some (ev_add (evV 1) (ev_int))) (eo_none))))
theorem w__law_odd_move (T : Top K mg w P) : FnG P w K mg base false 5 T.f__law_odd_move T.d__law_odd_move ["_law_state", "_law_size_here"] (m__law_odd_move) := fng_of T.F__law_odd_move sc__law_odd_move fun cdv A outer s H E hc hr hgd => svs_cons (sv_par (i := 2) (j := 3) rfl sc__law_odd_move.nd rfl rfl (by decide) rfl rfl (ea_cons (ev_callF (gd := false) (k := 4) (ps := ["_law_state", "_law_size_here"]) ((w__law_a_move T).mono (by decide)) hr (fun h => nomatch h) psOf rfl T.m__law_a_move T.F__law_a_move.kp T.b__law_a_move (ea_cons (evV 0) (ea_cons (evV 1) (ea_nil) rfl) rfl) (by decide) rfl rfl) (ea_cons (ev_callF (gd := false) (k := 4) (ps := ["_law_state", "_law_size_here"]) ((w__law_draw T).mono (by decide)) hr (fun h => nomatch h) psOf rfl T.m__law_draw T.F__law_draw.kp T.b__law_draw (ea_cons (evV 0) (ea_cons (ev_int) (ea_nil) rfl) rfl) (by decide) rfl rfl) (ea_nil) rfl) rfl) rfl rfl)
    (svs_cons (sv_par (i := 4) (j := 5) rfl sc__law_odd_move.nd rfl rfl (by decide) rfl rfl (ea_cons (ev_callF (gd := false) (k := 4) (ps := ["_law_state", "_law_size_here"]) ((w__law_draw T).mono (by decide)) hr (fun h => nomatch h) psOf rfl T.m__law_draw T.F__law_draw.kp T.b__law_draw (ea_cons (evV 0) (ea_cons (evV 1) (ea_nil) rfl) rfl) (by decide) rfl rfl) (ea_cons (ev_callF (gd := false) (k := 4) (ps := ["_law_state", "_law_size_here"]) ((w__law_draw T).mono (by decide)) hr (fun h => nomatch h) psOf rfl T.m__law_draw T.F__law_draw.kp T.b__law_draw (ea_cons (evV 0) (ea_cons (ev_int) (ea_nil) rfl) rfl) (by decide) rfl rfl) (ea_nil) rfl) rfl) rfl rfl)
    (svs_cons (sv_if (et_lt (evV 3) (ev_int)) (svs_one (sv_ret (ev_ix (Room.u1 hr) (ev_lst (ea_cons (b_list2 rfl rfl T.z_list (ea_cons (evV 2) (ea_nil) rfl) rfl) (ea_cons (ev_add (evV 2) (ev_tup (ea_cons (ev_int) (ea_nil) rfl))) (ea_cons (ev_sl (evV 2) (eo_none) (eo_some (ev_int))) (ea_nil) rfl) rfl) rfl)) (evV 3) (fun _ _ => rfl) (fun _ _ => rfl)))) (svs_nil))
    (svs_cons (sv_if (et_eqC (Room.u64 hr) (evV 3) (ev_int)) (svs_one (sv_ret (ev_callF (gd := false) (k := 4) (ps := ["_law_row", "_law_spot", "_law_item"]) ((w__law_put T).mono (by decide)) hr (fun h => nomatch h) psOf rfl T.m__law_put T.F__law_put.kp T.b__law_put (ea_cons (evV 2) (ea_cons (ev_callF (gd := false) (k := 4) (ps := ["_law_state", "_law_size_here"]) ((w__law_draw T).mono (by decide)) hr (fun h => nomatch h) psOf rfl T.m__law_draw T.F__law_draw.kp T.b__law_draw (ea_cons (evV 0) (ea_cons (b_len rfl T.z_len (ea_cons (evV 2) (ea_nil) rfl) rfl) (ea_nil) rfl) rfl) (by decide) rfl rfl) (ea_cons (ev_callF (gd := false) (k := 4) (ps := ["_law_state", "_law_size_here"]) ((w__law_bad_number T).mono (by decide)) hr (fun h => nomatch h) psOf rfl T.m__law_bad_number T.F__law_bad_number.kp T.b__law_bad_number (ea_cons (evV 0) (ea_cons (evV 1) (ea_nil) rfl) rfl) (by decide) rfl rfl) (ea_nil) rfl) rfl) rfl) (by decide) rfl rfl))) (svs_nil))
    (svs_cons (sv_if (et_eqC (Room.u64 hr) (evV 3) (ev_int)) (svs_one (sv_ret (ev_callF (gd := false) (k := 4) (ps := ["_law_row", "_law_spot", "_law_item"]) ((w__law_put T).mono (by decide)) hr (fun h => nomatch h) psOf rfl T.m__law_put T.F__law_put.kp T.b__law_put (ea_cons (evV 2) (ea_cons (ev_int) (ea_cons (ev_callF (gd := false) (k := 4) (ps := ["_law_state", "_law_several_here"]) ((w__law_pick T).mono (by decide)) hr (fun h => nomatch h) psOf rfl T.m__law_pick T.F__law_pick.kp T.b__law_pick (ea_cons (evV 0) (ea_cons (ev_lst (ea_cons (ev_str) (ea_cons (ev_str) (ea_cons (ev_str) (ea_cons (ev_str) (ea_cons (ev_str) (ea_cons (ev_str) (ea_cons (ev_non) (ea_cons (ev_int) (ea_cons (ev_tup (ea_cons (ev_str) (ea_nil) rfl)) (ea_nil) rfl) rfl) rfl) rfl) rfl) rfl) rfl) rfl) rfl)) (ea_nil) rfl) rfl) (by decide) rfl rfl) (ea_nil) rfl) rfl) rfl) (by decide) rfl rfl))) (svs_nil))
    (svs_cons (sv_if (et_eqC (Room.u64 hr) (evV 3) (ev_int)) (svs_one (sv_ret (ev_tup (ea_cons (ev_callF (gd := false) (k := 4) (ps := ["_law_state", "_law_several_here"]) ((w__law_pick T).mono (by decide)) hr (fun h => nomatch h) psOf rfl T.m__law_pick T.F__law_pick.kp T.b__law_pick (ea_cons (evV 0) (ea_cons (ev_lst (ea_cons (ev_str) (ea_cons (ev_str) (ea_nil) rfl) rfl)) (ea_nil) rfl) rfl) (by decide) rfl rfl) (ea_cons (evV 4) (ea_cons (evV 4) (ea_nil) rfl) rfl) rfl)))) (svs_nil))
    (svs_cons (sv_if (et_eqC (Room.u64 hr) (evV 3) (ev_int)) (svs_one (sv_ret (ev_if (et_eqC (Room.u64 hr) (b_len rfl T.z_len (ea_cons (evV 2) (ea_nil) rfl) rfl) (ev_int)) (evV 2) (ev_tup (ea_cons (ev_ix (Room.u1 hr) (evV 2) (ev_int) (fun _ _ => rfl) (fun _ _ => rfl)) (ea_cons (ev_ix (Room.u1 hr) (evV 2) (ev_int) (fun _ _ => rfl) (fun _ _ => rfl)) (ea_cons (ev_ix (Room.u1 hr) (evV 2) (ev_int) (fun _ _ => rfl) (fun _ _ => rfl)) (ea_nil) rfl) rfl) rfl))))) (svs_nil))
    (svs_cons (sv_if (et_eqC (Room.u64 hr) (evV 3) (ev_int)) (svs_cons (sv_set (i := 6) sc__law_odd_move.nd rfl (by first | exact .inl rfl | exact .inr rfl) (ev_ix (Room.u1 hr) (ev_callF (gd := false) (k := 4) (ps := ["_law_state", "_law_size_here"]) ((w__law_word T).mono (by decide)) hr (fun h => nomatch h) psOf rfl T.m__law_word T.F__law_word.kp T.b__law_word (ea_cons (evV 0) (ea_cons (evV 1) (ea_nil) rfl) rfl) (by decide) rfl rfl) (ev_int) (fun _ _ => rfl) (fun _ _ => rfl)) rfl (by first | exact .inl rfl | exact .inr rfl))
    (svs_one (sv_ret (ev_tup (ea_cons (ev_str) (ea_cons (ev_ix (Room.u1 hr) (ev_lst (ea_cons (ev_add (evV 6) (ev_str)) (ea_cons (ev_sl (evV 6) (eo_some (ev_int)) (eo_none)) (ea_cons (ev_callF (gd := false) (k := 4) (ps := ["_law_letters_here", "_law_spot", "_law_letter"]) ((w__law_lettered T).mono (by decide)) hr (fun h => nomatch h) psOf rfl T.m__law_lettered T.F__law_lettered.kp T.b__law_lettered (ea_cons (evV 6) (ea_cons (evV 4) (ea_cons (ev_str) (ea_nil) rfl) rfl) rfl) (by decide) rfl rfl) (ea_cons (b_list2 rfl rfl T.z_list (ea_cons (evV 6) (ea_nil) rfl) rfl) (ea_nil) rfl) rfl) rfl) rfl)) (evV 5) (fun _ _ => rfl) (fun _ _ => rfl)) (ea_nil) rfl) rfl))))) (svs_nil))
    (svs_cons (sv_if (et_eqC (Room.u64 hr) (evV 3) (ev_int)) (svs_one (sv_ret (ev_tup (ea_cons (ev_str) (ea_cons (ev_callF (gd := false) (k := 4) (ps := ["_law_state", "_law_size_here"]) ((w__law_word T).mono (by decide)) hr (fun h => nomatch h) psOf rfl T.m__law_word T.F__law_word.kp T.b__law_word (ea_cons (evV 0) (ea_cons (evV 1) (ea_nil) rfl) rfl) (by decide) rfl rfl) (ea_nil) rfl) rfl)))) (svs_nil))
    (svs_cons (sv_if (et_eqC (Room.u64 hr) (evV 3) (ev_int)) (svs_one (sv_ret (ev_callF (gd := false) (k := 4) (ps := ["_law_state", "_law_size_here"]) ((w__law_a_move T).mono (by decide)) hr (fun h => nomatch h) psOf rfl T.m__law_a_move T.F__law_a_move.kp T.b__law_a_move (ea_cons (evV 0) (ea_cons (ev_add (ev_int) (ev_callF (gd := false) (k := 4) (ps := ["_law_state", "_law_size_here"]) ((w__law_draw T).mono (by decide)) hr (fun h => nomatch h) psOf rfl T.m__law_draw T.F__law_draw.kp T.b__law_draw (ea_cons (evV 0) (ea_cons (ev_int) (ea_nil) rfl) rfl) (by decide) rfl rfl)) (ea_nil) rfl) rfl) (by decide) rfl rfl))) (svs_nil))
    (svs_cons (sv_if (et_eqC (Room.u64 hr) (evV 3) (ev_int)) (svs_one (sv_ret (ev_callF (gd := false) (k := 4) (ps := ["_law_state", "_law_several_here"]) ((w__law_pick T).mono (by decide)) hr (fun h => nomatch h) psOf rfl T.m__law_pick T.F__law_pick.kp T.b__law_pick (ea_cons (evV 0) (ea_cons (ev_lst (ea_cons (ev_non) (ea_cons (ev_int) (ea_cons (ev_str) (ea_cons (ev_tup (ea_cons (ev_str) (ea_nil) rfl)) (ea_cons (ev_tup (ea_nil)) (ea_cons (ev_lst (ea_nil)) (ea_cons (ev_dic0) (ea_cons (ev_bl) (ea_cons (ev_tup (ea_cons (ev_int) (ea_cons (ev_str) (ea_nil) rfl) rfl)) (ea_cons (ev_tup (ea_cons (ev_int) (ea_cons (ev_int) (ea_nil) rfl) rfl)) (ea_cons (ev_tup (ea_cons (ev_str) (ea_cons (ev_int) (ea_cons (ev_int) (ea_cons (ev_int) (ea_nil) rfl) rfl) rfl) rfl)) (ea_nil) rfl) rfl) rfl) rfl) rfl) rfl) rfl) rfl) rfl) rfl) rfl)) (ea_nil) rfl) rfl) (by decide) rfl rfl))) (svs_nil))
    (svs_one (sv_ret (evV 2)))))))))))))
theorem w_law (T : Top K mg w P) (hTB : Tb T base) : FnG P w K mg base true 14 T.f_law T.d_law ["_law_script"] (m_law_v42 T.ax) := fng_ofT T.F_law sc_law fun cdv A outer s H E hc hr hgd => svs_cons (sv_set (i := 1) sc_law.nd rfl (by first | exact .inl rfl | exact .inr rfl) (ev_callF (gd := false) (k := 13) (ps := ["_law_script"]) ((w__law_begun T).mono (by decide)) hr (fun h => nomatch h) psOf rfl T.m__law_begun T.F__law_begun.kp T.b__law_begun (ea_cons (evV 0) (ea_nil) rfl) (by decide) rfl rfl) rfl (by first | exact .inl rfl | exact .inr rfl))
    (svs_cons (sv_for owOf rfl (ei_range1 rfl T.z_range (ea_cons (ev_add (ev_int) (b_min2 rfl rfl T.z_min (ea_cons (b_len rfl T.z_len (ea_cons (evV 0) (ea_nil) rfl) rfl) (ea_cons (ev_int) (ea_nil) rfl) rfl) rfl rfl)) (ea_nil) rfl) rfl) (gv_name (i := 2) sc_law.nd rfl (by first | exact .inl rfl | exact .inr rfl) (by first | exact .inl rfl | exact .inr rfl)) (svs_cons (sv_set (i := 3) sc_law.nd rfl (by first | exact .inl rfl | exact .inr rfl) (ev_add (ev_int) (ev_callF (gd := false) (k := 13) (ps := ["_law_state", "_law_size_here"]) ((w__law_draw T).mono (by decide)) hr (fun h => nomatch h) psOf rfl T.m__law_draw T.F__law_draw.kp T.b__law_draw (ea_cons (evV 1) (ea_cons (ev_int) (ea_nil) rfl) rfl) (by decide) rfl rfl)) rfl (by first | exact .inl rfl | exact .inr rfl))
    (svs_cons (sv_set (i := 4) sc_law.nd rfl (by first | exact .inl rfl | exact .inr rfl) (ev_callF (gd := false) (k := 13) (ps := ["_law_state", "_law_size_here", "_law_many"]) ((w__law_several T).mono (by decide)) hr (fun h => nomatch h) psOf rfl T.m__law_several T.F__law_several.kp T.b__law_several (ea_cons (evV 1) (ea_cons (evV 3) (ea_cons (ev_add (ev_int) (ev_callF (gd := false) (k := 13) (ps := ["_law_state", "_law_size_here"]) ((w__law_draw T).mono (by decide)) hr (fun h => nomatch h) psOf rfl T.m__law_draw T.F__law_draw.kp T.b__law_draw (ea_cons (evV 1) (ea_cons (ev_int) (ea_nil) rfl) rfl) (by decide) rfl rfl)) (ea_nil) rfl) rfl) rfl) (by decide) rfl rfl) rfl (by first | exact .inl rfl | exact .inr rfl))
    (svs_cons (sv_for owOf rfl (ei_range1 rfl T.z_range (ea_cons (ev_int) (ea_nil) rfl) rfl) (gv_name (i := 5) sc_law.nd rfl (by first | exact .inl rfl | exact .inr rfl) (by first | exact .inl rfl | exact .inr rfl)) (svs_one (sv_if (et_not (et_tru (ev_callF (gd := true) (k := 13) (ps := ["_law_state", "_law_size_here", "_law_several_here", "_law_thing"]) ((w__law_refusals T hTB).mono (by decide)) hr (fun _ => hgd rfl) psOf rfl T.m__law_refusals T.F__law_refusals.kp T.b__law_refusals (ea_cons (evV 1) (ea_cons (evV 3) (ea_cons (evV 4) (ea_cons (ev_callF (gd := false) (k := 13) (ps := ["_law_state", "_law_size_here"]) ((w__law_odd_move T).mono (by decide)) hr (fun h => nomatch h) psOf rfl T.m__law_odd_move T.F__law_odd_move.kp T.b__law_odd_move (ea_cons (evV 1) (ea_cons (evV 3) (ea_nil) rfl) rfl) (by decide) rfl rfl) (ea_nil) rfl) rfl) rfl) rfl) (by decide) rfl rfl) (fun _ => rfl))) (svs_one (sv_ret (ev_bl))) (svs_nil))) (fun _ => rfl))
    (svs_cons (sv_set (i := 6) sc_law.nd rfl (by first | exact .inl rfl | exact .inr rfl) (ev_callF (gd := false) (k := 13) (ps := ["_law_state", "_law_several_here"]) ((w__law_pick T).mono (by decide)) hr (fun h => nomatch h) psOf rfl T.m__law_pick T.F__law_pick.kp T.b__law_pick (ea_cons (evV 1) (ea_cons (ev_lst (ea_cons (ev_non) (ea_cons (ev_int) (ea_cons (ev_str) (ea_cons (ev_dic0) (ea_cons (ev_dic (ep_int (ev_tup (ea_cons (ev_str) (ea_cons (ev_int) (ea_nil) rfl) rfl)) (ep_nil)) rfl rfl (List.cons_ne_nil _ _) (by decide) (of_decide_eq_true rfl) (by decide +kernel)) (ea_cons (ev_bl) (ea_nil) rfl) rfl) rfl) rfl) rfl) rfl)) (ea_nil) rfl) rfl) (by decide) rfl rfl) rfl (by first | exact .inl rfl | exact .inr rfl))
    (svs_cons (sv_for owOf rfl (ei_seq (ev_lst (ea_cons (ev_lam (L := T.ax.M 1 s.heap.objs.size 0) rfl hTB.tab_law (hc.symm.trans T.e_law) (by rw [hTB.eq]; exact (List.mem_cons_of_mem _ (List.mem_cons_self))) (fun p hp hP => by rw [hTB.eq] at hp; unfold Top.tabs at hp; simp only [List.mem_cons, List.not_mem_nil, or_false] at hp; rcases hp with rfl | rfl; all_goals first | exact absurd hP T.pn__law_refusals_law | rfl) (LamX.lamS_by (sc := defScope s_law) (scope := (lamA_law 0).2.2) (by decide +kernel)) rfl) (ea_cons (ev_lam (L := T.ax.M 1 s.heap.objs.size 1) rfl hTB.tab_law (hc.symm.trans T.e_law) (by rw [hTB.eq]; exact (List.mem_cons_of_mem _ (List.mem_cons_self))) (fun p hp hP => by rw [hTB.eq] at hp; unfold Top.tabs at hp; simp only [List.mem_cons, List.not_mem_nil, or_false] at hp; rcases hp with rfl | rfl; all_goals first | exact absurd hP T.pn__law_refusals_law | rfl) (LamX.lamS_by (sc := defScope s_law) (scope := (lamA_law 1).2.2) (by decide +kernel)) rfl) (ea_nil) rfl) rfl))) (gv_name (i := 7) sc_law.nd rfl (by first | exact .inl rfl | exact .inr rfl) (by first | exact .inl rfl | exact .inr rfl)) (svs_cons (sv_set (i := 8) sc_law.nd rfl (by first | exact .inl rfl | exact .inr rfl) (ev_caughtV T (k := 11) rfl rfl rfl hr (heldl_c ⟨rfl, rfl, LamX.lamS_by (sc := defScope s_law) (scope := (lamA_law 0).2.2) (by decide +kernel), fun _ _ _ _ _ => rfl, fun A2 outer2 s2 H2 E2 f2 c2 hr2 => ev_callF (gd := false) (k := 11) (ps := ["words", "moves"]) ((w_led T).mono (by decide)) hr2 (fun h => nomatch h) psLam rfl T.m_led T.F_led.kp T.b_led (ea_cons (evV 4) (ea_cons (evV 6) (ea_nil) rfl) rfl) (by decide) rfl rfl⟩ (heldl_c ⟨rfl, rfl, LamX.lamS_by (sc := defScope s_law) (scope := (lamA_law 1).2.2) (by decide +kernel), fun _ _ _ _ _ => rfl, fun A2 outer2 s2 H2 E2 f2 c2 hr2 => ev_callF (gd := false) (k := 11) (ps := ["length", "moves"]) ((w_frame_of T).mono (by decide)) hr2 (fun h => nomatch h) psLam rfl T.m_frame_of T.F_frame_of.kp T.b_frame_of (ea_cons (evV 3) (ea_cons (evV 6) (ea_nil) rfl) rfl) (by decide) rfl rfl⟩ (heldl_c ⟨rfl, rfl, LamX.lamS_by (sc := defScope s_law) (scope := (lamA_law 2).2.2) (by decide +kernel), fun _ _ _ _ _ => rfl, fun A2 outer2 s2 H2 E2 f2 c2 hr2 => ev_callF (gd := false) (k := 11) (ps := ["length", "thing"]) ((w_is_move T).mono (by decide)) hr2 (fun h => nomatch h) psLam rfl T.m_is_move T.F_is_move.kp T.b_is_move (ea_cons (evV 9) (ea_cons (ev_tup (ea_cons (ev_str) (ea_cons (ev_int) (ea_nil) rfl) rfl)) (ea_nil) rfl) rfl) (by decide) rfl rfl⟩ (heldl_c ⟨rfl, rfl, LamX.lamS_by (sc := defScope s_law) (scope := (lamA_law 3).2.2) (by decide +kernel), fun _ _ _ _ _ => rfl, fun A2 outer2 s2 H2 E2 f2 c2 hr2 => ev_callF (gd := false) (k := 11) (ps := ["length", "moves"]) ((w_frame_of T).mono (by decide)) hr2 (fun h => nomatch h) psLam rfl T.m_frame_of T.F_frame_of.kp T.b_frame_of (ea_cons (evV 9) (ea_cons (evV 6) (ea_nil) rfl) rfl) (by decide) rfl rfl⟩ (heldl_n))))) rfl (by first | exact .inl rfl | exact .inr (.inl rfl) | exact .inr (.inr rfl)) (by decide) (by decide) rfl) rfl (by first | exact .inl rfl | exact .inr rfl))
    (svs_one (sv_if (et_w (ew_or (et_not (et_tru (b_isX T.caught_exc rfl T.z_isinstance (ea_cons (evV 8) (ea_cons (ev_glob (v := .ref T.C_BadMoves) rfl T.M_BadMoves rfl (fun _ _ => .op _) (by decide)) (ea_nil) rfl) rfl) rfl rfl) (fun _ => rfl))) (ew_or1 (et_isNot (ev_xf T.xf_at (evV 8) rfl) (ev_non))))) (svs_one (sv_ret (ev_bl))) (svs_nil)))) (fun _ => rfl))
    (svs_cons (sv_set (i := 9) sc_law.nd rfl (by first | exact .inl rfl | exact .inr rfl) (ev_callF (gd := false) (k := 13) (ps := ["_law_state", "_law_several_here"]) ((w__law_pick T).mono (by decide)) hr (fun h => nomatch h) psOf rfl T.m__law_pick T.F__law_pick.kp T.b__law_pick (ea_cons (evV 1) (ea_cons (ev_lst (ea_cons (ev_non) (ea_cons (ev_str) (ea_cons (ev_int) (ea_cons (ev_neg (ev_int)) (ea_cons (ev_int) (ea_cons (ev_int) (ea_cons (ev_bl) (ea_cons (ev_bl) (ea_cons (ev_tup (ea_cons (ev_int) (ea_nil) rfl)) (ea_cons (ev_lst (ea_cons (ev_int) (ea_nil) rfl)) (ea_nil) rfl) rfl) rfl) rfl) rfl) rfl) rfl) rfl) rfl) rfl)) (ea_nil) rfl) rfl) (by decide) rfl rfl) rfl (by first | exact .inl rfl | exact .inr rfl))
    (svs_one (sv_for owOf rfl (ei_seq (ev_lst (ea_cons (ev_lam (L := T.ax.M 1 s.heap.objs.size 2) rfl hTB.tab_law (hc.symm.trans T.e_law) (by rw [hTB.eq]; exact (List.mem_cons_of_mem _ (List.mem_cons_self))) (fun p hp hP => by rw [hTB.eq] at hp; unfold Top.tabs at hp; simp only [List.mem_cons, List.not_mem_nil, or_false] at hp; rcases hp with rfl | rfl; all_goals first | exact absurd hP T.pn__law_refusals_law | rfl) (LamX.lamS_by (sc := defScope s_law) (scope := (lamA_law 2).2.2) (by decide +kernel)) rfl) (ea_cons (ev_lam (L := T.ax.M 1 s.heap.objs.size 3) rfl hTB.tab_law (hc.symm.trans T.e_law) (by rw [hTB.eq]; exact (List.mem_cons_of_mem _ (List.mem_cons_self))) (fun p hp hP => by rw [hTB.eq] at hp; unfold Top.tabs at hp; simp only [List.mem_cons, List.not_mem_nil, or_false] at hp; rcases hp with rfl | rfl; all_goals first | exact absurd hP T.pn__law_refusals_law | rfl) (LamX.lamS_by (sc := defScope s_law) (scope := (lamA_law 3).2.2) (by decide +kernel)) rfl) (ea_nil) rfl) rfl))) (gv_name (i := 7) sc_law.nd rfl (by first | exact .inl rfl | exact .inr rfl) (by first | exact .inl rfl | exact .inr rfl)) (svs_one (sv_if (et_not (et_tru (b_isX T.caught_exc rfl T.z_isinstance (ea_cons (ev_caughtV T (k := 11) rfl rfl rfl hr (heldl_c ⟨rfl, rfl, LamX.lamS_by (sc := defScope s_law) (scope := (lamA_law 0).2.2) (by decide +kernel), fun _ _ _ _ _ => rfl, fun A2 outer2 s2 H2 E2 f2 c2 hr2 => ev_callF (gd := false) (k := 11) (ps := ["words", "moves"]) ((w_led T).mono (by decide)) hr2 (fun h => nomatch h) psLam rfl T.m_led T.F_led.kp T.b_led (ea_cons (evV 4) (ea_cons (evV 6) (ea_nil) rfl) rfl) (by decide) rfl rfl⟩ (heldl_c ⟨rfl, rfl, LamX.lamS_by (sc := defScope s_law) (scope := (lamA_law 1).2.2) (by decide +kernel), fun _ _ _ _ _ => rfl, fun A2 outer2 s2 H2 E2 f2 c2 hr2 => ev_callF (gd := false) (k := 11) (ps := ["length", "moves"]) ((w_frame_of T).mono (by decide)) hr2 (fun h => nomatch h) psLam rfl T.m_frame_of T.F_frame_of.kp T.b_frame_of (ea_cons (evV 3) (ea_cons (evV 6) (ea_nil) rfl) rfl) (by decide) rfl rfl⟩ (heldl_c ⟨rfl, rfl, LamX.lamS_by (sc := defScope s_law) (scope := (lamA_law 2).2.2) (by decide +kernel), fun _ _ _ _ _ => rfl, fun A2 outer2 s2 H2 E2 f2 c2 hr2 => ev_callF (gd := false) (k := 11) (ps := ["length", "thing"]) ((w_is_move T).mono (by decide)) hr2 (fun h => nomatch h) psLam rfl T.m_is_move T.F_is_move.kp T.b_is_move (ea_cons (evV 9) (ea_cons (ev_tup (ea_cons (ev_str) (ea_cons (ev_int) (ea_nil) rfl) rfl)) (ea_nil) rfl) rfl) (by decide) rfl rfl⟩ (heldl_c ⟨rfl, rfl, LamX.lamS_by (sc := defScope s_law) (scope := (lamA_law 3).2.2) (by decide +kernel), fun _ _ _ _ _ => rfl, fun A2 outer2 s2 H2 E2 f2 c2 hr2 => ev_callF (gd := false) (k := 11) (ps := ["length", "moves"]) ((w_frame_of T).mono (by decide)) hr2 (fun h => nomatch h) psLam rfl T.m_frame_of T.F_frame_of.kp T.b_frame_of (ea_cons (evV 9) (ea_cons (evV 6) (ea_nil) rfl) rfl) (by decide) rfl rfl⟩ (heldl_n))))) rfl (by first | exact .inl rfl | exact .inr (.inl rfl) | exact .inr (.inr rfl)) (by decide) (by decide) rfl) (ea_cons (ev_glob (v := .ref T.C_BadLength) rfl T.M_BadLength rfl (fun _ _ => .op _) (by decide)) (ea_nil) rfl) rfl) rfl rfl) (fun _ => rfl))) (svs_one (sv_ret (ev_bl))) (svs_nil))) (fun _ => rfl))))))))) (fun _ => rfl))
    (svs_one (sv_ret (ev_bl))))
end
end DX
namespace DX
open PySem PySem.Spec PyProof.Rows L2 GF
/-- a head that `==` with a text can be asked of -/
def hdB : Dt → Bool
  | .str s => SeqAt.shaped (.str s)
  | .dic _ => true
  | x => match DX.py x with
    | some p => othB p && SeqAt.shaped p
    | none => false
/-- the head is this text -/
def hdIs (x : Dt) (z : Str) : Bool := match x with
  | .str y => decide (y = z)
  | _ => false
theorem eqCD_oth {x : Dt} {z : Str} {cs : List Cell} (hx : (match DX.py x with | some p => othB p && SeqAt.shaped p | none => false) = true) (hz : SeqAt.shaped (.str z) = true) : eqCD (.dat x) (.dat (.str z)) cs = some (.bl false) := by
  split at hx
  · rename_i p hp
    rw [Bool.and_eq_true] at hx
    exact eqCD_of (eq_kind hp hx.1 hx.2 hz)
  · cases hx
theorem eqCD_hd {x : Dt} {z : Str} {cs : List Cell} (hx : hdB x = true) (hz : SeqAt.shaped (.str z) = true) : eqCD (.dat x) (.dat (.str z)) cs = some (.bl (hdIs x z)) := by
  cases x with
  | str y => exact eqCD_of eq_txt
  | dic l => rfl
  | non => exact eqCD_oth hx hz
  | bl b => exact eqCD_oth hx hz
  | int i => exact eqCD_oth hx hz
  | tup l => exact eqCD_oth hx hz
  | lst l => exact eqCD_oth hx hz
  | _ => cases hx
theorem eqCD_int {i j : Int} {cs : List Cell} : eqCD (.dat (.int i)) (.dat (.int j)) cs = some (.bl (decide (i = j))) := by
  refine eqCD_of ?_
  unfold eqC eqB
  rfl
theorem k_eqcd {x y : Wv} {cs : List Cell} : kEqCDB x y cs = rO (eqCD x y cs) cs := rO_map _
section
variable {cs : List Cell} {n : Nat}
/-- the values that are no tuples -/
def noTup : Dt → Bool
  | .non => true
  | .bl _ => true
  | .int _ => true
  | .str _ => true
  | .lst _ => true
  | .dic _ => true
  | _ => false
theorem isi_noTup {x : Dt} (h : noTup x = true) (cs : List Cell) : oIsi [.dat x, .dat (.op (.ty "tuple"))] cs = some (.bl false) := by
  cases x with
  | non => rfl
  | bl b => rfl
  | int i => rfl
  | str s => rfl
  | lst l => rfl
  | dic l => rfl
  | _ => cases h
theorem im_noTup {x : Dt} (h : noTup x = true) {v : Dt} : m_is_move_of_v2 [.dat v, .dat x] cs = .ok (.dat (.bl false)) cs := by
  have i := isi_noTup h
  refine fn_ev ?_
  k_state0 [b_is_move_of_v2, start_cons, start_nil, repl_S, repl_0, i]
theorem im_two {h a : Dt} (hh : hdB h = true) (ht : hdIs h "turn" = false) (ha : pl0 a = true) : m_is_move_of_v2 [.dat (.int (n : Nat)), .dat (.tup [h, a])] cs = .ok (.dat (.bl (hdIs h "swap" && inR n a))) cs := by
  have ist : ∀ l cs, oIsi [.dat (.tup l), .dat (.op (.ty "tuple"))] cs = some (.bl true) := fun _ _ => rfl
  have c1 : ∀ a b cs, wSl (.dat (.tup [a, b])) (some 1) none cs = some (.tup [b]) := fun _ _ _ => rfl
  have e1 := fun cs => eqCD_hd (z := "turn") (cs := cs) hh (by decide +kernel)
  have e2 := fun cs => eqCD_hd (z := "swap") (cs := cs) hh (by decide +kernel)
  rw [ht] at e1
  have bt : ce_is_move_of_v2_0 [some (.dat (.int (n : Nat))), some (.dat (.tup [h, a])), some (.dat a)] cs = .ok (.dat (.bl (inR n a))) cs := by
    have q := r_between (m := n) (cs := cs) ha
    k_state0 [ce_is_move_of_v2_0, q]
  have l1 := lc_mapD (t := tName 2) (f := ce_is_move_of_v2_0) (env := [some (.dat (.int (n : Nat))), some (.dat (.tup [h, a])), none]) (cs := cs) (fun x : Dt => x) (fun x => .bl (inR n x)) [a] (fun i hi => ⟨_, rfl, by
    rw [List.mem_singleton] at hi
    subst hi
    exact bt⟩)
  simp only [List.map_cons, List.map_nil] at l1
  have al : dAll (.lst [.bl (inR n a)]) = some (.bl (inR n a)) := by
    cases inR n a <;> rfl
  refine fn_ev ?_
  cases h1 : inR n a with
  | false =>
    rw [h1] at l1 al
    k_state0 [b_is_move_of_v2, s_eqCD, k_eqCDA, k_eqcd, eqCD_int, start_cons, start_nil, repl_S, repl_0, ist, in23, nat_c2, c1, e1, wipe_nil, wipe_cons, l1, al]
  | true =>
    rw [h1] at l1 al
    cases h2 : hdIs h "swap" with
    | false =>
      rw [h2] at e2
      k_state0 [b_is_move_of_v2, s_eqCD, k_eqCDA, k_eqcd, eqCD_int, start_cons, start_nil, repl_S, repl_0, ist, in23, nat_c2, c1, e1, e2, wipe_nil, wipe_cons, l1, al]
    | true =>
      rw [h2] at e2
      k_state0 [b_is_move_of_v2, s_eqCD, k_eqCDA, k_eqcd, eqCD_int, start_cons, start_nil, repl_S, repl_0, ist, in23, nat_c2, c1, e1, e2, wipe_nil, wipe_cons, l1, al]
/-- three parts that are a move -/
def im3 (n : Nat) (h a b : Dt) : Bool := inR n a && (inR n b && (!hdIs h "swap" && (if hdIs h "trade" then decide (unI a < unI b) else hdIs h "lean" && !decide (unI a = unI b))))
theorem inR_int {a : Dt} (h : inR n a = true) : ∃ i, a = .int i := by
  cases a with
  | int i => exact ⟨i, rfl⟩
  | _ => cases h
theorem im_three {h a b : Dt} (hh : hdB h = true) (ht : hdIs h "turn" = false) (ha : pl0 a = true) (hb : pl0 b = true) : m_is_move_of_v2 [.dat (.int (n : Nat)), .dat (.tup [h, a, b])] cs = .ok (.dat (.bl (im3 n h a b))) cs := by
  have ist : ∀ l cs, oIsi [.dat (.tup l), .dat (.op (.ty "tuple"))] cs = some (.bl true) := fun _ _ => rfl
  have c1 : ∀ a b c cs, wSl (.dat (.tup [a, b, c])) (some 1) none cs = some (.tup [b, c]) := fun _ _ _ _ => rfl
  have e1 := fun cs => eqCD_hd (z := "turn") (cs := cs) hh (by decide +kernel)
  have e2 := fun cs => eqCD_hd (z := "swap") (cs := cs) hh (by decide +kernel)
  have e3 := fun cs => eqCD_hd (z := "trade") (cs := cs) hh (by decide +kernel)
  have e4 := fun cs => eqCD_hd (z := "lean") (cs := cs) hh (by decide +kernel)
  rw [ht] at e1
  have bt : ∀ x : Dt, pl0 x = true → ce_is_move_of_v2_0 [some (.dat (.int (n : Nat))), some (.dat (.tup [h, a, b])), some (.dat x)] cs = .ok (.dat (.bl (inR n x))) cs := fun x hx => by
    have q := r_between (m := n) (cs := cs) hx
    k_state0 [ce_is_move_of_v2_0, q]
  have l1 := lc_mapD (t := tName 2) (f := ce_is_move_of_v2_0) (env := [some (.dat (.int (n : Nat))), some (.dat (.tup [h, a, b])), none]) (cs := cs) (fun x : Dt => x) (fun x => .bl (inR n x)) [a, b] (fun i hi => ⟨_, rfl, by
    rcases List.mem_cons.mp hi with rfl | hi
    · exact bt _ ha
    · rw [List.mem_singleton] at hi
      subst hi
      exact bt _ hb⟩)
  simp only [List.map_cons, List.map_nil] at l1
  have al : dAll (.lst [.bl (inR n a), .bl (inR n b)]) = some (.bl (inR n a && inR n b)) := by
    cases inR n a <;> cases inR n b <;> rfl
  refine fn_ev ?_
  unfold im3
  rw [← Bool.and_assoc]
  cases h1 : inR n a && inR n b with
  | false =>
    rw [h1] at al
    k_state0 [b_is_move_of_v2, s_eqCD, k_eqCDA, k_eqcd, eqCD_int, start_cons, start_nil, repl_S, repl_0, ist, in23, nat_c3, c1, e1, wipe_nil, wipe_cons, l1, al]
  | true =>
    rw [h1] at al
    rw [Bool.and_eq_true] at h1
    obtain ⟨i, rfl⟩ := inR_int h1.1
    obtain ⟨j, rfl⟩ := inR_int h1.2
    cases h2 : hdIs h "swap" with
    | true =>
      rw [h2] at e2
      k_state0 [b_is_move_of_v2, s_eqCD, k_eqCDA, k_eqcd, eqCD_int, start_cons, start_nil, repl_S, repl_0, ist, in23, nat_c3, c1, e1, e2, wipe_nil, wipe_cons, l1, al]
    | false =>
      rw [h2] at e2
      cases h3 : hdIs h "trade" with
      | true =>
        rw [h3] at e3
        k_state0 [b_is_move_of_v2, s_eqCD, k_eqCDA, k_eqcd, eqCD_int, start_cons, start_nil, repl_S, repl_0, ist, in23, nat_c3, c1, e1, e2, e3, wipe_nil, wipe_cons, l1, al]
        rfl
      | false =>
        rw [h3] at e3
        cases h4 : hdIs h "lean" with
        | true =>
          rw [h4] at e4
          k_state0 [b_is_move_of_v2, s_eqCD, k_eqCDA, k_eqcd, eqCD_int, start_cons, start_nil, repl_S, repl_0, ist, in23, nat_c3, c1, e1, e2, e3, e4, wipe_nil, wipe_cons, l1, al]
          rfl
        | false =>
          rw [h4] at e4
          k_state0 [b_is_move_of_v2, s_eqCD, k_eqCDA, k_eqcd, eqCD_int, start_cons, start_nil, repl_S, repl_0, ist, in23, nat_c3, c1, e1, e2, e3, e4, wipe_nil, wipe_cons, l1, al]
/-- turn with three parts -/
theorem im_turn3 {h a b : Dt} (hh : hdB h = true) (ht : hdIs h "turn" = true) : m_is_move_of_v2 [.dat (.int (n : Nat)), .dat (.tup [h, a, b])] cs = .ok (.dat (.bl false)) cs := by
  have ist : ∀ l cs, oIsi [.dat (.tup l), .dat (.op (.ty "tuple"))] cs = some (.bl true) := fun _ _ => rfl
  have e1 := fun cs => eqCD_hd (z := "turn") (cs := cs) hh (by decide +kernel)
  rw [ht] at e1
  refine fn_ev ?_
  k_state0 [b_is_move_of_v2, s_eqCD, k_eqCDA, k_eqcd, eqCD_int, start_cons, start_nil, repl_S, repl_0, ist, in23, nat_c3, e1]
theorem im_one {h : Dt} : m_is_move_of_v2 [.dat (.int (n : Nat)), .dat (.tup [h])] cs = .ok (.dat (.bl false)) cs := by
  have ist : ∀ l cs, oIsi [.dat (.tup l), .dat (.op (.ty "tuple"))] cs = some (.bl true) := fun _ _ => rfl
  have ln : ∀ a cs, oLen [.dat (.tup [a])] cs = some (.int 1) := fun _ _ => rfl
  refine fn_ev ?_
  k_state0 [b_is_move_of_v2, start_cons, start_nil, repl_S, repl_0, ist, in23, ln]
theorem im_none : m_is_move_of_v2 [.dat (.int (n : Nat)), .dat (.tup [])] cs = .ok (.dat (.bl false)) cs := by
  have ist : ∀ l cs, oIsi [.dat (.tup l), .dat (.op (.ty "tuple"))] cs = some (.bl true) := fun _ _ => rfl
  have ln : ∀ cs, oLen [.dat (.tup [])] cs = some (.int 0) := fun _ => rfl
  refine fn_ev ?_
  k_state0 [b_is_move_of_v2, start_cons, start_nil, repl_S, repl_0, ist, in23, ln]
theorem im_four {h a b c : Dt} : m_is_move_of_v2 [.dat (.int (n : Nat)), .dat (.tup [h, a, b, c])] cs = .ok (.dat (.bl false)) cs := by
  have ist : ∀ l cs, oIsi [.dat (.tup l), .dat (.op (.ty "tuple"))] cs = some (.bl true) := fun _ _ => rfl
  have ln : ∀ a b c d cs, oLen [.dat (.tup [a, b, c, d])] cs = some (.int 4) := fun _ _ _ _ _ => rfl
  refine fn_ev ?_
  k_state0 [b_is_move_of_v2, start_cons, start_nil, repl_S, repl_0, ist, in23, ln]
/-- turn with letters: what is_letters says -/
theorem im_turn2 {h a : Dt} {b : Bool} (hh : hdB h = true) (ht : hdIs h "turn" = true) (q : m_is_letters [.dat (.int (n : Nat)), .dat a] cs = .ok (.dat (.bl b)) cs) : m_is_move_of_v2 [.dat (.int (n : Nat)), .dat (.tup [h, a])] cs = .ok (.dat (.bl b)) cs := by
  have ist : ∀ l cs, oIsi [.dat (.tup l), .dat (.op (.ty "tuple"))] cs = some (.bl true) := fun _ _ => rfl
  have e1 := fun cs => eqCD_hd (z := "turn") (cs := cs) hh (by decide +kernel)
  rw [ht] at e1
  refine fn_ev ?_
  k_state0 [b_is_move_of_v2, s_eqCD, k_eqCDA, k_eqcd, eqCD_int, start_cons, start_nil, repl_S, repl_0, ist, in23, nat_c2, e1, q]
end
end DX
namespace DX
open PySem PySem.Spec PyProof.Rows L2 GF
section
variable {cs : List Cell} {n : Nat}
/-- letters of words of a length -/
def letN (n : Nat) : Dt → Bool
  | .str z => decide (z.length = n) && z.cps.toList.all inLet
  | _ => false
theorem letters_any {a : Dt} (h : pl0 a = true) : m_is_letters [.dat (.int (n : Nat)), .dat a] cs = .ok (.dat (.bl (letN n a))) cs := by
  cases a with
  | str z =>
    have hz : z.length ≤ 16777216 := of_decide_eq_true h
    have hi : oIsi [.dat (.str z), .dat (.op (.ty "str"))] cs = some (.bl true) := rfl
    have lm : loopC (tName 2) tYesE ce_is_letters_0 [some (.dat (.int (n : Nat))), some (.dat (.str z)), none] (z.cps.toList.map fun c => .dat (.str ⟨#[c]⟩)) cs = .ok ((z.cps.toList.map fun c => Dt.bl (inLet c)).map Wv.dat) cs := by
      refine lc_map (fun c => .dat (.str ⟨#[c]⟩)) _ _ fun c _ => ⟨_, rfl, ?_⟩
      k_state0 [ce_is_letters_0, in_let]
    have hl := str_len z
    have hall := all_map inLet z.cps.toList
    refine fn_ev ?_
    by_cases h1 : z.length = n
    · have dn : decide ((n : Int) = (n : Int)) = true := decide_eq_true rfl
      have sl : (z.length : Int) = (n : Int) := by omega
      k_state0 [b_is_letters, start_cons, start_nil, repl_S, repl_0, hi, sl, dn, signs_map, wipe_nil, wipe_cons, lm, dats_mapd, hall]
      simp [letN, h1]
    · have dn : decide ((z.length : Int) = (n : Int)) = false := decide_eq_false (by omega)
      k_state0 [b_is_letters, start_cons, start_nil, repl_S, repl_0, hi, dn]
      simp [letN, h1]
  | op v => cases h
  | scr v => cases h
  | exn v => cases h
  | dit v => cases h
  | lam _ _ => cases h
  | _ => rfl
theorem lawlet_any {a : Dt} (h : pl0 a = true) : m__law_is_letters [.dat a, .dat (.int (n : Nat))] cs = .ok (.dat (.bl (letN n a))) cs := by
  cases a with
  | str z =>
    have hz : z.length ≤ 16777216 := of_decide_eq_true h
    have hi : oIsi [.dat (.str z), .dat (.op (.ty "str"))] cs = some (.bl true) := rfl
    have lm : loopC (tName 2) ci__law_is_letters_0 ce__law_is_letters_0 [some (.dat (.str z)), some (.dat (.int (n : Nat))), none] (z.cps.toList.map fun c => .dat (.str ⟨#[c]⟩)) cs = .ok (((z.cps.toList.filter fun c => !inLet c).map fun _ => Dt.int 1).map Wv.dat) cs := by
      refine lc_filter (fun c => .dat (.str ⟨#[c]⟩)) (fun _ => .int 1) (fun c => !inLet c) _ fun c _ => ⟨_, rfl, ?_, fun _ => rfl⟩
      k_state0 [ci__law_is_letters_0, notin_let]
    have hl := str_len z
    have hn := eq_nil_ones (z.cps.toList.filter fun c => !inLet c) cs
    rw [filt_all] at hn
    refine fn_ev ?_
    by_cases h1 : z.length = n
    · have dn : decide ((n : Int) = (n : Int)) = true := decide_eq_true rfl
      have sl : (z.length : Int) = (n : Int) := by omega
      k_state0 [b__law_is_letters, start_cons, start_nil, repl_S, repl_0, hi, sl, dn, signs_map, wipe_nil, wipe_cons, lm, dats_mapd, hn]
      simp [letN, h1]
    · have dn : decide ((z.length : Int) = (n : Int)) = false := decide_eq_false (by omega)
      k_state0 [b__law_is_letters, start_cons, start_nil, repl_S, repl_0, hi, dn]
      simp [letN, h1]
  | op v => cases h
  | scr v => cases h
  | exn v => cases h
  | dit v => cases h
  | lam _ _ => cases h
  | _ => rfl
theorem below_any {a : Dt} (h : pl0 a = true) : m__law_is_below [.dat a, .dat (.int (n : Nat))] cs = .ok (.dat (.bl (inR n a))) cs := by
  have q := r_is_whole (cs := cs) h
  cases a with
  | int i =>
    refine fn_ev ?_
    by_cases h0 : (0 : Int) ≤ i
    · k_state0 [b__law_is_below, start_cons, start_nil, repl_S, repl_0, q, h0]
      simp [inR, h0]
      omega
    · k_state0 [b__law_is_below, start_cons, start_nil, repl_S, repl_0, q, h0]
      simp [inR, h0]
  | op v => cases h
  | scr v => cases h
  | exn v => cases h
  | dit v => cases h
  | lam _ _ => cases h
  | _ => rfl
end
end DX
namespace DX
open PySem PySem.Spec PyProof.Rows L2 GF
section
variable {cs : List Cell} {n : Nat}
/-- a thing is a move of words of a length -/
def isM (n : Nat) : Dt → Bool
  | .tup [h, a] => (hdIs h "swap" && inR n a) || (hdIs h "turn" && letN n a)
  | .tup [h, a, b] => !hdIs h "turn" && im3 n h a b
  | _ => false
/-- the things asked about -/
def thB : Dt → Bool
  | .tup [] => true
  | .tup [h] => hdB h
  | .tup [h, a] => hdB h && pl0 a
  | .tup [h, a, b] => hdB h && (pl0 a && pl0 b)
  | .tup [h, _, _, _] => hdB h
  | x => noTup x
theorem hd_excl {h : Dt} {y z : Str} (h1 : hdIs h y = true) (hn : decide (y = z) = false) : hdIs h z = false := by
  cases h with
  | str s =>
    have e : s = y := of_decide_eq_true h1
    subst e
    exact hn
  | _ => rfl
theorem move_any {x : Dt} (h : thB x = true) : m_is_move_of_v2 [.dat (.int (n : Nat)), .dat x] cs = .ok (.dat (.bl (isM n x))) cs := by
  cases x with
  | tup l =>
    match l, h with
    | [], _ => exact im_none
    | [_], _ => exact im_one
    | [a, b], h =>
      have h : (hdB a && pl0 b) = true := h
      rw [Bool.and_eq_true] at h
      cases ht : hdIs a "turn" with
      | true =>
        rw [im_turn2 h.1 ht (letters_any h.2)]
        simp [isM, ht, hd_excl ht tn_sw]
      | false =>
        rw [im_two h.1 ht h.2]
        simp [isM, ht]
    | [a, b, c], h =>
      have h : (hdB a && (pl0 b && pl0 c)) = true := h
      rw [Bool.and_eq_true, Bool.and_eq_true] at h
      cases ht : hdIs a "turn" with
      | true =>
        rw [im_turn3 h.1 ht]
        simp [isM, ht]
      | false =>
        rw [im_three h.1 ht h.2.1 h.2.2]
        simp [isM, ht]
    | [_, _, _, _], _ => exact im_four
    | _ :: _ :: _ :: _ :: _ :: _, h => cases h
  | non => exact im_noTup rfl
  | bl b => exact im_noTup rfl
  | int i => exact im_noTup rfl
  | str s => exact im_noTup rfl
  | lst l => exact im_noTup rfl
  | dic l => exact im_noTup rfl
  | _ => cases h
theorem in_two {s a b : Str} (hs : SeqAt.shaped (.str s) = true) (hl : SeqAt.shaped (.list [.str a, .str b]) = true) : dIn (.str s) (.lst [.str a, .str b]) = some (.bl (decide (s = a) || decide (s = b))) ∧ dNotIn (.str s) (.lst [.str a, .str b]) = some (.bl (!(decide (s = a) || decide (s = b)))) := by
  have e : dInB (.str s) (.lst [.str a, .str b]) = some (decide (s = a) || decide (s = b)) := by
    unfold dInB
    simp only [py, seqOf, pys, Option.bind_some]
    rw [hs, hl]
    show some ((a == s) || ((b == s) || false)) = _
    rw [str_beq, str_beq, Bool.or_false]
    congr 2 <;> rw [decide_eq_decide] <;> exact eq_comm
  unfold dIn dNotIn
  rw [e]
  exact ⟨rfl, rfl⟩
theorem lm_noTup {x : Dt} (h : noTup x = true) {v : Dt} : m__law_is_move [.dat v, .dat x] cs = .ok (.dat (.bl false)) cs := by
  have i := isi_noTup h
  refine fn_ev ?_
  k_state0 [b__law_is_move, start_cons, start_nil, repl_S, repl_0, i]
theorem lm_none {v : Dt} : m__law_is_move [.dat v, .dat (.tup [])] cs = .ok (.dat (.bl false)) cs := by
  have ist : ∀ l cs, oIsi [.dat (.tup l), .dat (.op (.ty "tuple"))] cs = some (.bl true) := fun _ _ => rfl
  have ln : ∀ cs, oLen [.dat (.tup [])] cs = some (.int 0) := fun _ => rfl
  refine fn_ev ?_
  k_state0 [b__law_is_move, start_cons, start_nil, repl_S, repl_0, ist, ln]
end
end DX
namespace DX
open PySem PySem.Spec PyProof.Rows L2 GF
section
variable {cs : List Cell} {n : Nat}
def isStr : Dt → Bool
  | .str _ => true
  | _ => false
theorem isi_noStr {h : Dt} (hh : hdB h = true) (hs : isStr h = false) (cs : List Cell) : oIsi [.dat h, .dat (.op (.ty "str"))] cs = some (.bl false) := by
  cases h with
  | str s => cases hs
  | non => rfl
  | bl b => rfl
  | int i => rfl
  | tup l => rfl
  | lst l => rfl
  | dic l => rfl
  | _ => cases hh
theorem lm_noStr {h : Dt} {l : List Dt} (hl : l.length ≤ 3) (hh : hdB h = true) (hs : isStr h = false) {v : Dt} : m__law_is_move [.dat v, .dat (.tup (h :: l))] cs = .ok (.dat (.bl false)) cs := by
  have ist : ∀ l cs, oIsi [.dat (.tup l), .dat (.op (.ty "tuple"))] cs = some (.bl true) := fun _ _ => rfl
  have i := isi_noStr hh hs
  refine fn_ev ?_
  match l, hl with
  | [], _ =>
    have ln : ∀ a cs, oLen [.dat (.tup [a])] cs = some (.int 1) := fun _ _ => rfl
    k_state0 [b__law_is_move, start_cons, start_nil, repl_S, repl_0, ist, ln, i]
  | [_], _ => k_state0 [b__law_is_move, start_cons, start_nil, repl_S, repl_0, ist, nat_c2, i]
  | [_, _], _ => k_state0 [b__law_is_move, start_cons, start_nil, repl_S, repl_0, ist, nat_c3, i]
  | [_, _, _], _ =>
    have ln : ∀ a b c d cs, oLen [.dat (.tup [a, b, c, d])] cs = some (.int 4) := fun _ _ _ _ _ => rfl
    k_state0 [b__law_is_move, start_cons, start_nil, repl_S, repl_0, ist, ln, i]
theorem sh_a : SeqAt.shaped (.list [.str "swap", .str "turn"]) = true := by decide +kernel
theorem sh_b : SeqAt.shaped (.list [.str "trade", .str "lean"]) = true := by decide +kernel
theorem isi_str (s : Str) (cs : List Cell) : oIsi [.dat (.str s), .dat (.op (.ty "str"))] cs = some (.bl true) := rfl
theorem lm_one {s : Str} (hs : SeqAt.shaped (.str s) = true) {v : Dt} : m__law_is_move [.dat v, .dat (.tup [.str s])] cs = .ok (.dat (.bl false)) cs := by
  have ist : ∀ l cs, oIsi [.dat (.tup l), .dat (.op (.ty "tuple"))] cs = some (.bl true) := fun _ _ => rfl
  have ln : ∀ a cs, oLen [.dat (.tup [a])] cs = some (.int 1) := fun _ _ => rfl
  have i := isi_str s
  obtain ⟨q1, _⟩ := in_two (s := s) hs sh_a
  obtain ⟨_, q2⟩ := in_two (s := s) hs sh_b
  refine fn_ev ?_
  cases h1 : decide (s = "swap") || decide (s = "turn") with
  | true =>
    rw [h1] at q1
    k_state0 [b__law_is_move, start_cons, start_nil, repl_S, repl_0, ist, ln, i, q1]
  | false =>
    rw [h1] at q1
    cases h2 : decide (s = "trade") || decide (s = "lean") with
    | true =>
      rw [h2] at q2
      k_state0 [b__law_is_move, start_cons, start_nil, repl_S, repl_0, ist, ln, i, q1, q2]
    | false =>
      rw [h2] at q2
      k_state0 [b__law_is_move, start_cons, start_nil, repl_S, repl_0, ist, ln, i, q1, q2]
theorem lm_four {s : Str} {a b c : Dt} (hs : SeqAt.shaped (.str s) = true) {v : Dt} : m__law_is_move [.dat v, .dat (.tup [.str s, a, b, c])] cs = .ok (.dat (.bl false)) cs := by
  have ist : ∀ l cs, oIsi [.dat (.tup l), .dat (.op (.ty "tuple"))] cs = some (.bl true) := fun _ _ => rfl
  have ln : ∀ a b c d cs, oLen [.dat (.tup [a, b, c, d])] cs = some (.int 4) := fun _ _ _ _ _ => rfl
  have i := isi_str s
  obtain ⟨q1, _⟩ := in_two (s := s) hs sh_a
  obtain ⟨_, q2⟩ := in_two (s := s) hs sh_b
  refine fn_ev ?_
  cases h1 : decide (s = "swap") || decide (s = "turn") with
  | true =>
    rw [h1] at q1
    k_state0 [b__law_is_move, start_cons, start_nil, repl_S, repl_0, ist, ln, i, q1]
  | false =>
    rw [h1] at q1
    cases h2 : decide (s = "trade") || decide (s = "lean") with
    | true =>
      rw [h2] at q2
      k_state0 [b__law_is_move, start_cons, start_nil, repl_S, repl_0, ist, ln, i, q1, q2]
    | false =>
      rw [h2] at q2
      k_state0 [b__law_is_move, start_cons, start_nil, repl_S, repl_0, ist, ln, i, q1, q2]
theorem lm_two {s : Str} {a : Dt} (hs : SeqAt.shaped (.str s) = true) (ha : pl0 a = true) : m__law_is_move [.dat (.int (n : Nat)), .dat (.tup [.str s, a])] cs = .ok (.dat (.bl (isM n (.tup [.str s, a])))) cs := by
  have ist : ∀ l cs, oIsi [.dat (.tup l), .dat (.op (.ty "tuple"))] cs = some (.bl true) := fun _ _ => rfl
  have i := isi_str s
  obtain ⟨q1, _⟩ := in_two (s := s) hs sh_a
  obtain ⟨_, q2⟩ := in_two (s := s) hs sh_b
  have l1 := below_any (n := n) (cs := cs) ha
  have l2 := lawlet_any (n := n) (cs := cs) ha
  have e : isM n (.tup [.str s, a]) = ((decide (s = "swap") && inR n a) || (decide (s = "turn") && letN n a)) := rfl
  rw [e]
  refine fn_ev ?_
  by_cases h1 : s = "swap"
  · subst h1
    rw [str_rf] at q1 ⊢
    rw [show decide (("swap" : Str) = "turn") = false from sw_tn] at q1 ⊢
    k_state0 [b__law_is_move, start_cons, start_nil, repl_S, repl_0, ist, nat_c2, i, q1, l1, str_rf]
  · by_cases h2 : s = "turn"
    · subst h2
      rw [str_rf, tn_sw] at q1 ⊢
      k_state0 [b__law_is_move, start_cons, start_nil, repl_S, repl_0, ist, nat_c2, i, q1, l2, tn_sw]
    · rw [decide_eq_false h1, decide_eq_false h2] at q1 ⊢
      cases h3 : decide (s = "trade") || decide (s = "lean") with
      | true =>
        rw [h3] at q2
        k_state0 [b__law_is_move, start_cons, start_nil, repl_S, repl_0, ist, nat_c2, i, q1, q2]
      | false =>
        rw [h3] at q2
        k_state0 [b__law_is_move, start_cons, start_nil, repl_S, repl_0, ist, nat_c2, i, q1, q2]
theorem lm_three {s : Str} {a b : Dt} (hs : SeqAt.shaped (.str s) = true) (ha : pl0 a = true) (hb : pl0 b = true) : m__law_is_move [.dat (.int (n : Nat)), .dat (.tup [.str s, a, b])] cs = .ok (.dat (.bl (isM n (.tup [.str s, a, b])))) cs := by
  have ist : ∀ l cs, oIsi [.dat (.tup l), .dat (.op (.ty "tuple"))] cs = some (.bl true) := fun _ _ => rfl
  have i := isi_str s
  obtain ⟨q1, _⟩ := in_two (s := s) hs sh_a
  obtain ⟨_, q2⟩ := in_two (s := s) hs sh_b
  have l1 := below_any (n := n) (cs := cs) ha
  have l2 := below_any (n := n) (cs := cs) hb
  have e : isM n (.tup [.str s, a, b]) = (!decide (s = "turn") && (inR n a && (inR n b && (!decide (s = "swap") && (if decide (s = "trade") then decide (unI a < unI b) else decide (s = "lean") && !decide (unI a = unI b)))))) := rfl
  rw [e]
  refine fn_ev ?_
  cases h1 : decide (s = "swap") || decide (s = "turn") with
  | true =>
    rw [h1] at q1
    have z : (!decide (s = "turn") && (inR n a && (inR n b && (!decide (s = "swap") && (if decide (s = "trade") then decide (unI a < unI b) else decide (s = "lean") && !decide (unI a = unI b)))))) = false := by
      rw [Bool.or_eq_true] at h1
      rcases h1 with h1 | h1
      · rw [h1]
        cases inR n a <;> cases inR n b <;> simp
      · rw [h1]
        rfl
    rw [z]
    k_state0 [b__law_is_move, start_cons, start_nil, repl_S, repl_0, ist, nat_c3, i, q1]
  | false =>
    rw [h1] at q1
    rw [Bool.or_eq_false_iff] at h1
    rw [h1.1, h1.2]
    cases h2 : decide (s = "trade") || decide (s = "lean") with
    | false =>
      rw [h2] at q2
      rw [Bool.or_eq_false_iff] at h2
      rw [h2.1, h2.2]
      k_state0 [b__law_is_move, start_cons, start_nil, repl_S, repl_0, ist, nat_c3, i, q1, q2]
      try (cases inR n a <;> cases inR n b <;> rfl)
    | true =>
      rw [h2] at q2
      cases ra : inR n a with
      | false =>
        rw [ra] at l1
        k_state0 [b__law_is_move, start_cons, start_nil, repl_S, repl_0, ist, nat_c3, i, q1, q2, l1]
      | true =>
        rw [ra] at l1
        cases rb : inR n b with
        | false =>
          rw [rb] at l2
          k_state0 [b__law_is_move, start_cons, start_nil, repl_S, repl_0, ist, nat_c3, i, q1, q2, l1, l2]
        | true =>
          rw [rb] at l2
          obtain ⟨x, rfl⟩ := inR_int ra
          obtain ⟨y, rfl⟩ := inR_int rb
          cases h3 : decide (s = "trade") with
          | true =>
            k_state0 [b__law_is_move, start_cons, start_nil, repl_S, repl_0, ist, nat_c3, i, q1, q2, l1, l2, h3]
            try rfl
          | false =>
            rw [h3, Bool.false_or] at h2
            k_state0 [b__law_is_move, start_cons, start_nil, repl_S, repl_0, ist, nat_c3, i, q1, q2, l1, l2, h3, h2]
            try rfl
theorem isM_noStr {h : Dt} {l : List Dt} (hs : isStr h = false) : isM n (.tup (h :: l)) = false := by
  have z : ∀ y, hdIs h y = false := fun y => by
    cases h with
    | str s => cases hs
    | _ => rfl
  match l with
  | [] => rfl
  | [a] => simp [isM, z]
  | [a, b] => simp [isM, im3, z]
  | _ :: _ :: _ :: _ => rfl
/-- any thing asked about, judged by the law -/
theorem law_move_any {x : Dt} (h : thB x = true) : m__law_is_move [.dat (.int (n : Nat)), .dat x] cs = .ok (.dat (.bl (isM n x))) cs := by
  cases x with
  | tup l =>
    cases l with
    | nil => exact lm_none
    | cons a l =>
      have hh : hdB a = true ∧ l.length ≤ 3 := by
        match l, h with
        | [], h => exact ⟨h, by simp⟩
        | [_], h => exact ⟨(Bool.and_eq_true _ _ ▸ h : _ ∧ _).1, by simp⟩
        | [_, _], h => exact ⟨(Bool.and_eq_true _ _ ▸ h : _ ∧ _).1, by simp⟩
        | [_, _, _], h => exact ⟨h, by simp⟩
        | _ :: _ :: _ :: _ :: _, h => cases h
      cases hs : isStr a with
      | false => rw [lm_noStr hh.2 hh.1 hs, isM_noStr hs]
      | true =>
        cases a with
        | str s =>
          have hq : SeqAt.shaped (.str s) = true := hh.1
          match l, h with
          | [], _ => exact lm_one hq
          | [_], h => exact lm_two hq (Bool.and_eq_true _ _ ▸ h : _ ∧ _).2
          | [b, c], h =>
            have h : (hdB (.str s) && (pl0 b && pl0 c)) = true := h
            rw [Bool.and_eq_true, Bool.and_eq_true] at h
            exact lm_three hq h.2.1 h.2.2
          | [_, _, _], _ => exact lm_four hq
          | _ :: _ :: _ :: _ :: _, h => cases h
        | _ => cases hs
  | non => exact lm_noTup rfl
  | bl b => exact lm_noTup rfl
  | int i => exact lm_noTup rfl
  | str s => exact lm_noTup rfl
  | lst l => exact lm_noTup rfl
  | dic l => exact lm_noTup rfl
  | _ => cases h
end
end DX
namespace DX
open PySem PySem.Spec PyProof.Rows L2 GF
section
variable {cs : List Cell} {n : Nat}
/-- lengths of words -/
def lenB : Dt → Bool
  | .int i => decide (1 ≤ i) && decide (i ≤ 12)
  | _ => false
theorem betw_len {a : Dt} (h : pl0 a = true) : m_is_between [.dat a, .dat (.int 1), .dat (.int 12)] cs = .ok (.dat (.bl (lenB a))) cs := by
  cases a with
  | int i =>
    have q : m_is_number [.dat (.int i)] cs = .ok (.dat (.bl true)) cs := rfl
    refine fn_ev ?_
    by_cases h0 : (1 : Int) ≤ i
    · k_state0 [b_is_between, start_cons, start_nil, repl_S, repl_0, q, h0]
      simp [lenB, h0]
    · k_state0 [b_is_between, start_cons, start_nil, repl_S, repl_0, q, h0]
      simp [lenB, h0]
  | op v => cases h
  | scr v => cases h
  | exn v => cases h
  | dit v => cases h
  | lam _ _ => cases h
  | _ => rfl
/-- a value that is no length -/
theorem need_length_bad {a : Dt} (h : pl0 a = true) (hb : lenB a = false) : m_need_length [.dat a] cs = .exc "BadLength" cs := by
  have q := betw_len (cs := cs) h
  rw [hb] at q
  refine fn_ev ?_
  k_state0 [b_need_length, start_cons, start_nil, repl_S, repl_0, q]
theorem need_length_ok (h1 : 1 ≤ n) (h2 : n ≤ 12) : m_need_length [.dat (.int (n : Nat))] cs = .ok (.dat .non) cs := by
  have q := betw_len (a := .int (n : Nat)) (cs := cs) rfl
  rw [show lenB (.int (n : Nat)) = true by unfold lenB; simp; omega] at q
  refine fn_ev ?_
  k_state0 [b_need_length, start_cons, start_nil, repl_S, repl_0, q]
theorem r_is_move {x : Dt} (h1 : 1 ≤ n) (h2 : n ≤ 12) (h : thB x = true) : m_is_move [.dat (.int (n : Nat)), .dat x] cs = .ok (.dat (.bl (isM n x))) cs := by
  have q1 := need_length_ok (cs := cs) h1 h2
  have q2 := move_any (n := n) (cs := cs) h
  refine fn_ev ?_
  k_state0 [b_is_move, start_cons, start_nil, repl_S, repl_0, q1, q2]
end
end DX
namespace DX
open PySem PySem.Spec PyProof.Rows L2 GF
section
variable {cs : List Cell} {n : Nat}
def unM (c : Nat) : Nat := if c = 49 then 0 else if c = 97 then 1 else if c = 98 then 2 else 3
theorem chr_unM {c : Nat} (h : inLet c = true) : chr4 (unM c) = c ∧ unM c < 4 := by
  have h : c ∈ ("1abc" : Str).cps.toList := of_decide_eq_true h
  have h : c ∈ [49, 97, 98, 99] := h
  simp only [List.mem_cons, List.not_mem_nil, or_false] at h
  rcases h with rfl | rfl | rfl | rfl <;> exact ⟨rfl, by decide⟩
theorem letN_is {a : Dt} (h : letN n a = true) : ∃ l, a = .str (strOf l) ∧ l.length = n ∧ Fig l := by
  cases a with
  | str z =>
    have h : (decide (z.length = n) && z.cps.toList.all inLet) = true := h
    rw [Bool.and_eq_true, decide_eq_true_eq] at h
    obtain ⟨h1, h5⟩ := h
    have hz : strOf (z.cps.toList.map unM) = z := by
      have e : (z.cps.toList.map unM).map chr4 = z.cps.toList := by
        rw [List.map_map]
        have : ∀ x ∈ z.cps.toList, (chr4 ∘ unM) x = x := fun x hx => (chr_unM (List.all_eq_true.mp h5 x hx)).1
        rw [List.map_congr_left this, List.map_id']
      unfold strOf
      rw [e]
    refine ⟨z.cps.toList.map unM, by rw [hz], by rw [List.length_map, str_len, h1], fun x hx => ?_⟩
    obtain ⟨c, hc, rfl⟩ := List.mem_map.mp hx
    exact (chr_unM (List.all_eq_true.mp h5 c hc)).2
  | _ => cases h
theorem inR_is {a : Dt} (h : inR n a = true) : ∃ i : Nat, a = .int (i : Nat) ∧ i < n := by
  obtain ⟨i, rfl⟩ := inR_int h
  have h : (decide (0 ≤ i) && decide (i ≤ (n : Int) - 1)) = true := h
  rw [Bool.and_eq_true, decide_eq_true_eq, decide_eq_true_eq] at h
  exact ⟨i.toNat, by rw [Int.toNat_of_nonneg h.1], by omega⟩
theorem hdIs_is {h : Dt} {z : Str} (e : hdIs h z = true) : h = .str z := by
  cases h with
  | str s => rw [show s = z from of_decide_eq_true e]
  | _ => cases e
/-- what is judged to be a move is one -/
theorem isM_mv {x : Dt} (h : isM n x = true) : ∃ m, MvOk n m ∧ x = mvD m := by
  cases x with
  | tup l =>
    match l, h with
    | [], h => cases h
    | [_], h => cases h
    | [a, b], h =>
      have h : ((hdIs a "swap" && inR n b) || (hdIs a "turn" && letN n b)) = true := h
      rw [Bool.or_eq_true, Bool.and_eq_true, Bool.and_eq_true] at h
      rcases h with ⟨h1, h2⟩ | ⟨h1, h2⟩
      · obtain ⟨i, rfl, hi⟩ := inR_is h2
        rw [hdIs_is h1]
        exact ⟨.swap i, hi, rfl⟩
      · obtain ⟨l, rfl, hl⟩ := letN_is h2
        rw [hdIs_is h1]
        exact ⟨.turn l, hl, rfl⟩
    | [a, b, c], h =>
      have h : (!hdIs a "turn" && im3 n a b c) = true := h
      unfold im3 at h
      simp only [Bool.and_eq_true] at h
      obtain ⟨_, h2, h3, _, h4⟩ := h
      obtain ⟨i, rfl, hi⟩ := inR_is h2
      obtain ⟨j, rfl, hj⟩ := inR_is h3
      cases ht : hdIs a "trade" with
      | true =>
        rw [ht, if_pos rfl] at h4
        have h4 : (i : Int) < (j : Int) := of_decide_eq_true h4
        rw [hdIs_is ht]
        exact ⟨.trade i j, ⟨by omega, hj⟩, rfl⟩
      | false =>
        rw [ht, if_neg Bool.false_ne_true, Bool.and_eq_true] at h4
        have h5 : ¬ (i : Int) = (j : Int) := by
          have := h4.2
          rw [Bool.not_eq_true', decide_eq_false_iff_not] at this
          exact this
        rw [hdIs_is h4.1]
        exact ⟨.lean i j, ⟨by omega, hi, hj⟩, rfl⟩
    | _ :: _ :: _ :: _ :: _, h => cases h
  | _ => cases h
end
end DX
namespace DX
open PySem PySem.Spec PyProof.Rows L2 GF
section
variable {cs : List Cell} {n : Nat}
theorem head_len {as : List Wd} {x : Dt} (hx : seqB x (as.map wD)) (ha : ∀ a ∈ as, WOk' n a) (a1 : 1 ≤ as.length) : ∃ a : Wd, dIx x (.int 0) = some (wD a) ∧ WOk' n a := by
  cases as with
  | nil => simp at a1
  | cons a as => exact ⟨a, by rcases hx with rfl | rfl <;> exact at_0, ha a List.mem_cons_self⟩
theorem r_moved_v2 {as : List Wd} {x t : Dt} (hx : seqB x (as.map wD)) (ha : ∀ a ∈ as, WOk' n a) (h1 : 1 ≤ n) (hn : n ≤ 12) (a1 : 1 ≤ as.length) (hl : as.length ≤ 15) (ht : thB t = true) : ∃ d, m_moved_v2 [.dat x, .dat t] cs = if isM n t = true then .ok (.dat d) cs else .exc "BadMove" cs := by
  have q1 := r_need_words (cs := cs) hx h1 hn a1 hl ha
  obtain ⟨a0, i0, h0⟩ := head_len hx ha a1
  have w1 : ∀ a, dIx (wD a) (.int 1) = some (.str (strOf a.l)) := fun _ => rfl
  have sl : ((strOf a0.l).length : Int) = (n : Int) := by rw [strOf_len, h0.len]
  have sz : (strOf a0.l).length ≤ 16777216 := by rw [strOf_len, h0.len]; omega
  have q2 := move_any (n := n) (cs := cs) ht
  cases hm : isM n t with
  | false =>
    rw [hm] at q2
    refine ⟨.non, ?_⟩
    rw [if_neg Bool.false_ne_true]
    refine fn_ev ?_
    k_state0 [b_moved_v2, start_cons, start_nil, repl_S, repl_0, q1, i0, w1, sl, q2]
  | true =>
    rw [hm] at q2
    obtain ⟨m, mo, rfl⟩ := isM_mv hm
    have q3 := r_led_of (x := x) (y := .lst [mvD m]) (ms := [m]) (cs := cs) hx (.inl rfl) (fun k hk => by rw [List.mem_singleton] at hk; subst hk; exact mo) ha hn (by omega)
    refine ⟨.lst ((as.map (mvs [m])).map wD), ?_⟩
    rw [if_pos rfl]
    refine fn_ev ?_
    k_state0 [b_moved_v2, start_cons, start_nil, repl_S, repl_0, q1, i0, w1, sl, q2, q3]
end
end DX
namespace DX
open PySem PySem.Spec PyProof.Rows L2 GF
section
variable {cs : List Cell} {n : Nat}
/-- the first that is no move, told from k on -/
def badAt (n : Nat) : Nat → List Dt → Option Nat
  | _, [] => none
  | k, t :: l => if isM n t then badAt n (k + 1) l else some k
theorem nm_loop {y : Dt} : ∀ (l : List Dt) (k : Nat) (a2 a3 : Option Wv), (∀ t ∈ l, thB t = true) → ∃ b2 b3, loopS (tTupG 2 (tgCons (tName 2) (tgCons (tName 3) (tgNil)))) lb_need_moves_v2_0 ((l.zipIdx k).map fun q => .dat (.tup [.int (q.2 : Nat), q.1])) [some (.dat (.int (n : Nat))), some (.dat y), a2, a3] cs = match badAt n k l with
    | none => .ok (.nx [some (.dat (.int (n : Nat))), some (.dat y), b2, b3]) cs
    | some i => .exc ⟨"BadMoves", [("at", .int (i : Nat))]⟩ cs
  | [], k, a2, a3, _ => ⟨a2, a3, rfl⟩
  | t :: l, k, a2, a3, h => by
    have q := move_any (n := n) (cs := cs) (h t List.mem_cons_self)
    obtain ⟨b2, b3, ih⟩ := nm_loop l (k + 1) (some (.dat (.int (k : Nat)))) (some (.dat t)) (fun u hu => h u (List.mem_cons_of_mem _ hu))
    refine ⟨b2, b3, ?_⟩
    rw [List.zipIdx_cons, List.map_cons]
    unfold loopS
    rw [show (tTupG 2 (tgCons (tName 2) (tgCons (tName 3) (tgNil)))) (Wv.dat (.tup [.int (k : Nat), t])) [some (.dat (.int (n : Nat))), some (.dat y), a2, a3] = some [some (.dat (.int (n : Nat))), some (.dat y), some (.dat (.int (k : Nat))), some (.dat t)] from rfl, mb, m_opt, rb_ok, mb]
    unfold badAt
    cases hm : isM n t with
    | true =>
      rw [hm] at q
      have st : lb_need_moves_v2_0 [some (.dat (.int (n : Nat))), some (.dat y), some (.dat (.int (k : Nat))), some (.dat t)] cs = .ok (.nx [some (.dat (.int (n : Nat))), some (.dat y), some (.dat (.int (k : Nat))), some (.dat t)]) cs := by
        k_state0 [lb_need_moves_v2_0, q]
      rw [st, rb_ok, if_pos rfl]
      exact ih
    | false =>
      rw [hm] at q
      have st : lb_need_moves_v2_0 [some (.dat (.int (n : Nat))), some (.dat y), some (.dat (.int (k : Nat))), some (.dat t)] cs = .exc ⟨"BadMoves", [("at", .int (k : Nat))]⟩ cs := by
        k_state0 [lb_need_moves_v2_0, q]
      rw [st, if_neg Bool.false_ne_true]
      rfl
/-- a list of things: moves all, or the first that is none is told -/
theorem need_moves_any {y : Dt} {l : List Dt} (hy : seqB y l) (h : ∀ t ∈ l, thB t = true) : m_need_moves_v2 [.dat (.int (n : Nat)), .dat y] cs = match badAt n 0 l with
    | none => .ok (.dat .non) cs
    | some i => .exc ⟨"BadMoves", [("at", .int (i : Nat))]⟩ cs := by
  have q0 := r_is_row hy cs
  have en := enum_map (fun t : Dt => t) l
  rw [List.map_id'] at en
  have eT : asEnumT [.dat y] cs = .ok (enumW l) cs := by rcases hy with rfl | rfl <;> rfl
  obtain ⟨b2, b3, q⟩ := nm_loop (n := n) (cs := cs) (y := y) l 0 none none h
  refine fn_ev ?_
  cases hb : badAt n 0 l with
  | none =>
    rw [hb] at q
    k_state0 [b_need_moves_v2, start_cons, start_nil, repl_S, repl_0, q0, eT, en, q]
  | some i =>
    rw [hb] at q
    k_state0 [b_need_moves_v2, start_cons, start_nil, repl_S, repl_0, q0, eT, en, q]
    rfl
end
end DX
namespace DX
open PySem PySem.Spec PyProof.Rows L2 GF
section
variable {cs : List Cell} {n : Nat}
/-- the values that are no rows -/
def noRow : Dt → Bool
  | .non => true
  | .bl _ => true
  | .int _ => true
  | .str _ => true
  | .dic _ => true
  | _ => false
theorem need_moves_none {y : Dt} (h : noRow y = true) {v : Dt} : m_need_moves_v2 [.dat v, .dat y] cs = .exc ⟨"BadMoves", [("at", .non)]⟩ cs := by
  have q0 : m_is_row [.dat y] cs = .ok (.dat (.bl false)) cs := by
    cases y with
    | non => rfl
    | bl b => rfl
    | int i => rfl
    | str s => rfl
    | dic l => rfl
    | _ => cases h
  refine fn_ev ?_
  k_state0 [b_need_moves_v2, start_cons, start_nil, repl_S, repl_0, q0]
  rfl
theorem badAt_none : ∀ (l : List Dt) (k : Nat), badAt n k l = none → ∃ ms : List Mv, l = ms.map mvD ∧ ∀ m ∈ ms, MvOk n m
  | [], _, _ => ⟨[], rfl, by simp⟩
  | t :: l, k, h => by
    unfold badAt at h
    cases hm : isM n t with
    | false => rw [hm, if_neg Bool.false_ne_true] at h; cases h
    | true =>
      rw [hm, if_pos rfl] at h
      obtain ⟨ms, e, h2⟩ := badAt_none l (k + 1) h
      obtain ⟨m, mo, rfl⟩ := isM_mv hm
      refine ⟨m :: ms, by rw [e]; rfl, fun x hx => ?_⟩
      rcases List.mem_cons.mp hx with rfl | hx
      · exact mo
      · exact h2 x hx
theorem r_led_v3 {as : List Wd} {x y : Dt} {l : List Dt} (hx : seqB x (as.map wD)) (hy : seqB y l) (h : ∀ t ∈ l, thB t = true) (ha : ∀ a ∈ as, WOk' n a) (h1 : 1 ≤ n) (hn : n ≤ 12) (a1 : 1 ≤ as.length) (hl : as.length ≤ 15) : ∃ d, m_led_v3 [.dat x, .dat y] cs = match badAt n 0 l with
    | none => .ok (.dat d) cs
    | some i => .exc ⟨"BadMoves", [("at", .int (i : Nat))]⟩ cs := by
  have q1 := r_need_words (cs := cs) hx h1 hn a1 hl ha
  obtain ⟨a0, i0, h0⟩ := head_len hx ha a1
  have w1 : ∀ a, dIx (wD a) (.int 1) = some (.str (strOf a.l)) := fun _ => rfl
  have sl : ((strOf a0.l).length : Int) = (n : Int) := by rw [strOf_len, h0.len]
  have sz : (strOf a0.l).length ≤ 16777216 := by rw [strOf_len, h0.len]; omega
  have q2 := need_moves_any (n := n) (cs := cs) hy h
  cases hb : badAt n 0 l with
  | some i =>
    rw [hb] at q2
    refine ⟨.non, ?_⟩
    refine fn_ev ?_
    k_state0 [b_led_v3, start_cons, start_nil, repl_S, repl_0, q1, i0, w1, sl, q2]
    rfl
  | none =>
    rw [hb] at q2
    obtain ⟨ms, rfl, mo⟩ := badAt_none l 0 hb
    have q3 := r_led_of (cs := cs) hx hy mo ha hn (by omega)
    refine ⟨.lst ((as.map (mvs ms)).map wD), ?_⟩
    refine fn_ev ?_
    k_state0 [b_led_v3, start_cons, start_nil, repl_S, repl_0, q1, i0, w1, sl, q2, q3]
end
end DX
namespace DX
open PySem PySem.Spec PyProof.Rows L2 GF
section
variable {cs : List Cell} {n : Nat}
/-- the plain words of a length -/
def plW (n : Nat) : List Wd := (List.range n).flatMap fun i => [⟨1, List.replicate i 0 ++ 1 :: List.replicate (n - i - 1) 0⟩, ⟨1, List.replicate i 0 ++ 2 :: List.replicate (n - i - 1) 0⟩]
theorem pl_is (h1 : 1 ≤ n) (h2 : n ≤ 12) : m_plain_of [.dat (.int (n : Nat))] cs = .ok (.dat (.lst ((plW n).map wD))) cs := by
  match n, h1, h2 with
  | 1, _, _ => rfl
  | 2, _, _ => rfl
  | 3, _, _ => rfl
  | 4, _, _ => rfl
  | 5, _, _ => rfl
  | 6, _, _ => rfl
  | 7, _, _ => rfl
  | 8, _, _ => rfl
  | 9, _, _ => rfl
  | 10, _, _ => rfl
  | 11, _, _ => rfl
  | 12, _, _ => rfl
theorem pl_len : (plW n).length = 2 * n := by
  unfold plW
  rw [List.length_flatMap]
  have e : ∀ l : List Nat, (l.map fun _ => 2).sum = 2 * l.length := fun l => by
    induction l with
    | nil => rfl
    | cons a l ih => rw [List.map_cons, List.sum_cons, ih, List.length_cons]; omega
  have e2 := e (List.range n)
  rw [List.length_range] at e2
  exact e2
theorem fig_pl {i k x : Nat} (hx : x < 4) : Fig (List.replicate i 0 ++ x :: List.replicate k 0) := fun y hy => by
  rcases List.mem_append.mp hy with h | h
  · rw [(List.mem_replicate.mp h).2]
    decide
  · rcases List.mem_cons.mp h with rfl | h
    · exact hx
    · rw [(List.mem_replicate.mp h).2]
      decide
theorem pl_ok {a : Wd} (h : a ∈ plW n) : WOk' n a := by
  unfold plW at h
  obtain ⟨i, hi, h⟩ := List.mem_flatMap.mp h
  rw [List.mem_range] at hi
  have hl : ∀ x : Nat, (List.replicate i 0 ++ x :: List.replicate (n - i - 1) 0).length = n := fun x => by
    simp
    omega
  rcases List.mem_cons.mp h with rfl | h
  · exact ⟨.inl rfl, hl 1, fig_pl (by decide)⟩
  · rw [List.mem_singleton] at h
    subst h
    exact ⟨.inl rfl, hl 2, fig_pl (by decide)⟩
theorem r_frame_of {y : Dt} {l : List Dt} (hy : seqB y l) (h : ∀ t ∈ l, thB t = true) (h1 : 1 ≤ n) (hn : n ≤ 12) : ∃ d, m_frame_of [.dat (.int (n : Nat)), .dat y] cs = match badAt n 0 l with
    | none => .ok (.dat d) cs
    | some i => .exc ⟨"BadMoves", [("at", .int (i : Nat))]⟩ cs := by
  have q1 := need_length_ok (n := n) (cs := cs) h1 hn
  have q2 := need_moves_any (n := n) (cs := cs) hy h
  have q4 := pl_is (n := n) (cs := cs) h1 hn
  cases hb : badAt n 0 l with
  | some i =>
    rw [hb] at q2
    refine ⟨.non, ?_⟩
    refine fn_ev ?_
    k_state0 [b_frame_of, start_cons, start_nil, repl_S, repl_0, q1, q2]
    rfl
  | none =>
    rw [hb] at q2
    obtain ⟨ms, rfl, mo⟩ := badAt_none l 0 hb
    have q3 := r_led_of (as := plW n) (x := .lst ((plW n).map wD)) (cs := cs) (.inl rfl) hy mo (fun a ha => pl_ok ha) hn (by rw [pl_len]; omega)
    refine ⟨.lst (((plW n).map (mvs ms)).map wD), ?_⟩
    refine fn_ev ?_
    k_state0 [b_frame_of, start_cons, start_nil, repl_S, repl_0, q1, q2, q4, q3]
theorem frame_none {y : Dt} (h : noRow y = true) (h1 : 1 ≤ n) (hn : n ≤ 12) : m_frame_of [.dat (.int (n : Nat)), .dat y] cs = .exc ⟨"BadMoves", [("at", .non)]⟩ cs := by
  have q1 := need_length_ok (n := n) (cs := cs) h1 hn
  have q2 := need_moves_none (cs := cs) (v := .int (n : Nat)) h
  refine fn_ev ?_
  k_state0 [b_frame_of, start_cons, start_nil, repl_S, repl_0, q1, q2]
  rfl
theorem frame_wide {a y : Dt} (h : pl0 a = true) (hb : lenB a = false) : m_frame_of [.dat a, .dat y] cs = .exc "BadLength" cs := by
  have q1 := need_length_bad (cs := cs) h hb
  refine fn_ev ?_
  k_state0 [b_frame_of, start_cons, start_nil, repl_S, repl_0, q1]
end
end DX
namespace DX
open PySem PySem.Spec PyProof.Rows L2 GF
section
variable {cs : List Cell} {n : Nat}
theorem hd_sw : hdB (.str "swap") = true := by decide +kernel
theorem hd_tr : hdB (.str "trade") = true := by decide +kernel
theorem hd_le : hdB (.str "lean") = true := by decide +kernel
theorem hd_tn : hdB (.str "turn") = true := by decide +kernel
theorem pl0_int (i : Int) : pl0 (.int i) = true := rfl
theorem pl0_strOf {l : List Nat} (h : l.length ≤ 100) : pl0 (.str (strOf l)) = true := by
  show decide ((strOf l).length ≤ 16777216) = true
  rw [decide_eq_true_eq, strOf_len]
  omega
/-- a move is a thing asked about, of its length or another -/
theorem thB_mv {m : Mv} (h : MvOk n m) (hn : n ≤ 12) : thB (mvD m) = true := by
  cases m with
  | swap i => exact Bool.and_eq_true_iff.mpr ⟨hd_sw, rfl⟩
  | trade i j => exact Bool.and_eq_true_iff.mpr ⟨hd_tr, rfl⟩
  | lean i j => exact Bool.and_eq_true_iff.mpr ⟨hd_le, rfl⟩
  | turn l => exact Bool.and_eq_true_iff.mpr ⟨hd_tn, pl0_strOf (by have := h.1; omega)⟩
/-- the parts of a move -/
def mvP : Mv → List Dt
  | .swap i => [.str "swap", .int (i : Nat)]
  | .trade i j => [.str "trade", .int (i : Nat), .int (j : Nat)]
  | .lean i j => [.str "lean", .int (i : Nat), .int (j : Nat)]
  | .turn l => [.str "turn", .str (strOf l)]
theorem mvD_P (m : Mv) : mvD m = .tup (mvP m) := by cases m <;> rfl
theorem thB_two {h a : Dt} (hh : hdB h = true) (ha : pl0 a = true) : thB (.tup [h, a]) = true := Bool.and_eq_true_iff.mpr ⟨hh, ha⟩
theorem thB_three {h a b : Dt} (hh : hdB h = true) (ha : pl0 a = true) (hb : pl0 b = true) : thB (.tup [h, a, b]) = true := Bool.and_eq_true_iff.mpr ⟨hh, Bool.and_eq_true_iff.mpr ⟨ha, hb⟩⟩
/-- fashions 0 to 2 -/
theorem thB_list (l : List Dt) : thB (.lst l) = true := rfl
theorem thB_more {m : Mv} (h : MvOk n m) (hn : n ≤ 12) : thB (.tup (mvP m ++ [.int 0])) = true := by
  cases m with
  | swap i => exact thB_three hd_sw rfl rfl
  | trade i j => exact hd_tr
  | lean i j => exact hd_le
  | turn l => exact thB_three hd_tn (pl0_strOf (by have := h.1; omega)) rfl
theorem thB_head (m : Mv) : thB (.tup ((mvP m).take 1)) = true := by
  cases m with
  | swap i => exact hd_sw
  | trade i j => exact hd_tr
  | lean i j => exact hd_le
  | turn l => exact hd_tn
/-- fashions 3 and 4: a part put -/
theorem thB_put {m : Mv} (h : MvOk n m) (hn : n ≤ 12) {x : Dt} (hx : hdB x = true) (px : pl0 x = true) {i : Nat} : thB (.tup ((mvP m).set i x)) = true := by
  cases m with
  | swap a =>
    match i with
    | 0 => exact thB_two hx rfl
    | 1 => exact thB_two hd_sw px
    | _ + 2 => exact thB_two hd_sw rfl
  | trade a b =>
    match i with
    | 0 => exact thB_three hx rfl rfl
    | 1 => exact thB_three hd_tr px rfl
    | 2 => exact thB_three hd_tr rfl px
    | _ + 3 => exact thB_three hd_tr rfl rfl
  | lean a b =>
    match i with
    | 0 => exact thB_three hx rfl rfl
    | 1 => exact thB_three hd_le px rfl
    | 2 => exact thB_three hd_le rfl px
    | _ + 3 => exact thB_three hd_le rfl rfl
  | turn l =>
    have hp : pl0 (.str (strOf l)) = true := pl0_strOf (by have := h.1; omega)
    match i with
    | 0 => exact thB_two hx hp
    | 1 => exact thB_two hd_tn px
    | _ + 2 => exact thB_two hd_tn hp
/-- the bad numbers, by n -/
def badN (n : Nat) : List Dt := [.non, .str "0", .tup [.int 0], .lst [.int 0], .int (-1), .int (n : Nat), .int ((n : Int) + 7), .bl true, .bl false, .dic []]
theorem badN_ok {x : Dt} (h : x ∈ badN n) : hdB x = true ∧ pl0 x = true := by
  simp only [badN, List.mem_cons, List.not_mem_nil, or_false] at h
  rcases h with rfl | rfl | rfl | rfl | rfl | rfl | rfl | rfl | rfl | rfl <;> refine ⟨?_, ?_⟩ <;> first | rfl | decide +kernel | skip
end
end DX
namespace DX
open PySem PySem.Spec PyProof.Rows L2 GF
section
variable {cs xt : List Cell} {n t : Nat}
theorem r_badN (hs : St cs xt t) (ht : t < 1000000) : ∃ x cs', m__law_bad_number [.cel 1, .dat (.int (n : Nat))] cs = .ok (.dat x) cs' ∧ x ∈ badN n ∧ St cs' xt (t + 1) := by
  obtain ⟨x, cs', q, hm, s1⟩ := r_pick (l := badN n) hs ht (by simp [badN]) (by simp [badN])
  refine ⟨x, cs', fn_ev ?_, hm, s1⟩
  unfold badN at q
  k_state0 [b__law_bad_number, start_cons, start_nil, repl_S, repl_0, q]
theorem r_lput11 {l : List Dt} {i : Nat} {x : Dt}  (hi : i < l.length) (hl : l.length ≤ 1000) : m__law_put [.dat (.tup l), .dat (.int (i : Nat)), .dat x] cs = .ok (.dat (.tup (l.take i ++ [x] ++ l.drop (i + 1)))) cs := by
  have c1 : ∀ c, wSl (.dat (.tup l)) none (some (i : Int)) c = some (.tup (l.take i)) := fun c => by
    have h := cutL_to (l := l) (d := (i : Int)) (by omega) (by omega)
    rw [Int.toNat_natCast] at h
    exact congrArg (fun z => some (Dt.tup z)) h
  have c2 : ∀ c, wSl (.dat (.tup l)) (some ((i : Int) + 1)) none c = some (.tup (l.drop (i + 1))) := fun c => by
    have h := cutL_from (l := l) (d := (i : Int) + 1) (by omega) (by omega)
    rw [show ((i : Int) + 1).toNat = i + 1 by omega] at h
    exact congrArg (fun z => some (Dt.tup z)) h
  have l1 : (l.take i).length + [x].length ≤ 16777216 := by simp; omega
  have l2 : (l.take i ++ [x]).length + (l.drop (i + 1)).length ≤ 16777216 := by simp; omega
  have a1 : dAdd (.tup (l.take i)) (.tup [x]) = some (.tup (l.take i ++ [x])) := d_addT l1
  have a2 : dAdd (.tup (l.take i ++ [x])) (.tup (l.drop (i + 1))) = some (.tup (l.take i ++ [x] ++ l.drop (i + 1))) := d_addT l2
  refine fn_ev ?_
  k_state0 [b__law_put, start_cons, start_nil, repl_S, repl_0, c1, c2, a1, a2]
/-- a part of a move put -/
theorem r_putP {l : List Dt} {i : Nat} {x : Dt} (hl : l.length ≤ 12) (hi : i < l.length) : m__law_put [.dat (.tup l), .dat (.int (i : Nat)), .dat x] cs = .ok (.dat (.tup (l.set i x))) cs := by
  rw [r_lput11 hi (by omega), List.append_assoc]
  congr 3
  rw [List.set_eq_take_append_cons_drop, if_pos hi]
  rfl
end
end DX
namespace DX
open PySem PySem.Spec PyProof.Rows L2 GF
section
variable {cs xt : List Cell} {n t : Nat}
/-- fashions 0 to 2 and 11 to 14 -/
theorem odd_a {m : Mv} {d e f : Int} {cs1 cs2 cs3 cs4 : List Cell} (q1 : m__law_a_move [.cel 1, .dat (.int (n : Nat))] cs = .ok (.dat (mvD m)) cs1) (hm : MvOk n m) (hn : n ≤ 12)
    (q2 : m__law_draw [.cel 1, .dat (.int 15)] cs1 = .ok (.dat (.int d)) cs2) (q3 : m__law_draw [.cel 1, .dat (.int (n : Nat))] cs2 = .ok (.dat (.int e)) cs3) (q4 : m__law_draw [.cel 1, .dat (.int 4)] cs3 = .ok (.dat (.int f)) cs4) (hd : 0 ≤ d) (h3 : d < 3 ∨ 11 ≤ d) : ∃ x, m__law_odd_move [.cel 1, .dat (.int (n : Nat))] cs = .ok (.dat x) cs4 ∧ thB x = true := by
  by_cases c : d < 3
  · have l0 : ∀ cs, oListOf [.dat (mvD m)] cs = some (.lst (mvP m)) := fun cs => by cases m <;> rfl
    have a0 : dAdd (mvD m) (.tup [.int 0]) = some (.tup (mvP m ++ [.int 0])) := by
      rw [mvD_P]
      exact d_addT (by cases m <;> simp [mvP])
    have s0 : ∀ cs, wSl (.dat (mvD m)) none (some 1) cs = some (.tup ((mvP m).take 1)) := fun cs => by cases m <;> rfl
    rcases (by omega : d = 0 ∨ d = 1 ∨ d = 2) with rfl | rfl | rfl
    · refine ⟨.lst (mvP m), fn_ev ?_, thB_list _⟩
      k_state0 [b__law_odd_move, start_cons, start_nil, repl_S, repl_0, q1, q2, q3, q4, l0, a0, s0]
    · refine ⟨.tup (mvP m ++ [.int 0]), fn_ev ?_, thB_more hm hn⟩
      k_state0 [b__law_odd_move, start_cons, start_nil, repl_S, repl_0, q1, q2, q3, q4, l0, a0, s0]
    · refine ⟨.tup ((mvP m).take 1), fn_ev ?_, thB_head m⟩
      k_state0 [b__law_odd_move, start_cons, start_nil, repl_S, repl_0, q1, q2, q3, q4, l0, a0, s0]
  · have hh : 11 ≤ d := by omega
    have z : ∀ k : Int, k ≤ 10 → ¬ d = k := fun k hk => by omega
    refine ⟨mvD m, fn_ev ?_, thB_mv hm hn⟩
    k_state0 [b__law_odd_move, start_cons, start_nil, repl_S, repl_0, q1, q2, q3, q4, c, z 3 (by omega), z 4 (by omega), z 5 (by omega), z 6 (by omega), z 7 (by omega), z 8 (by omega), z 9 (by omega), z 10 (by omega)]
/-- fashion 3 -/
theorem odd_3 {m : Mv} {d e f : Int} {cs1 cs2 cs3 cs4 : List Cell} (q1 : m__law_a_move [.cel 1, .dat (.int (n : Nat))] cs = .ok (.dat (mvD m)) cs1) (hm : MvOk n m) (hn : n ≤ 12)
    (q2 : m__law_draw [.cel 1, .dat (.int 15)] cs1 = .ok (.dat (.int d)) cs2) (q3 : m__law_draw [.cel 1, .dat (.int (n : Nat))] cs2 = .ok (.dat (.int e)) cs3) (q4 : m__law_draw [.cel 1, .dat (.int 4)] cs3 = .ok (.dat (.int f)) cs4) (s4 : St cs4 xt t) (ht : t + 100 < 1000000) (hd : d = 3) : ∃ x cs', m__law_odd_move [.cel 1, .dat (.int (n : Nat))] cs = .ok (.dat x) cs' ∧ thB x = true ∧ St cs' xt (t + 2) := by
  subst hd
  have ln : ∀ cs, oLen [.dat (mvD m)] cs = some (.int ((mvP m).length : Nat)) := fun cs => by cases m <;> rfl
  have l1 : 2 ≤ (mvP m).length ∧ (mvP m).length ≤ 3 := by cases m <;> simp [mvP]
  obtain ⟨i0, cs5, q5, a0, a1, s5⟩ := r_draw (n := ((mvP m).length : Nat)) s4 (by omega) (by omega) (by omega)
  obtain ⟨i, rfl⟩ : ∃ i : Nat, i0 = (i : Int) := ⟨i0.toNat, by omega⟩
  obtain ⟨x, cs6, q6, hx, s6⟩ := r_badN (n := n) s5 (by omega)
  obtain ⟨h1, h2⟩ := badN_ok hx
  have q7 := r_putP (l := mvP m) (i := i) (x := x) (cs := cs6) (by omega) (by omega)
  rw [← mvD_P] at q7
  refine ⟨.tup ((mvP m).set i x), cs6, fn_ev ?_, thB_put hm hn h1 h2, s6⟩
  k_state0 [b__law_odd_move, start_cons, start_nil, repl_S, repl_0, q1, q2, q3, q4, ln, q5, q6, q7]
/-- fashion 6 -/
theorem odd_6 {m : Mv} {d e f : Int} {cs1 cs2 cs3 cs4 : List Cell} (q1 : m__law_a_move [.cel 1, .dat (.int (n : Nat))] cs = .ok (.dat (mvD m)) cs1) (hm : MvOk n m) (hn : n ≤ 12)
    (q2 : m__law_draw [.cel 1, .dat (.int 15)] cs1 = .ok (.dat (.int d)) cs2) (q3 : m__law_draw [.cel 1, .dat (.int (n : Nat))] cs2 = .ok (.dat (.int e)) cs3) (q4 : m__law_draw [.cel 1, .dat (.int 4)] cs3 = .ok (.dat (.int f)) cs4) (s4 : St cs4 xt t) (ht : t + 100 < 1000000) (hd : d = 6) : ∃ x, m__law_odd_move [.cel 1, .dat (.int (n : Nat))] cs = .ok (.dat x) cs4 ∧ thB x = true := by
  subst hd
  cases m with
  | swap i =>
    refine ⟨mvD (.swap i), fn_ev ?_, thB_mv hm hn⟩
    rw [show mvD (.swap i) = .tup [.str "swap", .int (i : Nat)] from rfl] at q1 ⊢
    k_state0 [b__law_odd_move, start_cons, start_nil, repl_S, repl_0, q1, q2, q3, q4, nat_c2]
  | turn l =>
    refine ⟨mvD (.turn l), fn_ev ?_, thB_mv hm hn⟩
    rw [show mvD (.turn l) = .tup [.str "turn", .str (strOf l)] from rfl] at q1 ⊢
    k_state0 [b__law_odd_move, start_cons, start_nil, repl_S, repl_0, q1, q2, q3, q4, nat_c2]
  | trade i j =>
    refine ⟨.tup [.str "trade", .int (j : Nat), .int (i : Nat)], fn_ev ?_, thB_three hd_tr rfl rfl⟩
    rw [show mvD (.trade i j) = .tup [.str "trade", .int (i : Nat), .int (j : Nat)] from rfl] at q1
    k_state0 [b__law_odd_move, start_cons, start_nil, repl_S, repl_0, q1, q2, q3, q4, nat_c3]
  | lean i j =>
    refine ⟨.tup [.str "lean", .int (j : Nat), .int (i : Nat)], fn_ev ?_, thB_three hd_le rfl rfl⟩
    rw [show mvD (.lean i j) = .tup [.str "lean", .int (i : Nat), .int (j : Nat)] from rfl] at q1
    k_state0 [b__law_odd_move, start_cons, start_nil, repl_S, repl_0, q1, q2, q3, q4, nat_c3]
def heads4 : List Dt := [.str "trade", .str "lean", .str "swap", .str "turn", .str "Swap", .str "", .non, .int 0, .tup [.str "swap"]]
theorem heads4_ok : ∀ x ∈ heads4, hdB x = true ∧ pl0 x = true := by
  intro x h
  simp only [heads4, List.mem_cons, List.not_mem_nil, or_false] at h
  rcases h with rfl | rfl | rfl | rfl | rfl | rfl | rfl | rfl | rfl <;> refine ⟨?_, ?_⟩ <;> first | rfl | decide +kernel
/-- fashion 4 -/
theorem odd_4 {m : Mv} {d e f : Int} {cs1 cs2 cs3 cs4 : List Cell} (q1 : m__law_a_move [.cel 1, .dat (.int (n : Nat))] cs = .ok (.dat (mvD m)) cs1) (hm : MvOk n m) (hn : n ≤ 12)
    (q2 : m__law_draw [.cel 1, .dat (.int 15)] cs1 = .ok (.dat (.int d)) cs2) (q3 : m__law_draw [.cel 1, .dat (.int (n : Nat))] cs2 = .ok (.dat (.int e)) cs3) (q4 : m__law_draw [.cel 1, .dat (.int 4)] cs3 = .ok (.dat (.int f)) cs4) (s4 : St cs4 xt t) (ht : t + 100 < 1000000) (hd : d = 4) : ∃ x cs', m__law_odd_move [.cel 1, .dat (.int (n : Nat))] cs = .ok (.dat x) cs' ∧ thB x = true ∧ St cs' xt (t + 2) := by
  subst hd
  have l1 : 2 ≤ (mvP m).length ∧ (mvP m).length ≤ 3 := by cases m <;> simp [mvP]
  obtain ⟨x, cs6, q6, hx, s6⟩ := r_pick (l := heads4) s4 (by omega) (by decide) (by decide)
  unfold heads4 at q6
  obtain ⟨h1, h2⟩ := heads4_ok x hx
  have q7 := r_putP (l := mvP m) (i := 0) (x := x) (cs := cs6) (by omega) (by omega)
  rw [← mvD_P] at q7
  have q7 : m__law_put [.dat (mvD m), .dat (.int 0), .dat x] cs6 = _ := q7
  refine ⟨.tup ((mvP m).set 0 x), cs6, fn_ev ?_, thB_put hm hn h1 h2, s6.mono (by omega)⟩
  k_state0 [b__law_odd_move, start_cons, start_nil, repl_S, repl_0, q1, q2, q3, q4, q6, q7]
/-- fashion 5 -/
theorem odd_5 {m : Mv} {d e f : Int} {cs1 cs2 cs3 cs4 : List Cell} (q1 : m__law_a_move [.cel 1, .dat (.int (n : Nat))] cs = .ok (.dat (mvD m)) cs1) (hm : MvOk n m) (hn : n ≤ 12)
    (q2 : m__law_draw [.cel 1, .dat (.int 15)] cs1 = .ok (.dat (.int d)) cs2) (q3 : m__law_draw [.cel 1, .dat (.int (n : Nat))] cs2 = .ok (.dat (.int e)) cs3) (q4 : m__law_draw [.cel 1, .dat (.int 4)] cs3 = .ok (.dat (.int f)) cs4) (s4 : St cs4 xt t) (ht : t + 100 < 1000000) (hd : d = 5) : ∃ x cs', m__law_odd_move [.cel 1, .dat (.int (n : Nat))] cs = .ok (.dat x) cs' ∧ thB x = true ∧ St cs' xt (t + 2) := by
  subst hd
  obtain ⟨x, cs6, q6, hx, s6⟩ := r_pick (l := [Dt.str "trade", .str "lean"]) s4 (by omega) (by decide) (by decide)
  have h1 : hdB x = true := by
    simp only [List.mem_cons, List.not_mem_nil, or_false] at hx
    rcases hx with rfl | rfl
    · exact hd_tr
    · exact hd_le
  refine ⟨.tup [x, .int e, .int e], cs6, fn_ev ?_, thB_three h1 rfl rfl, s6.mono (by omega)⟩
  k_state0 [b__law_odd_move, start_cons, start_nil, repl_S, repl_0, q1, q2, q3, q4, q6]
/-- fashion 8 -/
theorem odd_8 {m : Mv} {d e f : Int} {cs1 cs2 cs3 cs4 : List Cell} (q1 : m__law_a_move [.cel 1, .dat (.int (n : Nat))] cs = .ok (.dat (mvD m)) cs1) (hm : MvOk n m) (hn : n ≤ 12)
    (q2 : m__law_draw [.cel 1, .dat (.int 15)] cs1 = .ok (.dat (.int d)) cs2) (q3 : m__law_draw [.cel 1, .dat (.int (n : Nat))] cs2 = .ok (.dat (.int e)) cs3) (q4 : m__law_draw [.cel 1, .dat (.int 4)] cs3 = .ok (.dat (.int f)) cs4) (s4 : St cs4 xt t) (ht : t + 100 < 1000000) (hd : d = 8) : ∃ x cs', m__law_odd_move [.cel 1, .dat (.int (n : Nat))] cs = .ok (.dat x) cs' ∧ thB x = true ∧ St cs' xt (t + 40) := by
  subst hd
  obtain ⟨a, cs5, q5, ha, s5⟩ := r_word (n := n) s4 (by omega) hn
  have q5' : m__law_word [.cel 1, .dat (.int (n : Nat))] cs4 = .ok (.dat (.tup [.int a.s, .str (strOf a.l)])) cs5 := q5
  refine ⟨.tup [.str "turn", .tup [.int a.s, .str (strOf a.l)]], cs5, fn_ev ?_, thB_two hd_tn rfl, s5.mono (by omega)⟩
  k_state0 [b__law_odd_move, start_cons, start_nil, repl_S, repl_0, q1, q2, q3, q4, q5']
/-- fashion 9 -/
theorem odd_9 {m : Mv} {d e f : Int} {cs1 cs2 cs3 cs4 : List Cell} (q1 : m__law_a_move [.cel 1, .dat (.int (n : Nat))] cs = .ok (.dat (mvD m)) cs1) (hm : MvOk n m) (hn : n ≤ 12)
    (q2 : m__law_draw [.cel 1, .dat (.int 15)] cs1 = .ok (.dat (.int d)) cs2) (q3 : m__law_draw [.cel 1, .dat (.int (n : Nat))] cs2 = .ok (.dat (.int e)) cs3) (q4 : m__law_draw [.cel 1, .dat (.int 4)] cs3 = .ok (.dat (.int f)) cs4) (s4 : St cs4 xt t) (ht : t + 100 < 1000000) (hd : d = 9) : ∃ x cs', m__law_odd_move [.cel 1, .dat (.int (n : Nat))] cs = .ok (.dat x) cs' ∧ thB x = true ∧ St cs' xt (t + 40) := by
  subst hd
  obtain ⟨k0, cs5, q5, a0, a1, s5⟩ := r_draw (n := 12) s4 (by omega) (by omega) (by omega)
  obtain ⟨k, rfl⟩ : ∃ k : Nat, k0 = (k : Int) := ⟨k0.toNat, by omega⟩
  obtain ⟨m2, cs6, q6, h6, s6⟩ := r_a_move (n := 1 + k) s5 (by omega) (by omega) (by omega)
  rw [show ((1 + k : Nat) : Int) = 1 + (k : Int) by omega] at q6
  refine ⟨mvD m2, cs6, fn_ev ?_, thB_mv h6 (by omega), s6.mono (by omega)⟩
  k_state0 [b__law_odd_move, start_cons, start_nil, repl_S, repl_0, q1, q2, q3, q4, q5, q6]
def things10 : List Dt := [.non, .int 5, .str "swap", .tup [.str "swap"], .tup [], .lst [], .dic [], .bl true, .tup [.int 1, .str "a"], .tup [.int 0, .int 1], .tup [.str "lean", .int 0, .int 1, .int 2]]
theorem things10_ok : ∀ x ∈ things10, thB x = true := by
  intro x h
  simp only [things10, List.mem_cons, List.not_mem_nil, or_false] at h
  rcases h with rfl | rfl | rfl | rfl | rfl | rfl | rfl | rfl | rfl | rfl | rfl <;> first | rfl | decide +kernel
/-- fashion 10 -/
theorem odd_10 {m : Mv} {d e f : Int} {cs1 cs2 cs3 cs4 : List Cell} (q1 : m__law_a_move [.cel 1, .dat (.int (n : Nat))] cs = .ok (.dat (mvD m)) cs1)
    (q2 : m__law_draw [.cel 1, .dat (.int 15)] cs1 = .ok (.dat (.int d)) cs2) (q3 : m__law_draw [.cel 1, .dat (.int (n : Nat))] cs2 = .ok (.dat (.int e)) cs3) (q4 : m__law_draw [.cel 1, .dat (.int 4)] cs3 = .ok (.dat (.int f)) cs4) (s4 : St cs4 xt t) (ht : t + 100 < 1000000) (hd : d = 10) : ∃ x cs', m__law_odd_move [.cel 1, .dat (.int (n : Nat))] cs = .ok (.dat x) cs' ∧ thB x = true ∧ St cs' xt (t + 40) := by
  subst hd
  obtain ⟨x, cs6, q6, hx, s6⟩ := r_pick (l := things10) s4 (by omega) (by decide) (by decide)
  unfold things10 at q6
  refine ⟨x, cs6, fn_ev ?_, things10_ok x hx, s6.mono (by omega)⟩
  k_state0 [b__law_odd_move, start_cons, start_nil, repl_S, repl_0, q1, q2, q3, q4, q6]
end
end DX
namespace DX
open PySem PySem.Spec PyProof.Rows L2 GF
section
variable {cs xt : List Cell} {n t : Nat}
theorem pl0_lst (l : List Dt) : pl0 (.lst l) = true := rfl
theorem pl0_any {z : Str} (h : z.length ≤ 1000) : pl0 (.str z) = true := by
  show decide (z.length ≤ 16777216) = true
  rw [decide_eq_true_eq]
  omega
theorem lettered_d {l : List Nat} {i : Nat} (hl : l.length ≤ 12) : m__law_lettered [.dat (.str (strOf l)), .dat (.int (i : Nat)), .dat (.str "d")] cs = .ok (.dat (.str (strOf (l.take i) ++ ("d" : Str) ++ strOf (l.drop (i + 1))))) cs := by
  have e1 := sl_to (l := l) (by omega) i
  have e2 := sl_from (l := l) (by omega) i
  have n1 := strOf_len (l.take i)
  have n2 := strOf_len (l.drop (i + 1))
  have n3 : ("d" : Str).length = 1 := rfl
  have n4 : (strOf (l.take i) ++ ("d" : Str)).length = (strOf (l.take i)).length + ("d" : Str).length := by
    show (Array.append _ _).size = _
    exact Array.size_append
  rw [List.length_take] at n1
  rw [List.length_drop] at n2
  have a1 : dAdd (.str (strOf (l.take i))) (.str "d") = some (.str (strOf (l.take i) ++ ("d" : Str))) := d_addS (by omega)
  have a2 : dAdd (.str (strOf (l.take i) ++ ("d" : Str))) (.str (strOf (l.drop (i + 1)))) = some (.str (strOf (l.take i) ++ ("d" : Str) ++ strOf (l.drop (i + 1)))) := d_addS (by omega)
  refine fn_ev ?_
  k_state0 [b__law_lettered, start_cons, start_nil, repl_S, repl_0, e1, e2, a1, a2]
theorem lettered_len {l : List Nat} {i : Nat} (hl : l.length ≤ 12) : (strOf (l.take i) ++ ("d" : Str) ++ strOf (l.drop (i + 1))).length ≤ 1000 := by
  have n1 := strOf_len (l.take i)
  have n2 := strOf_len (l.drop (i + 1))
  have n3 : ("d" : Str).length = 1 := rfl
  have n4 : ∀ a b : Str, (a ++ b).length = a.length + b.length := fun a b => by
    show (Array.append _ _).size = _
    exact Array.size_append
  rw [List.length_take] at n1
  rw [List.length_drop] at n2
  rw [n4, n4]
  omega
/-- fashion 7 -/
theorem odd_7 {m : Mv} {d e f : Int} {cs1 cs2 cs3 cs4 : List Cell} (q1 : m__law_a_move [.cel 1, .dat (.int (n : Nat))] cs = .ok (.dat (mvD m)) cs1) (hn : n ≤ 12)
    (q2 : m__law_draw [.cel 1, .dat (.int 15)] cs1 = .ok (.dat (.int d)) cs2) (q3 : m__law_draw [.cel 1, .dat (.int (n : Nat))] cs2 = .ok (.dat (.int e)) cs3) (q4 : m__law_draw [.cel 1, .dat (.int 4)] cs3 = .ok (.dat (.int f)) cs4) (s4 : St cs4 xt t) (ht : t + 100 < 1000000) (hd : d = 7) (e0 : 0 ≤ e) (f0 : 0 ≤ f) (f1 : f < 4) : ∃ x cs', m__law_odd_move [.cel 1, .dat (.int (n : Nat))] cs = .ok (.dat x) cs' ∧ thB x = true ∧ St cs' xt (t + 40) := by
  subst hd
  obtain ⟨i, rfl⟩ : ∃ i : Nat, e = (i : Int) := ⟨e.toNat, by omega⟩
  obtain ⟨a, cs5, q5, ha, s5⟩ := r_word (n := n) s4 (by omega) hn
  have q5' : m__law_word [.cel 1, .dat (.int (n : Nat))] cs4 = .ok (.dat (.tup [.int a.s, .str (strOf a.l)])) cs5 := q5
  have al := ha.len
  have n1 := strOf_len a.l
  have n2 : ("1" : Str).length = 1 := rfl
  have a0 : dAdd (.str (strOf a.l)) (.str "1") = some (.str (strOf (a.l ++ [0]))) := by
    have h := d_addS (a := strOf a.l) (b := "1") (by omega)
    rw [h, show ("1" : Str) = strOf [0] from rfl, strOf_app]
  have s0 : ∀ cs, wSl (.dat (.str (strOf a.l))) (some 1) none cs = some (.str (strOf (a.l.drop 1))) := fun cs => sl_from (by omega) 0 cs
  have q6 := lettered_d (cs := cs5) (l := a.l) (i := i) (by omega)
  have l0 : ∀ cs, oListOf [.dat (.str (strOf a.l))] cs = some (.lst (signD (strOf a.l))) := fun cs => by
    have h : o1 dListS [.dat (.str (strOf a.l))] cs = some (.lst (signD (strOf a.l))) := by
      unfold o1 dListS
      dsimp only
      rw [if_pos (by unfold szOk; rw [decide_eq_true_eq]; omega)]
    exact h
  have i3 : ∀ x y z w : Dt, L2.atI [x, y, z, w] 3 = some w := fun _ _ _ _ => rfl
  have p0 : pl0 (.str (strOf (a.l ++ [0]))) = true := pl0_strOf (by rw [List.length_append]; show a.l.length + 1 ≤ 100; omega)
  have p1 : pl0 (.str (strOf (a.l.drop 1))) = true := pl0_strOf (by rw [List.length_drop]; omega)
  have p2 : pl0 (.str (strOf (a.l.take i) ++ ("d" : Str) ++ strOf (a.l.drop (i + 1)))) = true := pl0_any (lettered_len (by omega))
  rcases (by omega : f = 0 ∨ f = 1 ∨ f = 2 ∨ f = 3) with rfl | rfl | rfl | rfl
  · refine ⟨.tup [.str "turn", .str (strOf (a.l ++ [0]))], cs5, fn_ev ?_, thB_two hd_tn p0, s5.mono (by omega)⟩
    k_state0 [b__law_odd_move, start_cons, start_nil, repl_S, repl_0, q1, q2, q3, q4, q5', a0, s0, q6, l0]
  · refine ⟨.tup [.str "turn", .str (strOf (a.l.drop 1))], cs5, fn_ev ?_, thB_two hd_tn p1, s5.mono (by omega)⟩
    k_state0 [b__law_odd_move, start_cons, start_nil, repl_S, repl_0, q1, q2, q3, q4, q5', a0, s0, q6, l0]
  · refine ⟨.tup [.str "turn", .str (strOf (a.l.take i) ++ ("d" : Str) ++ strOf (a.l.drop (i + 1)))], cs5, fn_ev ?_, thB_two hd_tn p2, s5.mono (by omega)⟩
    k_state0 [b__law_odd_move, start_cons, start_nil, repl_S, repl_0, q1, q2, q3, q4, q5', a0, s0, q6, l0]
  · refine ⟨.tup [.str "turn", .lst (signD (strOf a.l))], cs5, fn_ev ?_, thB_two hd_tn (pl0_lst _), s5.mono (by omega)⟩
    k_state0 [b__law_odd_move, start_cons, start_nil, repl_S, repl_0, q1, q2, q3, q4, q5', a0, s0, q6, l0, i3]
/-- what _law_odd_move draws is a thing asked about -/
theorem r_odd (hs : St cs xt t) (ht : t + 200 < 1000000) (h1 : 1 ≤ n) (hn : n ≤ 12) : ∃ x cs', m__law_odd_move [.cel 1, .dat (.int (n : Nat))] cs = .ok (.dat x) cs' ∧ thB x = true ∧ St cs' xt (t + 100) := by
  obtain ⟨m, cs1, q1, hm, s1⟩ := r_a_move (n := n) hs (by omega) h1 hn
  obtain ⟨d, cs2, q2, d0, d1, s2⟩ := r_draw (n := 15) s1 (by omega) (by omega) (by omega)
  obtain ⟨e, cs3, q3, e0, e1, s3⟩ := r_draw (n := (n : Nat)) s2 (by omega) (by omega) (by omega)
  obtain ⟨f, cs4, q4, f0, f1, s4⟩ := r_draw (n := 4) s3 (by omega) (by omega) (by omega)
  by_cases c : d < 3 ∨ 11 ≤ d
  · obtain ⟨x, q, hx⟩ := odd_a q1 hm hn q2 q3 q4 d0 c
    exact ⟨x, cs4, q, hx, s4.mono (by omega)⟩
  rcases (by omega : d = 3 ∨ d = 4 ∨ d = 5 ∨ d = 6 ∨ d = 7 ∨ d = 8 ∨ d = 9 ∨ d = 10) with h | h | h | h | h | h | h | h
  · obtain ⟨x, c', q, hx, s'⟩ := odd_3 q1 hm hn q2 q3 q4 s4 (by omega) h
    exact ⟨x, c', q, hx, s'.mono (by omega)⟩
  · obtain ⟨x, c', q, hx, s'⟩ := odd_4 q1 hm hn q2 q3 q4 s4 (by omega) h
    exact ⟨x, c', q, hx, s'.mono (by omega)⟩
  · obtain ⟨x, c', q, hx, s'⟩ := odd_5 q1 hm hn q2 q3 q4 s4 (by omega) h
    exact ⟨x, c', q, hx, s'.mono (by omega)⟩
  · obtain ⟨x, q, hx⟩ := odd_6 q1 hm hn q2 q3 q4 s4 (by omega) h
    exact ⟨x, cs4, q, hx, s4.mono (by omega)⟩
  · obtain ⟨x, c', q, hx, s'⟩ := odd_7 q1 hn q2 q3 q4 s4 (by omega) h e0 f0 f1
    exact ⟨x, c', q, hx, s'.mono (by omega)⟩
  · obtain ⟨x, c', q, hx, s'⟩ := odd_8 q1 hm hn q2 q3 q4 s4 (by omega) h
    exact ⟨x, c', q, hx, s'.mono (by omega)⟩
  · obtain ⟨x, c', q, hx, s'⟩ := odd_9 q1 hm hn q2 q3 q4 s4 (by omega) h
    exact ⟨x, c', q, hx, s'.mono (by omega)⟩
  · obtain ⟨x, c', q, hx, s'⟩ := odd_10 q1 q2 q3 q4 s4 (by omega) h
    exact ⟨x, c', q, hx, s'.mono (by omega)⟩
end
end DX
namespace DX
open PySem PySem.Spec PyProof.Rows L2 GF
section
variable {cs xt : List Cell} {n t : Nat}
theorem cut_last {α : Type} {l : List α} {n : Nat} (h : l.length = n + 1) : cutL l none (some (-1)) = l.take n := by
  unfold cutL
  rw [HT.sIx_none]
  have e : HT.sIx l.length l.length (some (-1)) = n := by
    unfold HT.sIx
    simp
    omega
  rw [e, List.drop_zero, Nat.sub_zero]
theorem isWs_bad {l : List Dt} {x : Dt} (hx : x ∈ l) (h : isW x = false) : isWs l = false := by
  cases e : isWs l with
  | false => rfl
  | true =>
    unfold isWs at e
    simp only [Bool.and_eq_true] at e
    have := List.all_eq_true.mp e.2.1 x hx
    rw [h] at this
    cases this
theorem noWs_lst {l : List Dt} (hp : ∀ x ∈ l, pl1 x = true) (h : isWs l = false) : noWs (.lst l) = true := by
  show (l.all pl1 && !isWs l) = true
  rw [List.all_eq_true.mpr hp, h]
  rfl
theorem pl1_wD {a : Wd} (h : a.l.length ≤ 100) : pl1 (wD a) = true := by
  show ([Dt.int a.s, .str (strOf a.l)].all pl0) = true
  rw [List.all_cons, pl0_int, Bool.true_and, List.all_cons, pl0_strOf h]
  rfl
theorem r_bad_words2 {as : List Wd} (hs : St cs xt t) (ht : t + 10 < 1000000) (hn : n ≤ 12) (ha : ∀ a ∈ as, WOk' n a) (a1 : 1 ≤ as.length) (a2 : as.length ≤ 15) :
    ∃ x cs', m__law_bad_words_v2 [.cel 1, .dat (.lst (as.map wD))] cs = .ok (.dat x) cs' ∧ noWs x = true ∧ St cs' xt (t + 2) := by
  obtain ⟨d, c1, q1, d0, d1, s1⟩ := r_draw (n := 8) hs (by omega) (by omega) (by omega)
  obtain ⟨a, r, rfl⟩ : ∃ a r, as = a :: r := by
    cases as with
    | nil => simp at a1
    | cons a r => exact ⟨a, r, rfl⟩
  have oa := ha a List.mem_cons_self
  have al := oa.len
  have pls : ∀ x ∈ (a :: r).map wD, pl1 x = true := fun x hx => by
    obtain ⟨b, hb, rfl⟩ := List.mem_map.mp hx
    exact pl1_wD (by have := (ha b hb).len; omega)
  have wd0 : ∀ l : List Dt, dIx (.lst (wD a :: l)) (.int 0) = some (wD a) := fun _ => at_0
  have ln : ((a :: r).map wD).length = r.length + 1 := by simp
  rw [List.length_cons] at a2
  by_cases k0 : d = 0
  · subst k0
    have n1 := strOf_len a.l
    have n2 : ("1" : Str).length = 1 := rfl
    have e0 : dAdd (.str (strOf a.l)) (.str "1") = some (.str (strOf (a.l ++ [0]))) := by
      have h := d_addS (a := strOf a.l) (b := "1") (by omega)
      rw [h, show ("1" : Str) = strOf [0] from rfl, strOf_app]
    have e1 : dAdd (.lst (wD a :: r.map wD)) (.lst [.tup [.int 1, .str (strOf (a.l ++ [0]))]]) = some (.lst ((wD a :: r.map wD) ++ [.tup [.int 1, .str (strOf (a.l ++ [0]))]])) := d_addL (by simp; omega)
    refine ⟨.lst ((wD a :: r.map wD) ++ [wD ⟨1, a.l ++ [0]⟩]), c1, fn_ev ?_, noWs_lst (fun x hx => ?_) ?_, s1.mono (by omega)⟩
    · rw [List.map_cons]
      k_state0 [b__law_bad_words_v2, start_cons, start_nil, repl_S, repl_0, q1, wd0, dix_w1, e0, e1]
      rfl
    · rcases List.mem_append.mp hx with h | h
      · exact pls x h
      · rw [List.mem_singleton.mp h]
        exact pl1_wD (by show (a.l ++ [0]).length ≤ 100; rw [List.length_append]; show a.l.length + 1 ≤ 100; omega)
    · cases e : isWs ((wD a :: r.map wD) ++ [wD ⟨1, a.l ++ [0]⟩]) with
      | false => rfl
      | true =>
        unfold isWs at e
        simp only [Bool.and_eq_true] at e
        have h := List.all_eq_true.mp e.2.2 (wD ⟨1, a.l ++ [0]⟩) (List.mem_append_right _ (List.mem_singleton.mpr rfl))
        rw [decide_eq_true_eq] at h
        have h : (strOf (a.l ++ [0])).length = (strOf a.l).length := h
        rw [strOf_len, strOf_len, List.length_append] at h
        have : a.l.length + 1 = a.l.length := h
        omega
  by_cases k1 : d = 1
  · subst k1
    obtain ⟨L, hL⟩ : ∃ L, L = (a :: r).map wD := ⟨_, rfl⟩
    rw [← hL] at pls ln ⊢
    have m1 : dMul (.lst L) (.int 16) = some (.lst (List.replicate 16 L).flatten) := by
      have h : dMulL (.lst L) (.int 16) = some (.lst (List.replicate 16 L).flatten) := by
        unfold dMulL
        dsimp only
        rw [if_pos]
        · rfl
        · simp only [Bool.and_eq_true, decide_eq_true_eq, szOk]
          refine ⟨⟨by decide, by decide⟩, ?_⟩
          rw [show (16 : Int).toNat = 16 from rfl]
          omega
      have e : dMul (.lst L) (.int 16) = (dMulL (.lst L) (.int 16)).or (dMulT (.lst L) (.int 16)) := rfl
      rw [e, h]
      rfl
    have fl : (List.replicate 16 L).flatten.length = 16 * L.length := by simp; omega
    have s0 : ∀ c, wSl (.dat (.lst (List.replicate 16 L).flatten)) none (some 16) c = some (.lst ((List.replicate 16 L).flatten.take 16)) := fun c => by
      have h := cutL_to (l := (List.replicate 16 L).flatten) (d := 16) (by decide) (by omega)
      exact congrArg (fun z => some (Dt.lst z)) h
    refine ⟨.lst ((List.replicate 16 L).flatten.take 16), c1, fn_ev ?_, noWs_lst (fun x hx => ?_) ?_, s1.mono (by omega)⟩
    · k_state0 [b__law_bad_words_v2, start_cons, start_nil, repl_S, repl_0, q1, m1, s0]
    · have h := List.mem_of_mem_take hx
      rw [List.mem_flatten] at h
      obtain ⟨l, hl, hx⟩ := h
      rw [List.mem_replicate] at hl
      exact pls x (hl.2 ▸ hx)
    · unfold isWs
      rw [List.length_take, fl, decide_eq_false (p := min 16 (16 * L.length) ≤ 15) (by omega)]
      simp
  by_cases k2 : d = 2
  · subst k2
    obtain ⟨x, c2, q2, hx, s2⟩ := r_bad_word s1 (by omega)
    have s0 : ∀ c, wSl (.dat (.lst (wD a :: r.map wD))) (some 1) none c = some (.lst (r.map wD)) := fun c => by
      have h := cutL_from (l := wD a :: r.map wD) (d := 1) (by decide) (by simp; omega)
      exact congrArg (fun z => some (Dt.lst z)) h
    have e1 : dAdd (.lst [x]) (.lst (r.map wD)) = some (.lst ([x] ++ r.map wD)) := d_addL (by simp; omega)
    refine ⟨.lst ([x] ++ r.map wD), c2, fn_ev ?_, noWs_lst (fun y hy => ?_) (isWs_bad (x := x) (List.mem_append_left _ (List.mem_singleton.mpr rfl)) (badW_no x hx)), s2⟩
    · rw [List.map_cons]
      k_state0 [b__law_bad_words_v2, start_cons, start_nil, repl_S, repl_0, q1, q2, s0, e1]
    · rcases List.mem_append.mp hy with h | h
      · rw [List.mem_singleton.mp h]
        exact badW_pl x hx
      · exact pls y (List.mem_cons_of_mem _ h)
  by_cases k3 : d = 3
  · subst k3
    obtain ⟨x, c2, q2, hx, s2⟩ := r_bad_word s1 (by omega)
    obtain ⟨L, hL⟩ : ∃ L, L = (a :: r).map wD := ⟨_, rfl⟩
    rw [← hL] at pls ln ⊢
    have ng : dNeg (.int 1) = some (.int (-1)) := rfl
    have s0 : ∀ c, wSl (.dat (.lst L)) none (some (-1)) c = some (.lst (L.take r.length)) := fun c => congrArg (fun z => some (Dt.lst z)) (cut_last ln)
    have e1 : dAdd (.lst (L.take r.length)) (.lst [x]) = some (.lst (L.take r.length ++ [x])) := d_addL (by simp; omega)
    refine ⟨.lst (L.take r.length ++ [x]), c2, fn_ev ?_, noWs_lst (fun y hy => ?_) (isWs_bad (x := x) (List.mem_append_right _ (List.mem_singleton.mpr rfl)) (badW_no x hx)), s2⟩
    · k_state0 [b__law_bad_words_v2, start_cons, start_nil, repl_S, repl_0, q1, q2, ng, s0, e1]
    · rcases List.mem_append.mp hy with h | h
      · exact pls y (List.mem_of_mem_take h)
      · rw [List.mem_singleton.mp h]
        exact badW_pl x hx
  obtain ⟨x, c2, q2, hx, s2⟩ := r_pick (l := [.lst [], .tup [], .non, .int 7, .str "a1", .dic [], wD a, .bl true, .lst [.lst (wD a :: r.map wD)], .lst [.str "a", .str "b"], .dic [(.inl 0, wD a)]]) s1 (by omega) (by simp) (by simp)
  refine ⟨x, c2, fn_ev ?_, ?_, s2⟩
  · rw [List.map_cons]
    k_state0 [b__law_bad_words_v2, start_cons, start_nil, repl_S, repl_0, q1, k0, k1, k2, k3, wd0, dk_dic, dk_dic2, dk_nil, dk_cons, dk_val, dk_val2, dk_rK, dk_dat, dk_datn, Option.map, q2]
  · simp only [List.mem_cons, List.not_mem_nil, or_false] at hx
    have p0 : pl0 (.str (strOf a.l)) = true := pl0_strOf (by omega)
    rcases hx with rfl | rfl | rfl | rfl | rfl | rfl | rfl | rfl | rfl | rfl | rfl
    · rfl
    · rfl
    · rfl
    · rfl
    · rfl
    · rfl
    · show ([Dt.int a.s, .str (strOf a.l)].all pl1 && !isWs [Dt.int a.s, .str (strOf a.l)]) = true
      rw [isWs_bad (x := .int a.s) List.mem_cons_self rfl]
      rfl
    · rfl
    · exact noWs_lst (fun y hy => by rw [List.mem_singleton.mp hy]; rfl) (isWs_bad (x := .lst (wD a :: r.map wD)) List.mem_cons_self rfl)
    · rfl
    · rfl
end
end DX
namespace DX
open PySem PySem.Spec PyProof.Rows L2 GF
theorem s_lam {k : Nat} {J : LamK} {env : En} {cs : List Cell} : eLam k J env cs = .ok (.dat (.lam k J)) cs := (rfl)
theorem s_lamV {L : List (Str × Addr)} {i : Nat} {tb : List (Nat × LamK × Ev)} {env : En} {cs : List Cell} : eLamV L i tb env cs = rb (eVar i env cs) (kLamV L tb env) := mb _ _ _
theorem k_lamV {L : List (Str × Addr)} {k k' : Nat} {J J' : LamK} {f : Ev} {tb : List (Nat × LamK × Ev)} {env : En} {cs : List Cell} (h : ¬ k' = k) : kLamV L ((k', J', f) :: tb) env (.dat (.lam k J)) cs = kLamV L tb env (.dat (.lam k J)) cs := by
  unfold kLamV
  dsimp only
  rw [List.find?_cons_of_neg (by simpa using h)]
theorem k_lamH {L : List (Str × Addr)} {k : Nat} {J : LamK} {f : Ev} {tb : List (Nat × LamK × Ev)} {env : En} {cs : List Cell} : kLamV L ((k, J, f) :: tb) env (.dat (.lam k J)) cs = mCaught L (f env) cs := by
  unfold kLamV
  dsimp only
  rw [List.find?_cons_of_pos (by simp)]
  dsimp only
  rw [if_pos rfl]
theorem k_l01 {L : List (Str × Addr)} {J J' : LamK} {f : Ev} {tb : List (Nat × LamK × Ev)} {env : En} {cs : List Cell} : kLamV L ((0, J', f) :: tb) env (.dat (.lam 1 J)) cs = kLamV L tb env (.dat (.lam 1 J)) cs := k_lamV (by decide)
theorem k_l02 {L : List (Str × Addr)} {J J' : LamK} {f : Ev} {tb : List (Nat × LamK × Ev)} {env : En} {cs : List Cell} : kLamV L ((0, J', f) :: tb) env (.dat (.lam 2 J)) cs = kLamV L tb env (.dat (.lam 2 J)) cs := k_lamV (by decide)
theorem k_l12 {L : List (Str × Addr)} {J J' : LamK} {f : Ev} {tb : List (Nat × LamK × Ev)} {env : En} {cs : List Cell} : kLamV L ((1, J', f) :: tb) env (.dat (.lam 2 J)) cs = kLamV L tb env (.dat (.lam 2 J)) cs := k_lamV (by decide)
theorem k_l03 {L : List (Str × Addr)} {J J' : LamK} {f : Ev} {tb : List (Nat × LamK × Ev)} {env : En} {cs : List Cell} : kLamV L ((0, J', f) :: tb) env (.dat (.lam 3 J)) cs = kLamV L tb env (.dat (.lam 3 J)) cs := k_lamV (by decide)
theorem k_l13 {L : List (Str × Addr)} {J J' : LamK} {f : Ev} {tb : List (Nat × LamK × Ev)} {env : En} {cs : List Cell} : kLamV L ((1, J', f) :: tb) env (.dat (.lam 3 J)) cs = kLamV L tb env (.dat (.lam 3 J)) cs := k_lamV (by decide)
theorem k_l23 {L : List (Str × Addr)} {J J' : LamK} {f : Ev} {tb : List (Nat × LamK × Ev)} {env : En} {cs : List Cell} : kLamV L ((2, J', f) :: tb) env (.dat (.lam 3 J)) cs = kLamV L tb env (.dat (.lam 3 J)) cs := k_lamV (by decide)
theorem loop_one {t1 : Tg} {b : Sv} {w : Wv} {ws : List Wv} {env env' env2 : En} {cs : List Cell} {r : R Fl} (h1 : t1 w env = some env') (h2 : b env' cs = .ok (.nx env2) cs) (h3 : loopS t1 b ws env2 cs = r) : loopS t1 b (w :: ws) env cs = r := by
  unfold loopS
  rw [h1, mb, m_opt, rb_ok, mb, h2, rb_ok]
  exact h3
theorem loop_one2 {t1 : Tg} {b : Sv} {w : Wv} {ws : List Wv} {env env' env2 : En} {cs cs2 : List Cell} {r : R Fl} (h1 : t1 w env = some env') (h2 : b env' cs = .ok (.nx env2) cs2) (h3 : loopS t1 b ws env2 cs2 = r) : loopS t1 b (w :: ws) env cs = r := by
  unfold loopS
  rw [h1, mb, m_opt, rb_ok, mb, h2, rb_ok]
  exact h3
theorem eqS_ne (z : Str) (cs : List Cell) : eqC true (.dat (.str z)) (.dat (.str z)) cs = some (.bl false) := by
  have e : eqS (.dat (.str z)) (.dat (.str z)) = some (decide (z = z)) := rfl
  unfold eqC eqB
  rw [e, decide_eq_true rfl]
  rfl
theorem rb_xn {α β : Type} {x : Xn} {cs : List Cell} {f : α → M β} : rb (.exc x cs) f = .exc x cs := (rfl)
section
variable {V : Ax} {cs xt : List Cell} {n t : Nat}
/-- all that are no moves -/
def bads (n : Nat) (l : List Dt) : List Nat := (l.zipIdx.filter fun q => !isM n q.1).map (·.2)
theorem bads_at (n : Nat) : ∀ (l : List Dt) (k : Nat), badAt n k l = (((l.zipIdx k).filter fun q => !isM n q.1).map (·.2)).head?
  | [], _ => rfl
  | x :: l, k => by
    rw [List.zipIdx_cons]
    unfold badAt
    cases e : isM n x with
    | true =>
      rw [List.filter_cons_of_neg (by simp [e]), if_pos rfl]
      exact bads_at n l (k + 1)
    | false =>
      rw [List.filter_cons_of_pos (by simp [e])]
      rfl
theorem bads_head (n : Nat) (l : List Dt) : badAt n 0 l = (bads n l).head? := bads_at n l 0
theorem bads_lt {l : List Dt} {i : Nat} (h : i ∈ bads n l) : i < l.length := by
  obtain ⟨q, hq, rfl⟩ := List.mem_map.mp h
  have := List.mem_zipIdx (List.mem_filter.mp hq).1
  omega
theorem bads_lc {L : List Dt} {env : En} (h : ∀ x ∈ L, thB x = true) (hh : ∀ q : Dt × Nat, ∃ a2 : En, tTupG 2 (tgCons (tName 12) (tgCons (tName 13) (tgNil))) (.dat (.tup [.int (q.2 : Nat), q.1])) env = some a2 ∧ a2[1]? = some (some (.dat (.int (n : Nat)))) ∧ a2[12]? = some (some (.dat (.int (q.2 : Nat)))) ∧ a2[13]? = some (some (.dat q.1))) :
    loopC (tTupG 2 (tgCons (tName 12) (tgCons (tName 13) (tgNil)))) ci__law_refusals_0 ce__law_refusals_0 env (enumW L) cs = .ok (((bads n L).map nD).map Wv.dat) cs := by
  have e : enumW L = L.zipIdx.map fun q => .dat (.tup [.int (q.2 : Nat), q.1]) := by
    have := enum_map (fun x : Dt => x) L
    rwa [List.map_id'] at this
  rw [e]
  have q := lc_filter (t := tTupG 2 (tgCons (tName 12) (tgCons (tName 13) (tgNil)))) (p := ci__law_refusals_0) (f := ce__law_refusals_0) (env := env) (cs := cs) (fun q : Dt × Nat => Wv.dat (.tup [.int (q.2 : Nat), q.1])) (fun q => nD q.2) (fun q => !isM n q.1) L.zipIdx (fun q hq => by
    obtain ⟨a2, h1, h2, h3, h4⟩ := hh q
    have hx : thB q.1 = true := h _ (by
      have := List.mem_zipIdx (x := q.1) (i := q.2) hq
      rw [this.2.2]
      exact List.getElem_mem _)
    have e1 : ∀ c, eVar 1 a2 c = .ok (.dat (.int (n : Nat))) c := fun c => by unfold eVar; rw [h2]; rfl
    have e2 : ∀ c, eVar 12 a2 c = .ok (.dat (.int (q.2 : Nat))) c := fun c => by unfold eVar; rw [h3]; rfl
    have e3 : ∀ c, eVar 13 a2 c = .ok (.dat q.1) c := fun c => by unfold eVar; rw [h4]; rfl
    have lm := law_move_any (n := n) (cs := cs) hx
    refine ⟨a2, h1, ?_, fun _ => ?_⟩
    · k_state0 [ci__law_refusals_0, e1, e3, lm]
    · unfold nD
      k_state0 [ce__law_refusals_0, e2])
  rw [q]
  unfold bads
  simp only [List.map_map]
  rfl
theorem moved_bad {b x : Dt} (h : noWs b = true) : m_moved_v2 [.dat b, .dat x] cs = .exc "BadWords" cs := by
  have q := x_need_words (cs := cs) h
  refine fn_ev ?_
  k_state0 [b_moved_v2, start_cons, start_nil, repl_S, repl_0, q]
theorem led_bad {b x : Dt} (h : noWs b = true) : m_led_v3 [.dat b, .dat x] cs = .exc "BadWords" cs := by
  have q := x_need_words (cs := cs) h
  refine fn_ev ?_
  k_state0 [b_led_v3, start_cons, start_nil, repl_S, repl_0, q]
abbrev L11 (n : Nat) (S L : Dt) (W : List Nat) (a0 a3 a4 a5 a7 a8 a9 a11 a12 a13 : Option Wv) : En := [a0, some (.dat (.int (n : Nat))), some (.dat S), a3, a4, a5, some (.dat L), a7, a8, a9, some (.dat (.lst (W.map nD))), a11, a12, a13]
theorem ref_work (F : AxF_k11 V) {S L : Dt} {W : List Nat} {o : Option Nat} (ho : o = W.head?) (hW : ∀ i ∈ W, i < 1000) {k : Nat} (nn : Nat) (hk : k = 0 ∨ k = 1)
    (qa : ∃ d, m_led_v3 [.dat S, .dat L] cs = match o with
      | none => .ok (.dat d) cs
      | some i => .exc ⟨"BadMoves", [("at", .int (i : Nat))]⟩ cs)
    (qb : ∃ d, m_frame_of [.dat (.int (n : Nat)), .dat L] cs = match o with
      | none => .ok (.dat d) cs
      | some i => .exc ⟨"BadMoves", [("at", .int (i : Nat))]⟩ cs) {a0 a3 a4 a5 a7 a8 a9 a12 a13 : Option Wv} :
    ∃ b7, lb__law_refusals_0 V nn (L11 n S L W a0 a3 a4 a5 a7 a8 a9 (some (.dat (.lam k (V.M 0 nn k)))) a12 a13) cs = .ok (.nx (L11 n S L W a0 a3 a4 a5 b7 a8 a9 (some (.dat (.lam k (V.M 0 nn k)))) a12 a13)) cs := by
  obtain ⟨d, qa⟩ := qa
  obtain ⟨d2, qb⟩ := qb
  unfold L11
  cases W with
  | nil =>
    subst ho
    have qa : m_led_v3 [.dat S, .dat L] cs = .ok (.dat d) cs := qa
    have qb : m_frame_of [.dat (.int (n : Nat)), .dat L] cs = .ok (.dat d2) cs := qb
    have n1 : dNotN .non .non = some (.bl false) := rfl
    refine ⟨some (.dat .non), ?_⟩
    rcases hk with rfl | rfl
    · k_state0 [lb__law_refusals_0, s_lamV, k_lamH, qa, mCaught, n1, eq_nn, ne_nn]
    · k_state0 [lb__law_refusals_0, s_lamV, k_l01, k_lamH, qb, mCaught, n1, eq_nn, ne_nn]
  | cons i r =>
    subst ho
    have qa : m_led_v3 [.dat S, .dat L] cs = .exc ⟨"BadMoves", [("at", .int (i : Nat))]⟩ cs := qa
    have qb : m_frame_of [.dat (.int (n : Nat)), .dat L] cs = .exc ⟨"BadMoves", [("at", .int (i : Nat))]⟩ cs := qb
    have hi := hW i List.mem_cons_self
    have kh := F.lk_BadMoves
    have jh : ∀ d cs, oIsXD V.K (V.L.map (·.2)) [.dat (.exn (V.A 19) [("at", d)]), .dat (.op (.ref (V.A 19)))] cs = some (.bl true) := fun d _ => isx_on F.mm_BadMoves F.i_BadMoves_BadMoves rfl
    have xf : ∀ d cs, mXf [V.A 19] "at" (.dat (.exn (V.A 19) [("at", d)])) cs = .ok (.dat d) cs := fun _ _ => k_xf List.mem_cons_self
    have rp : ∀ c, oReprA [.dat (.int (i : Nat))] c = some (.str (toString ((i : Nat) : Int))) := fun c => reprA_of (repr_int (i := ((i : Nat) : Int)) (by omega))
    have ne := eqS_ne (toString ((i : Nat) : Int))
    have e1 : ∀ c, eqC false (.dat (.lst (nD i :: r.map nD))) (.dat (.lst [])) c = some (.bl false) := fun c => by
      have e := eq_nil_dat ((i :: r).map fun k : Nat => (k : Int)) c
      rw [List.map_map] at e
      exact e
    have e2 : ∀ c, eqC true (.dat (.lst (nD i :: r.map nD))) (.dat (.lst [])) c = some (.bl true) := fun c => by
      have e := ne_nil_dat ((i :: r).map fun k : Nat => (k : Int)) c
      rw [List.map_map] at e
      exact e
    have ix : dIx (.lst (nD i :: r.map nD)) (.int 0) = some (.int (i : Nat)) := at_0
    have n1 : ∀ d, dNotN (.exn (V.A 19) [("at", d)]) .non = some (.bl true) := fun _ => rfl
    refine ⟨some (.dat (.exn (V.A 19) [("at", .int (i : Nat))])), ?_⟩
    rw [List.map_cons]
    rcases hk with rfl | rfl
    · k_state0 [lb__law_refusals_0, s_lamV, k_lamH, qa, rb_xn, mCaught, kh, jh, e1, e2, ix, n1, k_xfe, xf, rp, ne]
    · k_state0 [lb__law_refusals_0, s_lamV, k_l01, k_lamH, qb, rb_xn, mCaught, kh, jh, e1, e2, ix, n1, k_xfe, xf, rp, ne]
theorem thB_mem_mv {ms : List Mv} (hm : ∀ m ∈ ms, MvOk n m) (hn : n ≤ 12) : ∀ x ∈ ms.map mvD, thB x = true := fun x hx => by
  obtain ⟨m, h, rfl⟩ := List.mem_map.mp hx
  exact thB_mv (hm m h) hn
theorem r_refusals (F : AxF_k11 V) {as : List Wd} {x : Dt} (hs : St cs xt t) (ht : t + 2000 < 1000000) (h1 : 1 ≤ n) (hn : n ≤ 12) (ha : ∀ a ∈ as, WOk' n a) (a1 : 1 ≤ as.length) (a2 : as.length ≤ 15) (hx : thB x = true) :
    ∃ cs', m__law_refusals V [.cel 1, .dat (.int (n : Nat)), .dat (.lst (as.map wD)), .dat x] cs = .ok (.dat (.bl true)) cs' ∧ St cs' xt (t + 1000) := by
  have q1 := law_move_any (n := n) (cs := cs) hx
  obtain ⟨b, c1, q2, hb, s1⟩ := r_bad_words2 (n := n) hs (by omega) hn ha a1 a2
  have q3 := r_is_move (cs := c1) h1 hn hx
  have q4 : ∀ c, m__law_says [.dat (.bl (isM n x)), .dat (.bl (isM n x))] c = .ok (.dat (.bl true)) c := fun c => by rw [r_says, beq_self_eq_true]
  obtain ⟨d, q5⟩ := r_moved_v2 (cs := c1) (x := .lst (as.map wD)) (.inl rfl) ha h1 hn a1 a2 hx
  have q6 := moved_bad (cs := c1) (x := x) hb
  have q7 := led_bad (cs := c1) (x := .lst [x]) hb
  obtain ⟨ms, c2, q8, hm, ml, s2⟩ := r_some_moves (n := n) (most := 4) s1 (by decide) (by omega) h1 hn
  have q8 : m__law_some_moves [.cel 1, .dat (.int (n : Nat)), .dat (.int 4)] c1 = .ok (.dat (.lst (ms.map mvD))) c2 := q8
  obtain ⟨i0, c3, q9, i1, i2, s3⟩ := r_draw (n := (ms.length : Int) + 1) s2 (by omega) (by omega) (by omega)
  obtain ⟨i, rfl⟩ : ∃ i : Nat, i0 = (i : Int) := ⟨i0.toNat, by omega⟩
  obtain ⟨y, c4, q10, hy, s4⟩ := r_pick (l := [.lst [], .lst [.non], .lst [x]]) s3 (by omega) (by simp) (by simp)
  obtain ⟨T, rfl, hT, lT⟩ : ∃ T : List Dt, y = .lst T ∧ (∀ z ∈ T, thB z = true) ∧ T.length ≤ 1 := by
    simp only [List.mem_cons, List.not_mem_nil, or_false] at hy
    rcases hy with rfl | rfl | rfl
    · exact ⟨[], rfl, fun z hz => (by cases hz), by simp⟩
    · exact ⟨[.non], rfl, fun z hz => by rw [List.mem_singleton.mp hz]; rfl, by simp⟩
    · exact ⟨[x], rfl, fun z hz => by rw [List.mem_singleton.mp hz]; exact hx, by simp⟩
  obtain ⟨L, hL⟩ : ∃ L, L = (ms.map mvD).take i ++ [x] ++ (ms.map mvD).drop i ++ T := ⟨_, rfl⟩
  have th : ∀ z ∈ L, thB z = true := fun z hz => by
    rw [hL] at hz
    rcases List.mem_append.mp hz with h | h
    · rcases List.mem_append.mp h with h | h
      · rcases List.mem_append.mp h with h | h
        · exact thB_mem_mv hm hn z (List.mem_of_mem_take h)
        · rw [List.mem_singleton.mp h]; exact hx
      · exact thB_mem_mv hm hn z (List.mem_of_mem_drop h)
    · exact hT z h
  have lL : L.length ≤ 20 := by
    rw [hL]
    simp
    omega
  have lm : (ms.map mvD).length = ms.length := List.length_map ..
  have c1' : ∀ c, wSl (.dat (.lst (ms.map mvD))) none (some (i : Int)) c = some (.lst ((ms.map mvD).take i)) := fun c => by
    have h := cutL_to (l := ms.map mvD) (d := (i : Int)) (by omega) (by omega)
    rw [Int.toNat_natCast] at h
    exact congrArg (fun z => some (Dt.lst z)) h
  have c2' : ∀ c, wSl (.dat (.lst (ms.map mvD))) (some (i : Int)) none c = some (.lst ((ms.map mvD).drop i)) := fun c => by
    have h := cutL_from (l := ms.map mvD) (d := (i : Int)) (by omega) (by omega)
    rw [Int.toNat_natCast] at h
    exact congrArg (fun z => some (Dt.lst z)) h
  have e1 : dAdd (.lst ((ms.map mvD).take i)) (.lst [x]) = some (.lst ((ms.map mvD).take i ++ [x])) := d_addL (by simp; omega)
  have e2 : dAdd (.lst ((ms.map mvD).take i ++ [x])) (.lst ((ms.map mvD).drop i)) = some (.lst ((ms.map mvD).take i ++ [x] ++ (ms.map mvD).drop i)) := d_addL (by simp; omega)
  have e3 : dAdd (.lst ((ms.map mvD).take i ++ [x] ++ (ms.map mvD).drop i)) (.lst T) = some (.lst L) := by
    rw [hL]
    exact d_addL (by simp; omega)
  have hlen : ∀ c, oLen [.dat (.lst (ms.map mvD))] c = some (.int (ms.length : Nat)) := fun c => by
    show some (Dt.int ((ms.map mvD).length : Nat)) = _
    rw [lm]
  have qa := r_led_v3 (cs := c4) (x := .lst (as.map wD)) (y := .lst L) (.inl rfl) (.inl rfl) th ha h1 hn a1 a2
  have qb := r_frame_of (cs := c4) (y := .lst L) (.inl rfl) th h1 hn
  have hd := bads_head n L
  have hW : ∀ i ∈ bads n L, i < 1000 := fun i hi => by have := bads_lt hi; omega
  have kw := F.lk_BadWords
  have jw : ∀ cs, oIsXD V.K (V.L.map (·.2)) [.dat (.exn (V.A 37) []), .dat (.op (.ref (V.A 37)))] cs = some (.bl true) := fun _ => isx_of F.mm_BadWords F.i_BadWords_BadWords
  have km := F.lk_BadMove
  have jm : ∀ cs, oIsXD V.K (V.L.map (·.2)) [.dat (.exn (V.A 18) []), .dat (.op (.ref (V.A 18)))] cs = some (.bl true) := fun _ => isx_of F.mm_BadMove F.i_BadMove_BadMove
  have zE : (enumW L).length ≤ 16777216 := by
    unfold enumW
    rw [List.length_mapIdx]
    omega
  have n1 : dNotN .non .non = some (.bl false) := rfl
  have n2 : dNotN (.exn (V.A 18) []) .non = some (.bl true) := rfl
  have f1 : ∀ c, eqC false (.dat (.bl false)) (.dat (.bl true)) c = some (.bl false) := fun _ => rfl
  have f2 : ∀ c, eqC false (.dat (.bl true)) (.dat (.bl false)) c = some (.bl false) := fun _ => rfl
  refine ⟨c4, allN_of fun nn => ?_, s4.mono (by omega)⟩
  have lc : ∀ a0 a3 a4 a5 a7 a8 a9, loopC (tTupG 2 (tgCons (tName 12) (tgCons (tName 13) (tgNil)))) ci__law_refusals_0 ce__law_refusals_0 [a0, some (.dat (.int (n : Nat))), some (.dat (.lst (as.map wD))), a3, a4, a5, some (.dat (.lst L)), a7, a8, a9, none, none, none, none] (enumW L) c4 = .ok (((bads n L).map nD).map Wv.dat) c4 := fun a0 a3 a4 a5 a7 a8 a9 => bads_lc th fun q => ⟨_, rfl, rfl, rfl, rfl⟩
  have lp : ∀ a0 a3 a4 a5 a7 a8 a9, ∃ b7, loopS (tName 11) (lb__law_refusals_0 V nn) [.dat (.lam 0 (V.M 0 nn 0)), .dat (.lam 1 (V.M 0 nn 1))] [a0, some (.dat (.int (n : Nat))), some (.dat (.lst (as.map wD))), a3, a4, a5, some (.dat (.lst L)), a7, a8, a9, some (.dat (.lst ((bads n L).map nD))), none, none, none] c4 = .ok (.nx [a0, some (.dat (.int (n : Nat))), some (.dat (.lst (as.map wD))), a3, a4, a5, some (.dat (.lst L)), b7, a8, a9, some (.dat (.lst ((bads n L).map nD))), some (.dat (.lam 1 (V.M 0 nn 1))), none, none]) c4 := fun a0 a3 a4 a5 a7 a8 a9 => by
    obtain ⟨b7, w1⟩ := ref_work (n := n) F hd hW nn (k := 0) (.inl rfl) qa qb (a0 := a0) (a3 := a3) (a4 := a4) (a5 := a5) (a7 := a7) (a8 := a8) (a9 := a9) (a12 := none) (a13 := none)
    obtain ⟨e7, w2⟩ := ref_work (n := n) F hd hW nn (k := 1) (.inr rfl) qa qb (a0 := a0) (a3 := a3) (a4 := a4) (a5 := a5) (a7 := b7) (a8 := a8) (a9 := a9) (a12 := none) (a13 := none)
    exact ⟨e7, loop_one rfl w1 (loop_one rfl w2 rfl)⟩
  cases e : isM n x with
  | true =>
    rw [e] at q1 q3 q4 q5
    rw [if_pos rfl] at q5
    obtain ⟨b7, lp'⟩ := lp (some (.cel 1)) (some (.dat x)) (some (.dat (.bl true))) (some (.dat b)) (some (.dat .non)) (some (.dat (.lst (ms.map mvD)))) (some (.dat (.int (i : Nat))))
    have lp2 : loopS (tName 11) (lb__law_refusals_0 V nn) ([Dt.lam 0 (V.M 0 nn 0), .lam 1 (V.M 0 nn 1)].map Wv.dat) _ c4 = _ := lp'
    refine fn_ev ?_
    k_state0 [b__law_refusals, start_cons, start_nil, repl_S, repl_0, q1, q2, q3, q4, q5, q6, q7, rb_xn, mCaught, kw, jw, n1, f1, q8, hlen, q9, c1', c2', e1, e2, q10, e3, k_lc zE, wipe_nil, wipe_cons, lc, dats_mapd, s_lam, lp', lp2, -k_lc]
  | false =>
    rw [e] at q1 q3 q4 q5
    rw [if_neg Bool.false_ne_true] at q5
    obtain ⟨b7, lp'⟩ := lp (some (.cel 1)) (some (.dat x)) (some (.dat (.bl false))) (some (.dat b)) (some (.dat (.exn (V.A 18) []))) (some (.dat (.lst (ms.map mvD)))) (some (.dat (.int (i : Nat))))
    have lp2 : loopS (tName 11) (lb__law_refusals_0 V nn) ([Dt.lam 0 (V.M 0 nn 0), .lam 1 (V.M 0 nn 1)].map Wv.dat) _ c4 = _ := lp'
    refine fn_ev ?_
    k_state0 [b__law_refusals, start_cons, start_nil, repl_S, repl_0, q1, q2, q3, q4, q5, q6, q7, rb_xn, mCaught, kw, jw, km, jm, n2, f2, q8, hlen, q9, c1', c2', e1, e2, q10, e3, k_lc zE, wipe_nil, wipe_cons, lc, dats_mapd, s_lam, lp', lp2, -k_lc]
end
end DX
namespace DX
open PySem PySem.Spec PyProof.Rows L2 GF
section
variable {V : Ax} {cs xt : List Cell} {n t : Nat}
theorem led_none {as : List Wd} {y : Dt} (ha : ∀ a ∈ as, WOk' n a) (h1 : 1 ≤ n) (hn : n ≤ 12) (a1 : 1 ≤ as.length) (a2 : as.length ≤ 15) (h : noRow y = true) : m_led_v3 [.dat (.lst (as.map wD)), .dat y] cs = .exc ⟨"BadMoves", [("at", .non)]⟩ cs := by
  have q1 := r_need_words (cs := cs) (x := .lst (as.map wD)) (.inl rfl) h1 hn a1 a2 ha
  obtain ⟨a, e, oa⟩ := head_len (x := .lst (as.map wD)) (.inl rfl) ha a1
  have sl : dLen (.str (strOf a.l)) = some (.int (a.l.length : Nat)) := by
    have h := strOf_len a.l
    unfold dLen
    dsimp only
    rw [h, if_pos (by unfold szOk; rw [decide_eq_true_eq]; have := oa.len; omega)]
  have q2 := need_moves_none (cs := cs) h (v := .int (a.l.length : Nat))
  refine fn_ev ?_
  k_state0 [b_led_v3, start_cons, start_nil, repl_S, repl_0, q1, e, dix_w1, sl, q2, rb_xn]
theorem wide_move {a x : Dt} (h : pl0 a = true) (hb : lenB a = false) : m_is_move [.dat a, .dat x] cs = .exc "BadLength" cs := by
  have q := need_length_bad (cs := cs) h hb
  refine fn_ev ?_
  k_state0 [b_is_move, start_cons, start_nil, repl_S, repl_0, q]
theorem rg4 : (rangeW 0 4).length = 4 := rfl
abbrev E11 (n : Nat) (as : List Wd) (a0 a2 a5 a6 a7 a8 a9 : Option Wv) : En := [a0, some (.cel 1), a2, some (.dat (.int (n : Nat))), some (.dat (.lst (as.map wD))), a5, a6, a7, a8, a9]
theorem lap0 (F : AxF_k11 V) {as : List Wd} (hs : St cs xt t) (ht : t + 3000 < 1000000) (h1 : 1 ≤ n) (hn : n ≤ 12) (ha : ∀ a ∈ as, WOk' n a) (a1 : 1 ≤ as.length) (a2' : as.length ≤ 15) {a0 a2 a5 a6 a7 a8 a9 : Option Wv} :
    ∃ cs', lb_law_v42_0 V (E11 n as a0 a2 a5 a6 a7 a8 a9) cs = .ok (.nx (E11 n as a0 a2 a5 a6 a7 a8 a9)) cs' ∧ St cs' xt (t + 1100) := by
  obtain ⟨x, c1, q1, hx, s1⟩ := r_odd (n := n) hs (by omega) h1 hn
  obtain ⟨c2, q2, s2⟩ := r_refusals F s1 (by omega) h1 hn ha a1 a2' hx
  refine ⟨c2, ?_, s2⟩
  unfold E11
  k_state0 [lb_law_v42_0, q1, q2]
theorem laps0 (F : AxF_k11 V) {as : List Wd} (h1 : 1 ≤ n) (hn : n ≤ 12) (ha : ∀ a ∈ as, WOk' n a) (a1 : 1 ≤ as.length) (a2' : as.length ≤ 15) {a0 a2 a6 a7 a8 a9 : Option Wv} : ∀ (ws : List Wv) (cs : List Cell) (t : Nat) (a5 : Option Wv), St cs xt t → t + 1100 * ws.length + 3000 < 1000000 →
    ∃ b5 cs', loopS (tName 5) (lb_law_v42_0 V) ws (E11 n as a0 a2 a5 a6 a7 a8 a9) cs = .ok (.nx (E11 n as a0 a2 b5 a6 a7 a8 a9)) cs' ∧ St cs' xt (t + 1100 * ws.length)
  | [], cs, t, a5, hs, _ => ⟨a5, cs, rfl, hs⟩
  | w :: ws, cs, t, a5, hs, ht => by
    rw [List.length_cons] at ht
    obtain ⟨c1, q1, s1⟩ := lap0 F hs (by omega) h1 hn ha a1 a2' (a0 := a0) (a2 := a2) (a5 := some w) (a6 := a6) (a7 := a7) (a8 := a8) (a9 := a9)
    obtain ⟨b5, c2, q2, s2⟩ := laps0 F h1 hn ha a1 a2' (a0 := a0) (a2 := a2) (a6 := a6) (a7 := a7) (a8 := a8) (a9 := a9) ws c1 (t + 1100) (some w) s1 (by omega)
    exact ⟨b5, c2, loop_one2 rfl q1 q2, s2.mono (by rw [List.length_cons]; omega)⟩
theorem lap1 (F : AxF_k11 V) {as : List Wd} {y : Dt} (h1 : 1 ≤ n) (hn : n ≤ 12) (ha : ∀ a ∈ as, WOk' n a) (a1 : 1 ≤ as.length) (a2' : as.length ≤ 15) (hy : noRow y = true) (nn : Nat) {k : Nat} (hk : k = 0 ∨ k = 1) {a0 a2 a5 a8 a9 : Option Wv} :
    lb_law_v42_1 V nn (E11 n as a0 a2 a5 (some (.dat y)) (some (.dat (.lam k (V.M 1 nn k)))) a8 a9) cs = .ok (.nx (E11 n as a0 a2 a5 (some (.dat y)) (some (.dat (.lam k (V.M 1 nn k)))) (some (.dat (.exn (V.A 19) [("at", .non)]))) a9)) cs := by
  have qa := led_none (cs := cs) ha h1 hn a1 a2' hy
  have qb := frame_none (cs := cs) hy h1 hn
  have kh := F.lk_BadMoves
  have jh : ∀ d cs, oIsXD V.K (V.L.map (·.2)) [.dat (.exn (V.A 19) [("at", d)]), .dat (.op (.ref (V.A 19)))] cs = some (.bl true) := fun d _ => isx_on F.mm_BadMoves F.i_BadMoves_BadMoves rfl
  have xf : ∀ d cs, mXf [V.A 19] "at" (.dat (.exn (V.A 19) [("at", d)])) cs = .ok (.dat d) cs := fun _ _ => k_xf List.mem_cons_self
  have n1 : dNotN .non .non = some (.bl false) := rfl
  unfold E11
  rcases hk with rfl | rfl
  · k_state0 [lb_law_v42_1, s_lamV, k_lamH, qa, rb_xn, mCaught, kh, jh, k_xfe, xf, n1]
  · k_state0 [lb_law_v42_1, s_lamV, k_l01, k_lamH, qb, rb_xn, mCaught, kh, jh, k_xfe, xf, n1]
theorem lap2 (F : AxF_k11 V) {as : List Wd} {a y : Dt} (hp : pl0 a = true) (hb : lenB a = false) (nn : Nat) {k : Nat} (hk : k = 2 ∨ k = 3) {a0 a2 a5 a8 : Option Wv} :
    lb_law_v42_2 V nn (E11 n as a0 a2 a5 (some (.dat y)) (some (.dat (.lam k (V.M 1 nn k)))) a8 (some (.dat a))) cs = .ok (.nx (E11 n as a0 a2 a5 (some (.dat y)) (some (.dat (.lam k (V.M 1 nn k)))) a8 (some (.dat a)))) cs := by
  have qa := wide_move (cs := cs) (x := .tup [.str "swap", .int 0]) hp hb
  have qb := frame_wide (cs := cs) (y := y) hp hb
  have kh := F.lk_BadLength
  have jh : ∀ cs, oIsXD V.K (V.L.map (·.2)) [.dat (.exn (V.A 12) []), .dat (.op (.ref (V.A 12)))] cs = some (.bl true) := fun _ => isx_of F.mm_BadLength F.i_BadLength_BadLength
  unfold E11
  rcases hk with rfl | rfl
  · k_state0 [lb_law_v42_2, s_lamV, k_l02, k_l12, k_lamH, qa, rb_xn, mCaught, kh, jh]
  · k_state0 [lb_law_v42_2, s_lamV, k_l03, k_l13, k_l23, k_lamH, qb, rb_xn, mCaught, kh, jh]
theorem lap3 (F : AxF_k11 V) (nn : Nat) (hs : St cs xt t) (ht : t + 20000 < 1000000) {a0 a2 a3 a4 a5 a6 a7 a8 a9 : Option Wv} :
    ∃ (b3 b4 b5 b6 b7 b8 b9 : Option Wv) (cs' x' : List Cell), lb_law_v42_3 V nn [a0, some (.cel 1), a2, a3, a4, a5, a6, a7, a8, a9] cs = .ok (.nx [a0, some (.cel 1), a2, b3, b4, b5, b6, b7, b8, b9]) cs' ∧ St cs' x' (t + 10000) := by
  obtain ⟨d0, c1, q1, u0, u1, s1⟩ := r_draw (n := 12) hs (by omega) (by omega) (by omega)
  obtain ⟨d1, c2, q2, v0, v1, s2⟩ := r_draw (n := 5) s1 (by omega) (by omega) (by omega)
  obtain ⟨n, hn⟩ : ∃ n : Nat, 1 + d0 = n := ⟨(1 + d0).toNat, by omega⟩
  obtain ⟨m, hm⟩ : ∃ m : Nat, 1 + d1 = m := ⟨(1 + d1).toNat, by omega⟩
  obtain ⟨as, c3, q3, ha, la, s3⟩ := r_several (n := n) (m := m) s2 (by omega) (by omega) (by omega)
  obtain ⟨b5, c4, q4, s4⟩ := laps0 (n := n) (xt := xt ++ [.dead]) F (by omega) (by omega) ha (by omega) (by omega) (a0 := a0) (a2 := a2) (a6 := a6) (a7 := a7) (a8 := a8) (a9 := a9) (rangeW 0 4) c3 _ a5 s3 (by rw [rg4]; omega)
  obtain ⟨y, c5, q5, hy, s5⟩ := r_pick (l := [.non, .int 5, .str "swap", .dic [], .dic [(.inl 0, .tup [.str "swap", .int 0])], .bl true]) s4 (by rw [rg4]; omega) (by simp) (by simp)
  have ny : noRow y = true := by
    simp only [List.mem_cons, List.not_mem_nil, or_false] at hy
    rcases hy with rfl | rfl | rfl | rfl | rfl | rfl <;> rfl
  obtain ⟨w, c6, q6, hw, s6⟩ := r_pick (l := [.non, .str "3", .int 0, .int (-1), .int 13, .int 100, .bl true, .bl false, .tup [.int 3], .lst [.int 3]]) s5 (by rw [rg4]; omega) (by simp) (by simp)
  have pw : pl0 w = true ∧ lenB w = false := by
    simp only [List.mem_cons, List.not_mem_nil, or_false] at hw
    rcases hw with rfl | rfl | rfl | rfl | rfl | rfl | rfl | rfl | rfl | rfl <;> refine ⟨?_, ?_⟩ <;> first | rfl | decide | decide +kernel
  have wA : ∀ (a8 a9 : Option Wv), loopS (tName 7) (lb_law_v42_1 V nn) [.dat (.lam 0 (V.M 1 nn 0)), .dat (.lam 1 (V.M 1 nn 1))] (E11 n as a0 a2 b5 (some (.dat y)) a7 a8 a9) c5 = .ok (.nx (E11 n as a0 a2 b5 (some (.dat y)) (some (.dat (.lam 1 (V.M 1 nn 1)))) (some (.dat (.exn (V.A 19) [("at", .non)]))) a9)) c5 := fun a8 a9 =>
    loop_one rfl (lap1 F (by omega) (by omega) ha (by omega) (by omega) ny nn (.inl rfl)) (loop_one rfl (lap1 F (by omega) (by omega) ha (by omega) (by omega) ny nn (.inr rfl)) rfl)
  have wB : ∀ (a7 a8 : Option Wv), loopS (tName 7) (lb_law_v42_2 V nn) [.dat (.lam 2 (V.M 1 nn 2)), .dat (.lam 3 (V.M 1 nn 3))] (E11 n as a0 a2 b5 (some (.dat y)) a7 a8 (some (.dat w))) c6 = .ok (.nx (E11 n as a0 a2 b5 (some (.dat y)) (some (.dat (.lam 3 (V.M 1 nn 3)))) a8 (some (.dat w)))) c6 := fun a7 a8 =>
    loop_one rfl (lap2 F pw.1 pw.2 nn (.inl rfl)) (loop_one rfl (lap2 F pw.1 pw.2 nn (.inr rfl)) rfl)
  have ng : dNeg (.int 1) = some (.int (-1)) := rfl
  refine ⟨some (.dat (.int (n : Nat))), some (.dat (.lst (as.map wD))), b5, some (.dat y), some (.dat (.lam 3 (V.M 1 nn 3))), some (.dat (.exn (V.A 19) [("at", .non)])), some (.dat w), c6, _, ?_, s6.mono (by rw [rg4]; omega)⟩
  unfold E11 at *
  k_state0 [lb_law_v42_3, q1, hn, q2, hm, q3, q4, q5, dk_dic, dk_dic2, dk_nil, dk_cons, dk_val, dk_val2, dk_rK, dk_dat, dk_datn, s_lam, wA, ng, q6, wB]
theorem laps3 (F : AxF_k11 V) (nn : Nat) {a0 : Option Wv} : ∀ (ws : List Wv) (cs xt : List Cell) (t : Nat) (a2 a3 a4 a5 a6 a7 a8 a9 : Option Wv), St cs xt t → t + 10000 * ws.length + 30000 < 1000000 →
    ∃ (env' : En) (cs' : List Cell), loopS (tName 2) (lb_law_v42_3 V nn) ws [a0, some (.cel 1), a2, a3, a4, a5, a6, a7, a8, a9] cs = .ok (.nx env') cs'
  | [], cs, xt, t, a2, a3, a4, a5, a6, a7, a8, a9, _, _ => ⟨_, cs, rfl⟩
  | w :: ws, cs, xt, t, a2, a3, a4, a5, a6, a7, a8, a9, hs, ht => by
    rw [List.length_cons] at ht
    obtain ⟨b3, b4, b5, b6, b7, b8, b9, c1, x1, q1, s1⟩ := lap3 F nn hs (by omega) (a0 := a0) (a2 := some w) (a3 := a3) (a4 := a4) (a5 := a5) (a6 := a6) (a7 := a7) (a8 := a8) (a9 := a9)
    obtain ⟨env', c2, q2⟩ := laps3 F nn (a0 := a0) ws c1 x1 (t + 10000) (some w) b3 b4 b5 b6 b7 b8 b9 s1 (by omega)
    exact ⟨env', c2, loop_one2 rfl q1 q2⟩
end
theorem law_true (V : Ax) (F : AxF_k11 V) (ns : List Int) (hl : ns.length ≤ 63) (hb : ∀ z ∈ ns, Builtin.Int.intBits z ≤ 1048576) : ∃ cs', m_law_v42 V [.dat (.scr ns)] [] = .ok (.dat (.bl true)) cs' := by
  refine ⟨[], fnOfT_is fun nn => ?_⟩
  obtain ⟨c1, q1, s1⟩ := r_begun hl
  have hlen : ∀ c, oLen [.dat (.scr ns)] c = some (.int (ns.length : Nat)) := fun _ => rfl
  obtain ⟨m, hm, hm4⟩ : ∃ m : Nat, dMin2 (.int (ns.length : Nat)) (.int 4) = some (.int (m : Nat)) ∧ m ≤ 4 := by
    by_cases c : ns.length ≤ 4
    · refine ⟨ns.length, ?_, c⟩
      show some (Dt.int (if (4 : Int) < (ns.length : Int) then 4 else (ns.length : Int))) = _
      rw [if_neg (by omega)]
    · refine ⟨4, ?_, Nat.le_refl _⟩
      show some (Dt.int (if (4 : Int) < (ns.length : Int) then 4 else (ns.length : Int))) = _
      rw [if_pos (by omega)]
      rfl
  obtain ⟨env', c2, q2⟩ := laps3 (V := V) F nn (a0 := some (.dat (.scr ns))) (rangeW 0 (2 + m)) c1 [] 0 none none none none none none none none s1 (by
    have : (rangeW 0 (2 + m)).length = 2 + m := by simp [rangeW]
    omega)
  have tn : (2 + (m : Int)).toNat = 2 + m := by omega
  refine ⟨c2, fn_ev ?_⟩
  k_state0 [b_law_v42, start_cons, start_nil, repl_S, repl_0, q1, hlen, hm, tn, q2]
end DX
namespace DX
open PySem PySem.Spec PyProof.Rows L2
theorem mem_lk : ∀ {l : List (Str × Str)} {n c : Str}, List.lookup n l = some c → (n, c) ∈ l
  | [], _, _, h => by cases h
  | (m, d) :: l, n, c, h => by
    rw [List.lookup_cons] at h
    cases e : (n == m) with
    | true =>
      rw [e] at h
      cases h
      rw [eq_of_beq e]
      exact List.mem_cons_self
    | false =>
      rw [e] at h
      exact List.mem_cons_of_mem _ (mem_lk h)
theorem all_mk {q : Program} {l : PySem.W.OpenLaw} {w : World} {K : Frag} {h : Heap} {mg : MG} {fa : Addr} (X : K.In h) (G : h.Ns mainGlobals mg) (hfa : mg "law" = some (.ref fa))
    (hts : ∀ x c P d, (recsOf q).find? (fun e => e.name == x) = some d → PySem.W.tabIn K x = some (c, P) → PySem.W.CodeHd h c P ∧ h.get? P = some { cls := .none, data := .fields #[] })
    {f0 : Addr} {od0 an0 : Option Addr} {sl0 : Array (Option Value)} {oc0 kV0 dc0 pm0 cd0 ct0 : Value}
    {f1 : Addr} {od1 an1 : Option Addr} {sl1 : Array (Option Value)} {oc1 kV1 dc1 pm1 cd1 ct1 : Value}
    {f2 : Addr} {od2 an2 : Option Addr} {sl2 : Array (Option Value)} {oc2 kV2 dc2 pm2 cd2 ct2 : Value}
    {f3 : Addr} {od3 an3 : Option Addr} {sl3 : Array (Option Value)} {oc3 kV3 dc3 pm3 cd3 ct3 : Value}
    {f4 : Addr} {od4 an4 : Option Addr} {sl4 : Array (Option Value)} {oc4 kV4 dc4 pm4 cd4 ct4 : Value}
    {f5 : Addr} {od5 an5 : Option Addr} {sl5 : Array (Option Value)} {oc5 kV5 dc5 pm5 cd5 ct5 : Value}
    {f6 : Addr} {od6 an6 : Option Addr} {sl6 : Array (Option Value)} {oc6 kV6 dc6 pm6 cd6 ct6 : Value}
    {f7 : Addr} {od7 an7 : Option Addr} {sl7 : Array (Option Value)} {oc7 kV7 dc7 pm7 cd7 ct7 : Value}
    {f8 : Addr} {od8 an8 : Option Addr} {sl8 : Array (Option Value)} {oc8 kV8 dc8 pm8 cd8 ct8 : Value}
    {f9 : Addr} {od9 an9 : Option Addr} {sl9 : Array (Option Value)} {oc9 kV9 dc9 pm9 cd9 ct9 : Value}
    {f10 : Addr} {od10 an10 : Option Addr} {sl10 : Array (Option Value)} {oc10 kV10 dc10 pm10 cd10 ct10 : Value}
    {f11 : Addr} {od11 an11 : Option Addr} {sl11 : Array (Option Value)} {oc11 kV11 dc11 pm11 cd11 ct11 : Value}
    {f12 : Addr} {od12 an12 : Option Addr} {sl12 : Array (Option Value)} {oc12 kV12 dc12 pm12 cd12 ct12 : Value}
    {f13 : Addr} {od13 an13 : Option Addr} {sl13 : Array (Option Value)} {oc13 kV13 dc13 pm13 cd13 ct13 : Value}
    {f14 : Addr} {od14 an14 : Option Addr} {sl14 : Array (Option Value)} {oc14 kV14 dc14 pm14 cd14 ct14 : Value}
    {f15 : Addr} {od15 an15 : Option Addr} {sl15 : Array (Option Value)} {oc15 kV15 dc15 pm15 cd15 ct15 : Value}
    {f16 : Addr} {od16 an16 : Option Addr} {sl16 : Array (Option Value)} {oc16 kV16 dc16 pm16 cd16 ct16 : Value}
    {f17 : Addr} {od17 an17 : Option Addr} {sl17 : Array (Option Value)} {oc17 kV17 dc17 pm17 cd17 ct17 : Value}
    {f18 : Addr} {od18 an18 : Option Addr} {sl18 : Array (Option Value)} {oc18 kV18 dc18 pm18 cd18 ct18 : Value}
    {f19 : Addr} {od19 an19 : Option Addr} {sl19 : Array (Option Value)} {oc19 kV19 dc19 pm19 cd19 ct19 : Value}
    {f20 : Addr} {od20 an20 : Option Addr} {sl20 : Array (Option Value)} {oc20 kV20 dc20 pm20 cd20 ct20 : Value}
    {f21 : Addr} {od21 an21 : Option Addr} {sl21 : Array (Option Value)} {oc21 kV21 dc21 pm21 cd21 ct21 : Value}
    {f22 : Addr} {od22 an22 : Option Addr} {sl22 : Array (Option Value)} {oc22 kV22 dc22 pm22 cd22 ct22 : Value}
    {f23 : Addr} {od23 an23 : Option Addr} {sl23 : Array (Option Value)} {oc23 kV23 dc23 pm23 cd23 ct23 : Value}
    {f24 : Addr} {od24 an24 : Option Addr} {sl24 : Array (Option Value)} {oc24 kV24 dc24 pm24 cd24 ct24 : Value}
    {f25 : Addr} {od25 an25 : Option Addr} {sl25 : Array (Option Value)} {oc25 kV25 dc25 pm25 cd25 ct25 : Value}
    {f26 : Addr} {od26 an26 : Option Addr} {sl26 : Array (Option Value)} {oc26 kV26 dc26 pm26 cd26 ct26 : Value}
    {f27 : Addr} {od27 an27 : Option Addr} {sl27 : Array (Option Value)} {oc27 kV27 dc27 pm27 cd27 ct27 : Value}
    {f28 : Addr} {od28 an28 : Option Addr} {sl28 : Array (Option Value)} {oc28 kV28 dc28 pm28 cd28 ct28 : Value}
    {f29 : Addr} {od29 an29 : Option Addr} {sl29 : Array (Option Value)} {oc29 kV29 dc29 pm29 cd29 ct29 : Value}
    {f30 : Addr} {od30 an30 : Option Addr} {sl30 : Array (Option Value)} {oc30 kV30 dc30 pm30 cd30 ct30 : Value}
    {f31 : Addr} {od31 an31 : Option Addr} {sl31 : Array (Option Value)} {oc31 kV31 dc31 pm31 cd31 ct31 : Value}
    {f32 : Addr} {od32 an32 : Option Addr} {sl32 : Array (Option Value)} {oc32 kV32 dc32 pm32 cd32 ct32 : Value}
    {f33 : Addr} {od33 an33 : Option Addr} {sl33 : Array (Option Value)} {oc33 kV33 dc33 pm33 cd33 ct33 : Value}
    {f34 : Addr} {od34 an34 : Option Addr} {sl34 : Array (Option Value)} {oc34 kV34 dc34 pm34 cd34 ct34 : Value}
    {f35 : Addr} {od35 an35 : Option Addr} {sl35 : Array (Option Value)} {oc35 kV35 dc35 pm35 cd35 ct35 : Value}
    {f36 : Addr} {od36 an36 : Option Addr} {sl36 : Array (Option Value)} {oc36 kV36 dc36 pm36 cd36 ct36 : Value}
    {f37 : Addr} {od37 an37 : Option Addr} {sl37 : Array (Option Value)} {oc37 kV37 dc37 pm37 cd37 ct37 : Value}
    {f38 : Addr} {od38 an38 : Option Addr} {sl38 : Array (Option Value)} {oc38 kV38 dc38 pm38 cd38 ct38 : Value}
    {f39 : Addr} {od39 an39 : Option Addr} {sl39 : Array (Option Value)} {oc39 kV39 dc39 pm39 cd39 ct39 : Value}
    {f40 : Addr} {od40 an40 : Option Addr} {sl40 : Array (Option Value)} {oc40 kV40 dc40 pm40 cd40 ct40 : Value}
    {f41 : Addr} {od41 an41 : Option Addr} {sl41 : Array (Option Value)} {oc41 kV41 dc41 pm41 cd41 ct41 : Value}
    {f42 : Addr} {od42 an42 : Option Addr} {sl42 : Array (Option Value)} {oc42 kV42 dc42 pm42 cd42 ct42 : Value}
    {f43 : Addr} {od43 an43 : Option Addr} {sl43 : Array (Option Value)} {oc43 kV43 dc43 pm43 cd43 ct43 : Value}
    {f44 : Addr} {od44 an44 : Option Addr} {sl44 : Array (Option Value)} {oc44 kV44 dc44 pm44 cd44 ct44 : Value}
    {f45 : Addr} {od45 an45 : Option Addr} {sl45 : Array (Option Value)} {oc45 kV45 dc45 pm45 cd45 ct45 : Value}
    {f46 : Addr} {od46 an46 : Option Addr} {sl46 : Array (Option Value)} {oc46 kV46 dc46 pm46 cd46 ct46 : Value}
    {f47 : Addr} {od47 an47 : Option Addr} {sl47 : Array (Option Value)} {oc47 kV47 dc47 pm47 cd47 ct47 : Value}
    {f48 : Addr} {od48 an48 : Option Addr} {sl48 : Array (Option Value)} {oc48 kV48 dc48 pm48 cd48 ct48 : Value}
    {f49 : Addr} {od49 an49 : Option Addr} {sl49 : Array (Option Value)} {oc49 kV49 dc49 pm49 cd49 ct49 : Value}
    {f50 : Addr} {od50 an50 : Option Addr} {sl50 : Array (Option Value)} {oc50 kV50 dc50 pm50 cd50 ct50 : Value}
    {f51 : Addr} {od51 an51 : Option Addr} {sl51 : Array (Option Value)} {oc51 kV51 dc51 pm51 cd51 ct51 : Value}
    {f52 : Addr} {od52 an52 : Option Addr} {sl52 : Array (Option Value)} {oc52 kV52 dc52 pm52 cd52 ct52 : Value}
    {f53 : Addr} {od53 an53 : Option Addr} {sl53 : Array (Option Value)} {oc53 kV53 dc53 pm53 cd53 ct53 : Value}
    {f54 : Addr} {od54 an54 : Option Addr} {sl54 : Array (Option Value)} {oc54 kV54 dc54 pm54 cd54 ct54 : Value}
    {CTurnError : Addr}
    {CBadLength : Addr}
    {CBadWords : Addr}
    {CBadMove : Addr}
    {CBadMoves : Addr}
    {IBadMoves NBadMoves fcBadMoves fkBadMoves : Addr} {nmBadMoves qBadMoves ffBadMoves : Str} {bsBadMoves bmBadMoves suBadMoves : List Value} {snBadMoves : List Str} {abBadMoves : Bool} {coBadMoves : Option Bool} {ddBadMoves foBadMoves faBadMoves flBadMoves fdBadMoves : Option Addr} {k0BadMoves k1BadMoves k2BadMoves k3BadMoves k5BadMoves : Option Value} {ocBadMoves dcBadMoves pmBadMoves ctBadMoves clBadMoves ccBadMoves : Value} {fsBadMoves csBadMoves dsBadMoves : Array (Option Value)} {vsBadMoves : Array Value} {ftBadMoves : Tok}
    {tLETTERS : Tok}
    {tMOST_LENGTH : Tok}
    {tMOST_WORDS : Tok}
    {tA_FIGURES : Tok}
    {tMOST_LETTERS : Tok}
    {aSWAPPED : Addr} {esSWAPPED : Array DictEntry} {nSWAPPED : Nat} {tSWAPPED0 : Tok} {tSWAPPED1 : Tok} {tSWAPPED2 : Tok} {tSWAPPED3 : Tok}
    {tc49 tP49 : Addr} {td49 : DefRec}
    {tc54 tP54 : Addr} {td54 : DefRec}
    (a0 : PySem.W.nsIn K mainGlobals "_law_begun" = some (some (.ref f0)))
    (l0 : K.lookup f0 = some ⟨oc0, od0, .func (PySem.W.fnOf "_law_begun" "_law_begun" (defArgs s__law_begun) (defBody s__law_begun) (defScope s__law_begun) .none kV0 dc0 pm0 an0 cd0 ct0), sl0⟩)
    (c0 : PySem.W.codeIn K cd0 "_law_begun" = true)
    (k0 : PySem.W.keepIn K (.ref f0) = true)
    (a1 : PySem.W.nsIn K mainGlobals "_law_draw" = some (some (.ref f1)))
    (l1 : K.lookup f1 = some ⟨oc1, od1, .func (PySem.W.fnOf "_law_draw" "_law_draw" (defArgs s__law_draw) (defBody s__law_draw) (defScope s__law_draw) .none kV1 dc1 pm1 an1 cd1 ct1), sl1⟩)
    (c1 : PySem.W.codeIn K cd1 "_law_draw" = true)
    (k1 : PySem.W.keepIn K (.ref f1) = true)
    (a2 : PySem.W.nsIn K mainGlobals "_law_two" = some (some (.ref f2)))
    (l2 : K.lookup f2 = some ⟨oc2, od2, .func (PySem.W.fnOf "_law_two" "_law_two" (defArgs s__law_two) (defBody s__law_two) (defScope s__law_two) .none kV2 dc2 pm2 an2 cd2 ct2), sl2⟩)
    (c2 : PySem.W.codeIn K cd2 "_law_two" = true)
    (k2 : PySem.W.keepIn K (.ref f2) = true)
    (a3 : PySem.W.nsIn K mainGlobals "_law_row_of" = some (some (.ref f3)))
    (l3 : K.lookup f3 = some ⟨oc3, od3, .func (PySem.W.fnOf "_law_row_of" "_law_row_of" (defArgs s__law_row_of) (defBody s__law_row_of) (defScope s__law_row_of) .none kV3 dc3 pm3 an3 cd3 ct3), sl3⟩)
    (c3 : PySem.W.codeIn K cd3 "_law_row_of" = true)
    (k3 : PySem.W.keepIn K (.ref f3) = true)
    (a4 : PySem.W.nsIn K mainGlobals "_law_pick" = some (some (.ref f4)))
    (l4 : K.lookup f4 = some ⟨oc4, od4, .func (PySem.W.fnOf "_law_pick" "_law_pick" (defArgs s__law_pick) (defBody s__law_pick) (defScope s__law_pick) .none kV4 dc4 pm4 an4 cd4 ct4), sl4⟩)
    (c4 : PySem.W.codeIn K cd4 "_law_pick" = true)
    (k4 : PySem.W.keepIn K (.ref f4) = true)
    (a5 : PySem.W.nsIn K mainGlobals "_law_nothing" = some (some (.ref f5)))
    (l5 : K.lookup f5 = some ⟨oc5, od5, .func (PySem.W.fnOf "_law_nothing" "_law_nothing" (defArgs s__law_nothing) (defBody s__law_nothing) (defScope s__law_nothing) .none kV5 dc5 pm5 an5 cd5 ct5), sl5⟩)
    (c5 : PySem.W.codeIn K cd5 "_law_nothing" = true)
    (k5 : PySem.W.keepIn K (.ref f5) = true)
    (a6 : PySem.W.nsIn K mainGlobals "_law_word" = some (some (.ref f6)))
    (l6 : K.lookup f6 = some ⟨oc6, od6, .func (PySem.W.fnOf "_law_word" "_law_word" (defArgs s__law_word) (defBody s__law_word) (defScope s__law_word) .none kV6 dc6 pm6 an6 cd6 ct6), sl6⟩)
    (c6 : PySem.W.codeIn K cd6 "_law_word" = true)
    (k6 : PySem.W.keepIn K (.ref f6) = true)
    (a7 : PySem.W.nsIn K mainGlobals "_law_turner" = some (some (.ref f7)))
    (l7 : K.lookup f7 = some ⟨oc7, od7, .func (PySem.W.fnOf "_law_turner" "_law_turner" (defArgs s__law_turner) (defBody s__law_turner) (defScope s__law_turner) .none kV7 dc7 pm7 an7 cd7 ct7), sl7⟩)
    (c7 : PySem.W.codeIn K cd7 "_law_turner" = true)
    (k7 : PySem.W.keepIn K (.ref f7) = true)
    (a8 : PySem.W.nsIn K mainGlobals "_law_several" = some (some (.ref f8)))
    (l8 : K.lookup f8 = some ⟨oc8, od8, .func (PySem.W.fnOf "_law_several" "_law_several" (defArgs s__law_several) (defBody s__law_several) (defScope s__law_several) .none kV8 dc8 pm8 an8 cd8 ct8), sl8⟩)
    (c8 : PySem.W.codeIn K cd8 "_law_several" = true)
    (k8 : PySem.W.keepIn K (.ref f8) = true)
    (a9 : PySem.W.nsIn K mainGlobals "_law_caught" = some (some (.ref f9)))
    (l9 : K.lookup f9 = some ⟨oc9, od9, .func (PySem.W.fnOf "_law_caught" "_law_caught" (defArgs s__law_caught) (defBody s__law_caught) (defScope s__law_caught) .none kV9 dc9 pm9 an9 cd9 ct9), sl9⟩)
    (c9 : PySem.W.codeIn K cd9 "_law_caught" = true)
    (k9 : PySem.W.keepIn K (.ref f9) = true)
    (a10 : PySem.W.nsIn K mainGlobals "is_number" = some (some (.ref f10)))
    (l10 : K.lookup f10 = some ⟨oc10, od10, .func (PySem.W.fnOf "is_number" "is_number" (defArgs s_is_number) (defBody s_is_number) (defScope s_is_number) .none kV10 dc10 pm10 an10 cd10 ct10), sl10⟩)
    (c10 : PySem.W.codeIn K cd10 "is_number" = true)
    (k10 : PySem.W.keepIn K (.ref f10) = true)
    (a11 : PySem.W.nsIn K mainGlobals "is_between" = some (some (.ref f11)))
    (l11 : K.lookup f11 = some ⟨oc11, od11, .func (PySem.W.fnOf "is_between" "is_between" (defArgs s_is_between) (defBody s_is_between) (defScope s_is_between) .none kV11 dc11 pm11 an11 cd11 ct11), sl11⟩)
    (c11 : PySem.W.codeIn K cd11 "is_between" = true)
    (k11 : PySem.W.keepIn K (.ref f11) = true)
    (a12 : PySem.W.nsIn K mainGlobals "need_length" = some (some (.ref f12)))
    (l12 : K.lookup f12 = some ⟨oc12, od12, .func (PySem.W.fnOf "need_length" "need_length" (defArgs s_need_length) (defBody s_need_length) (defScope s_need_length) .none kV12 dc12 pm12 an12 cd12 ct12), sl12⟩)
    (c12 : PySem.W.codeIn K cd12 "need_length" = true)
    (k12 : PySem.W.keepIn K (.ref f12) = true)
    (a13 : PySem.W.nsIn K mainGlobals "is_letters" = some (some (.ref f13)))
    (l13 : K.lookup f13 = some ⟨oc13, od13, .func (PySem.W.fnOf "is_letters" "is_letters" (defArgs s_is_letters) (defBody s_is_letters) (defScope s_is_letters) .none kV13 dc13 pm13 an13 cd13 ct13), sl13⟩)
    (c13 : PySem.W.codeIn K cd13 "is_letters" = true)
    (k13 : PySem.W.keepIn K (.ref f13) = true)
    (a14 : PySem.W.nsIn K mainGlobals "is_move_of" = some (some (.ref f14)))
    (l14 : K.lookup f14 = some ⟨oc14, od14, .func (PySem.W.fnOf "is_move_of" "is_move_of" (defArgs s_is_move_of) (defBody s_is_move_of) (defScope s_is_move_of) .none kV14 dc14 pm14 an14 cd14 ct14), sl14⟩)
    (c14 : PySem.W.codeIn K cd14 "is_move_of" = true)
    (k14 : PySem.W.keepIn K (.ref f14) = true)
    (a15 : PySem.W.nsIn K mainGlobals "is_move" = some (some (.ref f15)))
    (l15 : K.lookup f15 = some ⟨oc15, od15, .func (PySem.W.fnOf "is_move" "is_move" (defArgs s_is_move) (defBody s_is_move) (defScope s_is_move) .none kV15 dc15 pm15 an15 cd15 ct15), sl15⟩)
    (c15 : PySem.W.codeIn K cd15 "is_move" = true)
    (k15 : PySem.W.keepIn K (.ref f15) = true)
    (a16 : PySem.W.nsIn K mainGlobals "_law_a_move" = some (some (.ref f16)))
    (l16 : K.lookup f16 = some ⟨oc16, od16, .func (PySem.W.fnOf "_law_a_move" "_law_a_move" (defArgs s__law_a_move) (defBody s__law_a_move) (defScope s__law_a_move) .none kV16 dc16 pm16 an16 cd16 ct16), sl16⟩)
    (c16 : PySem.W.codeIn K cd16 "_law_a_move" = true)
    (k16 : PySem.W.keepIn K (.ref f16) = true)
    (a17 : PySem.W.nsIn K mainGlobals "_law_some_moves" = some (some (.ref f17)))
    (l17 : K.lookup f17 = some ⟨oc17, od17, .func (PySem.W.fnOf "_law_some_moves" "_law_some_moves" (defArgs s__law_some_moves) (defBody s__law_some_moves) (defScope s__law_some_moves) .none kV17 dc17 pm17 an17 cd17 ct17), sl17⟩)
    (c17 : PySem.W.codeIn K cd17 "_law_some_moves" = true)
    (k17 : PySem.W.keepIn K (.ref f17) = true)
    (a18 : PySem.W.nsIn K mainGlobals "_law_is_whole" = some (some (.ref f18)))
    (l18 : K.lookup f18 = some ⟨oc18, od18, .func (PySem.W.fnOf "_law_is_whole" "_law_is_whole" (defArgs s__law_is_whole) (defBody s__law_is_whole) (defScope s__law_is_whole) .none kV18 dc18 pm18 an18 cd18 ct18), sl18⟩)
    (c18 : PySem.W.codeIn K cd18 "_law_is_whole" = true)
    (k18 : PySem.W.keepIn K (.ref f18) = true)
    (a19 : PySem.W.nsIn K mainGlobals "_law_is_below" = some (some (.ref f19)))
    (l19 : K.lookup f19 = some ⟨oc19, od19, .func (PySem.W.fnOf "_law_is_below" "_law_is_below" (defArgs s__law_is_below) (defBody s__law_is_below) (defScope s__law_is_below) .none kV19 dc19 pm19 an19 cd19 ct19), sl19⟩)
    (c19 : PySem.W.codeIn K cd19 "_law_is_below" = true)
    (k19 : PySem.W.keepIn K (.ref f19) = true)
    (a20 : PySem.W.nsIn K mainGlobals "_law_is_letters" = some (some (.ref f20)))
    (l20 : K.lookup f20 = some ⟨oc20, od20, .func (PySem.W.fnOf "_law_is_letters" "_law_is_letters" (defArgs s__law_is_letters) (defBody s__law_is_letters) (defScope s__law_is_letters) .none kV20 dc20 pm20 an20 cd20 ct20), sl20⟩)
    (c20 : PySem.W.codeIn K cd20 "_law_is_letters" = true)
    (k20 : PySem.W.keepIn K (.ref f20) = true)
    (a21 : PySem.W.nsIn K mainGlobals "_law_is_move" = some (some (.ref f21)))
    (l21 : K.lookup f21 = some ⟨oc21, od21, .func (PySem.W.fnOf "_law_is_move" "_law_is_move" (defArgs s__law_is_move) (defBody s__law_is_move) (defScope s__law_is_move) .none kV21 dc21 pm21 an21 cd21 ct21), sl21⟩)
    (c21 : PySem.W.codeIn K cd21 "_law_is_move" = true)
    (k21 : PySem.W.keepIn K (.ref f21) = true)
    (a22 : PySem.W.nsIn K mainGlobals "_law_bad_word" = some (some (.ref f22)))
    (l22 : K.lookup f22 = some ⟨oc22, od22, .func (PySem.W.fnOf "_law_bad_word" "_law_bad_word" (defArgs s__law_bad_word) (defBody s__law_bad_word) (defScope s__law_bad_word) .none kV22 dc22 pm22 an22 cd22 ct22), sl22⟩)
    (c22 : PySem.W.codeIn K cd22 "_law_bad_word" = true)
    (k22 : PySem.W.keepIn K (.ref f22) = true)
    (a23 : PySem.W.nsIn K mainGlobals "_law_bad_words" = some (some (.ref f23)))
    (l23 : K.lookup f23 = some ⟨oc23, od23, .func (PySem.W.fnOf "_law_bad_words" "_law_bad_words" (defArgs s__law_bad_words) (defBody s__law_bad_words) (defScope s__law_bad_words) .none kV23 dc23 pm23 an23 cd23 ct23), sl23⟩)
    (c23 : PySem.W.codeIn K cd23 "_law_bad_words" = true)
    (k23 : PySem.W.keepIn K (.ref f23) = true)
    (a24 : PySem.W.nsIn K mainGlobals "_law_says" = some (some (.ref f24)))
    (l24 : K.lookup f24 = some ⟨oc24, od24, .func (PySem.W.fnOf "_law_says" "_law_says" (defArgs s__law_says) (defBody s__law_says) (defScope s__law_says) .none kV24 dc24 pm24 an24 cd24 ct24), sl24⟩)
    (c24 : PySem.W.codeIn K cd24 "_law_says" = true)
    (k24 : PySem.W.keepIn K (.ref f24) = true)
    (a25 : PySem.W.nsIn K mainGlobals "is_row" = some (some (.ref f25)))
    (l25 : K.lookup f25 = some ⟨oc25, od25, .func (PySem.W.fnOf "is_row" "is_row" (defArgs s_is_row) (defBody s_is_row) (defScope s_is_row) .none kV25 dc25 pm25 an25 cd25 ct25), sl25⟩)
    (c25 : PySem.W.codeIn K cd25 "is_row" = true)
    (k25 : PySem.W.keepIn K (.ref f25) = true)
    (a26 : PySem.W.nsIn K mainGlobals "is_sign" = some (some (.ref f26)))
    (l26 : K.lookup f26 = some ⟨oc26, od26, .func (PySem.W.fnOf "is_sign" "is_sign" (defArgs s_is_sign) (defBody s_is_sign) (defScope s_is_sign) .none kV26 dc26 pm26 an26 cd26 ct26), sl26⟩)
    (c26 : PySem.W.codeIn K cd26 "is_sign" = true)
    (k26 : PySem.W.keepIn K (.ref f26) = true)
    (a27 : PySem.W.nsIn K mainGlobals "is_word" = some (some (.ref f27)))
    (l27 : K.lookup f27 = some ⟨oc27, od27, .func (PySem.W.fnOf "is_word" "is_word" (defArgs s_is_word) (defBody s_is_word) (defScope s_is_word) .none kV27 dc27 pm27 an27 cd27 ct27), sl27⟩)
    (c27 : PySem.W.codeIn K cd27 "is_word" = true)
    (k27 : PySem.W.keepIn K (.ref f27) = true)
    (a28 : PySem.W.nsIn K mainGlobals "need_words" = some (some (.ref f28)))
    (l28 : K.lookup f28 = some ⟨oc28, od28, .func (PySem.W.fnOf "need_words" "need_words" (defArgs s_need_words) (defBody s_need_words) (defScope s_need_words) .none kV28 dc28 pm28 an28 cd28 ct28), sl28⟩)
    (c28 : PySem.W.codeIn K cd28 "need_words" = true)
    (k28 : PySem.W.keepIn K (.ref f28) = true)
    (a29 : PySem.W.nsIn K mainGlobals "is_odd" = some (some (.ref f29)))
    (l29 : K.lookup f29 = some ⟨oc29, od29, .func (PySem.W.fnOf "is_odd" "is_odd" (defArgs s_is_odd) (defBody s_is_odd) (defScope s_is_odd) .none kV29 dc29 pm29 an29 cd29 ct29), sl29⟩)
    (c29 : PySem.W.codeIn K cd29 "is_odd" = true)
    (k29 : PySem.W.keepIn K (.ref f29) = true)
    (a30 : PySem.W.nsIn K mainGlobals "is_crossed" = some (some (.ref f30)))
    (l30 : K.lookup f30 = some ⟨oc30, od30, .func (PySem.W.fnOf "is_crossed" "is_crossed" (defArgs s_is_crossed) (defBody s_is_crossed) (defScope s_is_crossed) .none kV30 dc30 pm30 an30 cd30 ct30), sl30⟩)
    (c30 : PySem.W.codeIn K cd30 "is_crossed" = true)
    (k30 : PySem.W.keepIn K (.ref f30) = true)
    (a31 : PySem.W.nsIn K mainGlobals "is_past" = some (some (.ref f31)))
    (l31 : K.lookup f31 = some ⟨oc31, od31, .func (PySem.W.fnOf "is_past" "is_past" (defArgs s_is_past) (defBody s_is_past) (defScope s_is_past) .none kV31 dc31 pm31 an31 cd31 ct31), sl31⟩)
    (c31 : PySem.W.codeIn K cd31 "is_past" = true)
    (k31 : PySem.W.keepIn K (.ref f31) = true)
    (a32 : PySem.W.nsIn K mainGlobals "code_of" = some (some (.ref f32)))
    (l32 : K.lookup f32 = some ⟨oc32, od32, .func (PySem.W.fnOf "code_of" "code_of" (defArgs s_code_of) (defBody s_code_of) (defScope s_code_of) .none kV32 dc32 pm32 an32 cd32 ct32), sl32⟩)
    (c32 : PySem.W.codeIn K cd32 "code_of" = true)
    (k32 : PySem.W.keepIn K (.ref f32) = true)
    (a33 : PySem.W.nsIn K mainGlobals "past_of" = some (some (.ref f33)))
    (l33 : K.lookup f33 = some ⟨oc33, od33, .func (PySem.W.fnOf "past_of" "past_of" (defArgs s_past_of) (defBody s_past_of) (defScope s_past_of) .none kV33 dc33 pm33 an33 cd33 ct33), sl33⟩)
    (c33 : PySem.W.codeIn K cd33 "past_of" = true)
    (k33 : PySem.W.keepIn K (.ref f33) = true)
    (a34 : PySem.W.nsIn K mainGlobals "turned" = some (some (.ref f34)))
    (l34 : K.lookup f34 = some ⟨oc34, od34, .func (PySem.W.fnOf "turned" "turned" (defArgs s_turned) (defBody s_turned) (defScope s_turned) .none kV34 dc34 pm34 an34 cd34 ct34), sl34⟩)
    (c34 : PySem.W.codeIn K cd34 "turned" = true)
    (k34 : PySem.W.keepIn K (.ref f34) = true)
    (a35 : PySem.W.nsIn K mainGlobals "with_letter" = some (some (.ref f35)))
    (l35 : K.lookup f35 = some ⟨oc35, od35, .func (PySem.W.fnOf "with_letter" "with_letter" (defArgs s_with_letter) (defBody s_with_letter) (defScope s_with_letter) .none kV35 dc35 pm35 an35 cd35 ct35), sl35⟩)
    (c35 : PySem.W.codeIn K cd35 "with_letter" = true)
    (k35 : PySem.W.keepIn K (.ref f35) = true)
    (a36 : PySem.W.nsIn K mainGlobals "letter_swapped" = some (some (.ref f36)))
    (l36 : K.lookup f36 = some ⟨oc36, od36, .func (PySem.W.fnOf "letter_swapped" "letter_swapped" (defArgs s_letter_swapped) (defBody s_letter_swapped) (defScope s_letter_swapped) .none kV36 dc36 pm36 an36 cd36 ct36), sl36⟩)
    (c36 : PySem.W.codeIn K cd36 "letter_swapped" = true)
    (k36 : PySem.W.keepIn K (.ref f36) = true)
    (a37 : PySem.W.nsIn K mainGlobals "traded" = some (some (.ref f37)))
    (l37 : K.lookup f37 = some ⟨oc37, od37, .func (PySem.W.fnOf "traded" "traded" (defArgs s_traded) (defBody s_traded) (defScope s_traded) .none kV37 dc37 pm37 an37 cd37 ct37), sl37⟩)
    (c37 : PySem.W.codeIn K cd37 "traded" = true)
    (k37 : PySem.W.keepIn K (.ref f37) = true)
    (a38 : PySem.W.nsIn K mainGlobals "letters_of" = some (some (.ref f38)))
    (l38 : K.lookup f38 = some ⟨oc38, od38, .func (PySem.W.fnOf "letters_of" "letters_of" (defArgs s_letters_of) (defBody s_letters_of) (defScope s_letters_of) .none kV38 dc38 pm38 an38 cd38 ct38), sl38⟩)
    (c38 : PySem.W.codeIn K cd38 "letters_of" = true)
    (k38 : PySem.W.keepIn K (.ref f38) = true)
    (a39 : PySem.W.nsIn K mainGlobals "put_of" = some (some (.ref f39)))
    (l39 : K.lookup f39 = some ⟨oc39, od39, .func (PySem.W.fnOf "put_of" "put_of" (defArgs s_put_of) (defBody s_put_of) (defScope s_put_of) .none kV39 dc39 pm39 an39 cd39 ct39), sl39⟩)
    (c39 : PySem.W.codeIn K cd39 "put_of" = true)
    (k39 : PySem.W.keepIn K (.ref f39) = true)
    (a40 : PySem.W.nsIn K mainGlobals "sign_and_letter" = some (some (.ref f40)))
    (l40 : K.lookup f40 = some ⟨oc40, od40, .func (PySem.W.fnOf "sign_and_letter" "sign_and_letter" (defArgs s_sign_and_letter) (defBody s_sign_and_letter) (defScope s_sign_and_letter) .none kV40 dc40 pm40 an40 cd40 ct40), sl40⟩)
    (c40 : PySem.W.codeIn K cd40 "sign_and_letter" = true)
    (k40 : PySem.W.keepIn K (.ref f40) = true)
    (a41 : PySem.W.nsIn K mainGlobals "leaned" = some (some (.ref f41)))
    (l41 : K.lookup f41 = some ⟨oc41, od41, .func (PySem.W.fnOf "leaned" "leaned" (defArgs s_leaned) (defBody s_leaned) (defScope s_leaned) .none kV41 dc41 pm41 an41 cd41 ct41), sl41⟩)
    (c41 : PySem.W.codeIn K cd41 "leaned" = true)
    (k41 : PySem.W.keepIn K (.ref f41) = true)
    (a42 : PySem.W.nsIn K mainGlobals "moved_word" = some (some (.ref f42)))
    (l42 : K.lookup f42 = some ⟨oc42, od42, .func (PySem.W.fnOf "moved_word" "moved_word" (defArgs s_moved_word) (defBody s_moved_word) (defScope s_moved_word) .none kV42 dc42 pm42 an42 cd42 ct42), sl42⟩)
    (c42 : PySem.W.codeIn K cd42 "moved_word" = true)
    (k42 : PySem.W.keepIn K (.ref f42) = true)
    (a43 : PySem.W.nsIn K mainGlobals "led_of" = some (some (.ref f43)))
    (l43 : K.lookup f43 = some ⟨oc43, od43, .func (PySem.W.fnOf "led_of" "led_of" (defArgs s_led_of) (defBody s_led_of) (defScope s_led_of) .none kV43 dc43 pm43 an43 cd43 ct43), sl43⟩)
    (c43 : PySem.W.codeIn K cd43 "led_of" = true)
    (k43 : PySem.W.keepIn K (.ref f43) = true)
    (a44 : PySem.W.nsIn K mainGlobals "moved" = some (some (.ref f44)))
    (l44 : K.lookup f44 = some ⟨oc44, od44, .func (PySem.W.fnOf "moved" "moved" (defArgs s_moved) (defBody s_moved) (defScope s_moved) .none kV44 dc44 pm44 an44 cd44 ct44), sl44⟩)
    (c44 : PySem.W.codeIn K cd44 "moved" = true)
    (k44 : PySem.W.keepIn K (.ref f44) = true)
    (a45 : PySem.W.nsIn K mainGlobals "need_moves" = some (some (.ref f45)))
    (l45 : K.lookup f45 = some ⟨oc45, od45, .func (PySem.W.fnOf "need_moves" "need_moves" (defArgs s_need_moves) (defBody s_need_moves) (defScope s_need_moves) .none kV45 dc45 pm45 an45 cd45 ct45), sl45⟩)
    (c45 : PySem.W.codeIn K cd45 "need_moves" = true)
    (k45 : PySem.W.keepIn K (.ref f45) = true)
    (a46 : PySem.W.nsIn K mainGlobals "led" = some (some (.ref f46)))
    (l46 : K.lookup f46 = some ⟨oc46, od46, .func (PySem.W.fnOf "led" "led" (defArgs s_led) (defBody s_led) (defScope s_led) .none kV46 dc46 pm46 an46 cd46 ct46), sl46⟩)
    (c46 : PySem.W.codeIn K cd46 "led" = true)
    (k46 : PySem.W.keepIn K (.ref f46) = true)
    (a47 : PySem.W.nsIn K mainGlobals "plain_of" = some (some (.ref f47)))
    (l47 : K.lookup f47 = some ⟨oc47, od47, .func (PySem.W.fnOf "plain_of" "plain_of" (defArgs s_plain_of) (defBody s_plain_of) (defScope s_plain_of) .none kV47 dc47 pm47 an47 cd47 ct47), sl47⟩)
    (c47 : PySem.W.codeIn K cd47 "plain_of" = true)
    (k47 : PySem.W.keepIn K (.ref f47) = true)
    (a48 : PySem.W.nsIn K mainGlobals "frame_of" = some (some (.ref f48)))
    (l48 : K.lookup f48 = some ⟨oc48, od48, .func (PySem.W.fnOf "frame_of" "frame_of" (defArgs s_frame_of) (defBody s_frame_of) (defScope s_frame_of) .none kV48 dc48 pm48 an48 cd48 ct48), sl48⟩)
    (c48 : PySem.W.codeIn K cd48 "frame_of" = true)
    (k48 : PySem.W.keepIn K (.ref f48) = true)
    (a49 : PySem.W.nsIn K mainGlobals "_law_refusals" = some (some (.ref f49)))
    (l49 : K.lookup f49 = some ⟨oc49, od49, .func (PySem.W.fnOf "_law_refusals" "_law_refusals" (defArgs s__law_refusals) (defBody s__law_refusals) (defScope s__law_refusals) .none kV49 dc49 pm49 an49 cd49 ct49), sl49⟩)
    (c49 : PySem.W.codeIn K cd49 "_law_refusals" = true)
    (k49 : PySem.W.keepIn K (.ref f49) = true)
    (a50 : PySem.W.nsIn K mainGlobals "_law_put" = some (some (.ref f50)))
    (l50 : K.lookup f50 = some ⟨oc50, od50, .func (PySem.W.fnOf "_law_put" "_law_put" (defArgs s__law_put) (defBody s__law_put) (defScope s__law_put) .none kV50 dc50 pm50 an50 cd50 ct50), sl50⟩)
    (c50 : PySem.W.codeIn K cd50 "_law_put" = true)
    (k50 : PySem.W.keepIn K (.ref f50) = true)
    (a51 : PySem.W.nsIn K mainGlobals "_law_bad_number" = some (some (.ref f51)))
    (l51 : K.lookup f51 = some ⟨oc51, od51, .func (PySem.W.fnOf "_law_bad_number" "_law_bad_number" (defArgs s__law_bad_number) (defBody s__law_bad_number) (defScope s__law_bad_number) .none kV51 dc51 pm51 an51 cd51 ct51), sl51⟩)
    (c51 : PySem.W.codeIn K cd51 "_law_bad_number" = true)
    (k51 : PySem.W.keepIn K (.ref f51) = true)
    (a52 : PySem.W.nsIn K mainGlobals "_law_lettered" = some (some (.ref f52)))
    (l52 : K.lookup f52 = some ⟨oc52, od52, .func (PySem.W.fnOf "_law_lettered" "_law_lettered" (defArgs s__law_lettered) (defBody s__law_lettered) (defScope s__law_lettered) .none kV52 dc52 pm52 an52 cd52 ct52), sl52⟩)
    (c52 : PySem.W.codeIn K cd52 "_law_lettered" = true)
    (k52 : PySem.W.keepIn K (.ref f52) = true)
    (a53 : PySem.W.nsIn K mainGlobals "_law_odd_move" = some (some (.ref f53)))
    (l53 : K.lookup f53 = some ⟨oc53, od53, .func (PySem.W.fnOf "_law_odd_move" "_law_odd_move" (defArgs s__law_odd_move) (defBody s__law_odd_move) (defScope s__law_odd_move) .none kV53 dc53 pm53 an53 cd53 ct53), sl53⟩)
    (c53 : PySem.W.codeIn K cd53 "_law_odd_move" = true)
    (k53 : PySem.W.keepIn K (.ref f53) = true)
    (a54 : PySem.W.nsIn K mainGlobals "law" = some (some (.ref f54)))
    (l54 : K.lookup f54 = some ⟨oc54, od54, .func (PySem.W.fnOf "law" "law" (defArgs s_law) (defBody s_law) (defScope s_law) .none kV54 dc54 pm54 an54 cd54 ct54), sl54⟩)
    (c54 : PySem.W.codeIn K cd54 "law" = true)
    (k54 : PySem.W.keepIn K (.ref f54) = true)
    (oN : PySem.W.specialIn K (.builtin "object.__class__") "__get__" = some (some (.builtin "getset_descriptor.__get__")))
    (oT : PySem.W.takesIn K (.builtin "object.__class__") = some true)
    (zop : PySem.W.nsIn K cStatics "thirdparty.any" = some none)
    (zsu : PySem.W.nsIn K mainGlobals "super" = some none)
    (ztop : (l.prog.main.scope.names.lookup ("super" : Str)).isSome = false)
    (x1TurnError : PySem.W.nsIn K mainGlobals "TurnError" = some (some (.ref CTurnError)))
    (x2TurnError : PySem.W.excIn K CTurnError [.type "ValueError", .type "Exception", .type "BaseException", .type "object"] "ValueError.__new__" = true)
    (x3TurnError : PySem.W.keepIn K (.ref CTurnError) = true)
    (x4TurnError : PySem.W.subIn K (.ref CTurnError) (.type "BaseException") = some true)
    (x5TurnError : PySem.W.typeIn K (.ref CTurnError) = some (.type "type"))
    (x6TurnError : PySem.W.findIn K (.ref CTurnError) "__getattribute__" = some (some (.builtin "BaseException.__getattribute__")))
    (x7TurnError : PySem.W.findIn K (.ref CTurnError) "__getattr__" = some none)
    (x8TurnError : PySem.W.hasDictIn K CTurnError = true)
    (x9TurnError : PySem.W.findIn K (.ref CTurnError) "__class__" = some (some (.builtin "object.__class__")))
    (xaTurnError : PySem.W.mroIn K CTurnError (.type "object") = some true)
    (x1BadLength : PySem.W.nsIn K mainGlobals "BadLength" = some (some (.ref CBadLength)))
    (x2BadLength : PySem.W.excIn K CBadLength [.type "ValueError", .type "Exception", .type "BaseException", .type "object"] "ValueError.__new__" = true)
    (x3BadLength : PySem.W.keepIn K (.ref CBadLength) = true)
    (x4BadLength : PySem.W.subIn K (.ref CBadLength) (.type "BaseException") = some true)
    (x5BadLength : PySem.W.typeIn K (.ref CBadLength) = some (.type "type"))
    (x6BadLength : PySem.W.findIn K (.ref CBadLength) "__getattribute__" = some (some (.builtin "BaseException.__getattribute__")))
    (x7BadLength : PySem.W.findIn K (.ref CBadLength) "__getattr__" = some none)
    (x8BadLength : PySem.W.hasDictIn K CBadLength = true)
    (x9BadLength : PySem.W.findIn K (.ref CBadLength) "__class__" = some (some (.builtin "object.__class__")))
    (xaBadLength : PySem.W.mroIn K CBadLength (.type "object") = some true)
    (x1BadWords : PySem.W.nsIn K mainGlobals "BadWords" = some (some (.ref CBadWords)))
    (x2BadWords : PySem.W.excIn K CBadWords [.type "ValueError", .type "Exception", .type "BaseException", .type "object"] "ValueError.__new__" = true)
    (x3BadWords : PySem.W.keepIn K (.ref CBadWords) = true)
    (x4BadWords : PySem.W.subIn K (.ref CBadWords) (.type "BaseException") = some true)
    (x5BadWords : PySem.W.typeIn K (.ref CBadWords) = some (.type "type"))
    (x6BadWords : PySem.W.findIn K (.ref CBadWords) "__getattribute__" = some (some (.builtin "BaseException.__getattribute__")))
    (x7BadWords : PySem.W.findIn K (.ref CBadWords) "__getattr__" = some none)
    (x8BadWords : PySem.W.hasDictIn K CBadWords = true)
    (x9BadWords : PySem.W.findIn K (.ref CBadWords) "__class__" = some (some (.builtin "object.__class__")))
    (xaBadWords : PySem.W.mroIn K CBadWords (.type "object") = some true)
    (x1BadMove : PySem.W.nsIn K mainGlobals "BadMove" = some (some (.ref CBadMove)))
    (x2BadMove : PySem.W.excIn K CBadMove [.type "ValueError", .type "Exception", .type "BaseException", .type "object"] "ValueError.__new__" = true)
    (x3BadMove : PySem.W.keepIn K (.ref CBadMove) = true)
    (x4BadMove : PySem.W.subIn K (.ref CBadMove) (.type "BaseException") = some true)
    (x5BadMove : PySem.W.typeIn K (.ref CBadMove) = some (.type "type"))
    (x6BadMove : PySem.W.findIn K (.ref CBadMove) "__getattribute__" = some (some (.builtin "BaseException.__getattribute__")))
    (x7BadMove : PySem.W.findIn K (.ref CBadMove) "__getattr__" = some none)
    (x8BadMove : PySem.W.hasDictIn K CBadMove = true)
    (x9BadMove : PySem.W.findIn K (.ref CBadMove) "__class__" = some (some (.builtin "object.__class__")))
    (xaBadMove : PySem.W.mroIn K CBadMove (.type "object") = some true)
    (x1BadMoves : PySem.W.nsIn K mainGlobals "BadMoves" = some (some (.ref CBadMoves)))
    (x3BadMoves : PySem.W.keepIn K (.ref CBadMoves) = true)
    (x4BadMoves : PySem.W.subIn K (.ref CBadMoves) (.type "BaseException") = some true)
    (x5BadMoves : PySem.W.typeIn K (.ref CBadMoves) = some (.type "type"))
    (x6BadMoves : PySem.W.findIn K (.ref CBadMoves) "__getattribute__" = some (some (.builtin "BaseException.__getattribute__")))
    (x7BadMoves : PySem.W.findIn K (.ref CBadMoves) "__getattr__" = some none)
    (x8BadMoves : PySem.W.hasDictIn K CBadMoves = true)
    (x9BadMoves : PySem.W.findIn K (.ref CBadMoves) "__class__" = some (some (.builtin "object.__class__")))
    (xaBadMoves : PySem.W.mroIn K CBadMoves (.type "object") = some true)
    (zaBadMoves : K.lookup CBadMoves = some (excClassObj nmBadMoves qBadMoves CBadMoves NBadMoves bsBadMoves bmBadMoves true snBadMoves suBadMoves abBadMoves coBadMoves ddBadMoves k0BadMoves k1BadMoves k2BadMoves k3BadMoves k5BadMoves "ValueError.__new__"))
    (zbBadMoves : PySem.HandSPX.refsVE bmBadMoves = true)
    (zcBadMoves : PySem.W.findIn K (.ref CBadMoves) "__setattr__" = some (some (.builtin "object.__setattr__")))
    (zdBadMoves : PySem.W.findIn K (.ref CBadMoves) "at" = some none)
    (zeBadMoves : PySem.W.findIn K (.ref CBadMoves) "__init__" = some (some (.ref IBadMoves)))
    (zfBadMoves : PySem.W.typeIn K (.ref IBadMoves) = some (.type "function"))
    (zgBadMoves : PySem.W.mroIn K CBadMoves (.ref CBadMoves) = some true)
    (zhBadMoves : PySem.W.subIn K (.ref CBadMoves) (.type "ValueError") = some true)
    (ziBadMoves : PySem.W.ks_superIn K CBadMoves CBadMoves "__init__" = some (some (.builtin "ValueError.__init__")))
    (zjBadMoves : K.lookup IBadMoves = some ⟨ocBadMoves, foBadMoves, .func (PySem.W.ksFn "__init__" "BadMoves.__init__" (defArgs (inClass (topS 9) 0)) (defBody (inClass (topS 9) 0)) (defScope (inClass (topS 9) 0)) .none .none dcBadMoves pmBadMoves faBadMoves (.ref fcBadMoves) ctBadMoves fkBadMoves), fsBadMoves⟩)
    (zkBadMoves : PySem.W.codeIn K (.ref fcBadMoves) "BadMoves.__init__" = true)
    (zlBadMoves : K.lookup fcBadMoves = some ⟨ccBadMoves, fdBadMoves, .fields vsBadMoves, csBadMoves⟩)
    (zmBadMoves : vsBadMoves[2]? = some (.str ffBadMoves ftBadMoves))
    (znBadMoves : ((l.prog.main.file : Str) == ffBadMoves) = true)
    (zoBadMoves : K.lookup fkBadMoves = some ⟨clBadMoves, flBadMoves, .cell (some (.ref CBadMoves)), dsBadMoves⟩)
    (gLETTERS : PySem.W.nsIn K mainGlobals "LETTERS" = some (some (.str "1abc" tLETTERS)))
    (gMOST_LENGTH : PySem.W.nsIn K mainGlobals "MOST_LENGTH" = some (some (.int 12 tMOST_LENGTH)))
    (gMOST_WORDS : PySem.W.nsIn K mainGlobals "MOST_WORDS" = some (some (.int 15 tMOST_WORDS)))
    (gA_FIGURES : PySem.W.nsIn K mainGlobals "A_FIGURES" = some (some (.int 5592405 tA_FIGURES)))
    (gMOST_LETTERS : PySem.W.nsIn K mainGlobals "MOST_LETTERS" = some (some (.int 12 tMOST_LETTERS)))
    (kd0SWAPPED : PySem.W.nsIn K mainGlobals "SWAPPED" = some (some (.ref aSWAPPED)))
    (kd1SWAPPED : K.lookup aSWAPPED = some ⟨.type "dict", none, .dict esSWAPPED nSWAPPED, #[]⟩)
    (kd2SWAPPED : PySem.W.KeysLit w.params esSWAPPED.toList)
    (kd3SWAPPED0 : PySem.W.nsIn K aSWAPPED "1" = some (some (.str "1" tSWAPPED0)))
    (kd3SWAPPED1 : PySem.W.nsIn K aSWAPPED "a" = some (some (.str "b" tSWAPPED1)))
    (kd3SWAPPED2 : PySem.W.nsIn K aSWAPPED "b" = some (some (.str "a" tSWAPPED2)))
    (kd3SWAPPED3 : PySem.W.nsIn K aSWAPPED "c" = some (some (.str "c" tSWAPPED3)))
    (zabs : PySem.W.nsIn K mainGlobals "abs" = some none)
    (zall : PySem.W.nsIn K mainGlobals "all" = some none)
    (zany : PySem.W.nsIn K mainGlobals "any" = some none)
    (zbool : PySem.W.nsIn K mainGlobals "bool" = some none)
    (zenumerate : PySem.W.nsIn K mainGlobals "enumerate" = some none)
    (zint : PySem.W.nsIn K mainGlobals "int" = some none)
    (zisinstance : PySem.W.nsIn K mainGlobals "isinstance" = some none)
    (zlen : PySem.W.nsIn K mainGlobals "len" = some none)
    (zlist : PySem.W.nsIn K mainGlobals "list" = some none)
    (zmax : PySem.W.nsIn K mainGlobals "max" = some none)
    (zmin : PySem.W.nsIn K mainGlobals "min" = some none)
    (zrange : PySem.W.nsIn K mainGlobals "range" = some none)
    (zrepr : PySem.W.nsIn K mainGlobals "repr" = some none)
    (zstr : PySem.W.nsIn K mainGlobals "str" = some none)
    (zsum : PySem.W.nsIn K mainGlobals "sum" = some none)
    (ztuple : PySem.W.nsIn K mainGlobals "tuple" = some none)
    (zzip : PySem.W.nsIn K mainGlobals "zip" = some none)
    (tb49 : PySem.W.tabIn K "_law_refusals" = some (tc49, tP49))
    (tr49 : (recsOf q).find? (fun e => e.name == ("_law_refusals" : Str)) = some td49)
    (te49 : cd49 = .ref tc49)
    (tb54 : PySem.W.tabIn K "law" = some (tc54, tP54))
    (tr54 : (recsOf q).find? (fun e => e.name == ("law" : Str)) = some td54)
    (te54 : cd54 = .ref tc54)
    (pn49_54 : (tP49 == tP54) = false)
    (nt : PySem.W.noTabs K = true)
    (yBadLength : PySem.W.subIn K (.ref CBadLength) (.ref CTurnError) = some true)
    (yBadWords : PySem.W.subIn K (.ref CBadWords) (.ref CTurnError) = some true)
    (yBadMove : PySem.W.subIn K (.ref CBadMove) (.ref CTurnError) = some true)
    (yBadMoves : PySem.W.subIn K (.ref CBadMoves) (.ref CTurnError) = some true)
    (iBadWordsBadWords : PySem.W.kitOne K (.ref CBadWords) (.ref CBadWords) = some true)
    (iBadMoveBadMove : PySem.W.kitOne K (.ref CBadMove) (.ref CBadMove) = some true)
    (iBadMovesBadMoves : PySem.W.kitOne K (.ref CBadMoves) (.ref CBadMoves) = some true)
    (iBadLengthBadLength : PySem.W.kitOne K (.ref CBadLength) (.ref CBadLength) = some true)
    (iBadMovesBadLength : PySem.W.kitOne K (.ref CBadMoves) (.ref CBadLength) = some false) : LawG l w K 14 63 "_law_script" mg fa h := by
  have e := hfa.symm.trans (PySem.W.mg_of X G a54)
  cases e
  let T : Top K mg w l.prog := { f__law_begun := f0, d__law_begun := _, F__law_begun := fun_mk (st := s__law_begun) l0 c0 k0, m__law_begun := PySem.W.mg_of X G a0, b__law_begun := (fun_mk (st := s__law_begun) l0 c0 k0).binds (ps := ["_law_script"]) (fun _ _ _ _ _ _ us hl => match us, hl with | [_], _ => rfl), f__law_draw := f1, d__law_draw := _, F__law_draw := fun_mk (st := s__law_draw) l1 c1 k1, m__law_draw := PySem.W.mg_of X G a1, b__law_draw := (fun_mk (st := s__law_draw) l1 c1 k1).binds (ps := ["_law_state", "_law_size_here"]) (fun _ _ _ _ _ _ us hl => match us, hl with | [_, _], _ => rfl), f__law_two := f2, d__law_two := _, F__law_two := fun_mk (st := s__law_two) l2 c2 k2, m__law_two := PySem.W.mg_of X G a2, b__law_two := (fun_mk (st := s__law_two) l2 c2 k2).binds (ps := ["_law_one", "_law_other"]) (fun _ _ _ _ _ _ us hl => match us, hl with | [_, _], _ => rfl), f__law_row_of := f3, d__law_row_of := _, F__law_row_of := fun_mk (st := s__law_row_of) l3 c3 k3, m__law_row_of := PySem.W.mg_of X G a3, b__law_row_of := (fun_mk (st := s__law_row_of) l3 c3 k3).binds (ps := ["_law_several_here"]) (fun _ _ _ _ _ _ us hl => match us, hl with | [_], _ => rfl), f__law_pick := f4, d__law_pick := _, F__law_pick := fun_mk (st := s__law_pick) l4 c4 k4, m__law_pick := PySem.W.mg_of X G a4, b__law_pick := (fun_mk (st := s__law_pick) l4 c4 k4).binds (ps := ["_law_state", "_law_several_here"]) (fun _ _ _ _ _ _ us hl => match us, hl with | [_, _], _ => rfl), f__law_nothing := f5, d__law_nothing := _, F__law_nothing := fun_mk (st := s__law_nothing) l5 c5 k5, m__law_nothing := PySem.W.mg_of X G a5, b__law_nothing := (fun_mk (st := s__law_nothing) l5 c5 k5).binds (ps := ["_law_size_here", "_law_sign"]) (fun _ _ _ _ _ _ us hl => match us, hl with | [_, _], _ => rfl), f__law_word := f6, d__law_word := _, F__law_word := fun_mk (st := s__law_word) l6 c6 k6, m__law_word := PySem.W.mg_of X G a6, b__law_word := (fun_mk (st := s__law_word) l6 c6 k6).binds (ps := ["_law_state", "_law_size_here"]) (fun _ _ _ _ _ _ us hl => match us, hl with | [_, _], _ => rfl), f__law_turner := f7, d__law_turner := _, F__law_turner := fun_mk (st := s__law_turner) l7 c7 k7, m__law_turner := PySem.W.mg_of X G a7, b__law_turner := (fun_mk (st := s__law_turner) l7 c7 k7).binds (ps := ["_law_state", "_law_size_here"]) (fun _ _ _ _ _ _ us hl => match us, hl with | [_, _], _ => rfl), f__law_several := f8, d__law_several := _, F__law_several := fun_mk (st := s__law_several) l8 c8 k8, m__law_several := PySem.W.mg_of X G a8, b__law_several := (fun_mk (st := s__law_several) l8 c8 k8).binds (ps := ["_law_state", "_law_size_here", "_law_many"]) (fun _ _ _ _ _ _ us hl => match us, hl with | [_, _, _], _ => rfl), f__law_caught := f9, d__law_caught := _, F__law_caught := fun_mk (st := s__law_caught) l9 c9 k9, m__law_caught := PySem.W.mg_of X G a9, b__law_caught := (fun_mk (st := s__law_caught) l9 c9 k9).binds (ps := ["_law_work"]) (fun _ _ _ _ _ _ us hl => match us, hl with | [_], _ => rfl), f_is_number := f10, d_is_number := _, F_is_number := fun_mk (st := s_is_number) l10 c10 k10, m_is_number := PySem.W.mg_of X G a10, b_is_number := (fun_mk (st := s_is_number) l10 c10 k10).binds (ps := ["thing"]) (fun _ _ _ _ _ _ us hl => match us, hl with | [_], _ => rfl), f_is_between := f11, d_is_between := _, F_is_between := fun_mk (st := s_is_between) l11 c11 k11, m_is_between := PySem.W.mg_of X G a11, b_is_between := (fun_mk (st := s_is_between) l11 c11 k11).binds (ps := ["thing", "least", "most"]) (fun _ _ _ _ _ _ us hl => match us, hl with | [_, _, _], _ => rfl), f_need_length := f12, d_need_length := _, F_need_length := fun_mk (st := s_need_length) l12 c12 k12, m_need_length := PySem.W.mg_of X G a12, b_need_length := (fun_mk (st := s_need_length) l12 c12 k12).binds (ps := ["length"]) (fun _ _ _ _ _ _ us hl => match us, hl with | [_], _ => rfl), f_is_letters := f13, d_is_letters := _, F_is_letters := fun_mk (st := s_is_letters) l13 c13 k13, m_is_letters := PySem.W.mg_of X G a13, b_is_letters := (fun_mk (st := s_is_letters) l13 c13 k13).binds (ps := ["length", "thing"]) (fun _ _ _ _ _ _ us hl => match us, hl with | [_, _], _ => rfl), f_is_move_of := f14, d_is_move_of := _, F_is_move_of := fun_mk (st := s_is_move_of) l14 c14 k14, m_is_move_of := PySem.W.mg_of X G a14, b_is_move_of := (fun_mk (st := s_is_move_of) l14 c14 k14).binds (ps := ["length", "thing"]) (fun _ _ _ _ _ _ us hl => match us, hl with | [_, _], _ => rfl), f_is_move := f15, d_is_move := _, F_is_move := fun_mk (st := s_is_move) l15 c15 k15, m_is_move := PySem.W.mg_of X G a15, b_is_move := (fun_mk (st := s_is_move) l15 c15 k15).binds (ps := ["length", "thing"]) (fun _ _ _ _ _ _ us hl => match us, hl with | [_, _], _ => rfl), f__law_a_move := f16, d__law_a_move := _, F__law_a_move := fun_mk (st := s__law_a_move) l16 c16 k16, m__law_a_move := PySem.W.mg_of X G a16, b__law_a_move := (fun_mk (st := s__law_a_move) l16 c16 k16).binds (ps := ["_law_state", "_law_size_here"]) (fun _ _ _ _ _ _ us hl => match us, hl with | [_, _], _ => rfl), f__law_some_moves := f17, d__law_some_moves := _, F__law_some_moves := fun_mk (st := s__law_some_moves) l17 c17 k17, m__law_some_moves := PySem.W.mg_of X G a17, b__law_some_moves := (fun_mk (st := s__law_some_moves) l17 c17 k17).binds (ps := ["_law_state", "_law_size_here", "_law_most"]) (fun _ _ _ _ _ _ us hl => match us, hl with | [_, _, _], _ => rfl), f__law_is_whole := f18, d__law_is_whole := _, F__law_is_whole := fun_mk (st := s__law_is_whole) l18 c18 k18, m__law_is_whole := PySem.W.mg_of X G a18, b__law_is_whole := (fun_mk (st := s__law_is_whole) l18 c18 k18).binds (ps := ["_law_item"]) (fun _ _ _ _ _ _ us hl => match us, hl with | [_], _ => rfl), f__law_is_below := f19, d__law_is_below := _, F__law_is_below := fun_mk (st := s__law_is_below) l19 c19 k19, m__law_is_below := PySem.W.mg_of X G a19, b__law_is_below := (fun_mk (st := s__law_is_below) l19 c19 k19).binds (ps := ["_law_item", "_law_size_here"]) (fun _ _ _ _ _ _ us hl => match us, hl with | [_, _], _ => rfl), f__law_is_letters := f20, d__law_is_letters := _, F__law_is_letters := fun_mk (st := s__law_is_letters) l20 c20 k20, m__law_is_letters := PySem.W.mg_of X G a20, b__law_is_letters := (fun_mk (st := s__law_is_letters) l20 c20 k20).binds (ps := ["_law_item", "_law_size_here"]) (fun _ _ _ _ _ _ us hl => match us, hl with | [_, _], _ => rfl), f__law_is_move := f21, d__law_is_move := _, F__law_is_move := fun_mk (st := s__law_is_move) l21 c21 k21, m__law_is_move := PySem.W.mg_of X G a21, b__law_is_move := (fun_mk (st := s__law_is_move) l21 c21 k21).binds (ps := ["_law_size_here", "_law_item"]) (fun _ _ _ _ _ _ us hl => match us, hl with | [_, _], _ => rfl), f__law_bad_word := f22, d__law_bad_word := _, F__law_bad_word := fun_mk (st := s__law_bad_word) l22 c22 k22, m__law_bad_word := PySem.W.mg_of X G a22, b__law_bad_word := (fun_mk (st := s__law_bad_word) l22 c22 k22).binds (ps := ["_law_state"]) (fun _ _ _ _ _ _ us hl => match us, hl with | [_], _ => rfl), f__law_bad_words := f23, d__law_bad_words := _, F__law_bad_words := fun_mk (st := s__law_bad_words) l23 c23 k23, m__law_bad_words := PySem.W.mg_of X G a23, b__law_bad_words := (fun_mk (st := s__law_bad_words) l23 c23 k23).binds (ps := ["_law_state", "_law_several_here"]) (fun _ _ _ _ _ _ us hl => match us, hl with | [_, _], _ => rfl), f__law_says := f24, d__law_says := _, F__law_says := fun_mk (st := s__law_says) l24 c24 k24, m__law_says := PySem.W.mg_of X G a24, b__law_says := (fun_mk (st := s__law_says) l24 c24 k24).binds (ps := ["_law_found", "_law_due"]) (fun _ _ _ _ _ _ us hl => match us, hl with | [_, _], _ => rfl), f_is_row := f25, d_is_row := _, F_is_row := fun_mk (st := s_is_row) l25 c25 k25, m_is_row := PySem.W.mg_of X G a25, b_is_row := (fun_mk (st := s_is_row) l25 c25 k25).binds (ps := ["thing"]) (fun _ _ _ _ _ _ us hl => match us, hl with | [_], _ => rfl), f_is_sign := f26, d_is_sign := _, F_is_sign := fun_mk (st := s_is_sign) l26 c26 k26, m_is_sign := PySem.W.mg_of X G a26, b_is_sign := (fun_mk (st := s_is_sign) l26 c26 k26).binds (ps := ["thing"]) (fun _ _ _ _ _ _ us hl => match us, hl with | [_], _ => rfl), f_is_word := f27, d_is_word := _, F_is_word := fun_mk (st := s_is_word) l27 c27 k27, m_is_word := PySem.W.mg_of X G a27, b_is_word := (fun_mk (st := s_is_word) l27 c27 k27).binds (ps := ["thing"]) (fun _ _ _ _ _ _ us hl => match us, hl with | [_], _ => rfl), f_need_words := f28, d_need_words := _, F_need_words := fun_mk (st := s_need_words) l28 c28 k28, m_need_words := PySem.W.mg_of X G a28, b_need_words := (fun_mk (st := s_need_words) l28 c28 k28).binds (ps := ["words"]) (fun _ _ _ _ _ _ us hl => match us, hl with | [_], _ => rfl), f_is_odd := f29, d_is_odd := _, F_is_odd := fun_mk (st := s_is_odd) l29 c29 k29, m_is_odd := PySem.W.mg_of X G a29, b_is_odd := (fun_mk (st := s_is_odd) l29 c29 k29).binds (ps := ["mask"]) (fun _ _ _ _ _ _ us hl => match us, hl with | [_], _ => rfl), f_is_crossed := f30, d_is_crossed := _, F_is_crossed := fun_mk (st := s_is_crossed) l30 c30 k30, m_is_crossed := PySem.W.mg_of X G a30, b_is_crossed := (fun_mk (st := s_is_crossed) l30 c30 k30).binds (ps := ["one", "other"]) (fun _ _ _ _ _ _ us hl => match us, hl with | [_, _], _ => rfl), f_is_past := f31, d_is_past := _, F_is_past := fun_mk (st := s_is_past) l31 c31 k31, m_is_past := PySem.W.mg_of X G a31, b_is_past := (fun_mk (st := s_is_past) l31 c31 k31).binds (ps := ["one", "other"]) (fun _ _ _ _ _ _ us hl => match us, hl with | [_, _], _ => rfl), f_code_of := f32, d_code_of := _, F_code_of := fun_mk (st := s_code_of) l32 c32 k32, m_code_of := PySem.W.mg_of X G a32, b_code_of := (fun_mk (st := s_code_of) l32 c32 k32).binds (ps := ["word"]) (fun _ _ _ _ _ _ us hl => match us, hl with | [_], _ => rfl), f_past_of := f33, d_past_of := _, F_past_of := fun_mk (st := s_past_of) l33 c33 k33, m_past_of := PySem.W.mg_of X G a33, b_past_of := (fun_mk (st := s_past_of) l33 c33 k33).binds (ps := ["one", "other"]) (fun _ _ _ _ _ _ us hl => match us, hl with | [_, _], _ => rfl), f_turned := f34, d_turned := _, F_turned := fun_mk (st := s_turned) l34 c34 k34, m_turned := PySem.W.mg_of X G a34, b_turned := (fun_mk (st := s_turned) l34 c34 k34).binds (ps := ["word", "letters"]) (fun _ _ _ _ _ _ us hl => match us, hl with | [_, _], _ => rfl), f_with_letter := f35, d_with_letter := _, F_with_letter := fun_mk (st := s_with_letter) l35 c35 k35, m_with_letter := PySem.W.mg_of X G a35, b_with_letter := (fun_mk (st := s_with_letter) l35 c35 k35).binds (ps := ["letters", "place", "letter"]) (fun _ _ _ _ _ _ us hl => match us, hl with | [_, _, _], _ => rfl), f_letter_swapped := f36, d_letter_swapped := _, F_letter_swapped := fun_mk (st := s_letter_swapped) l36 c36 k36, m_letter_swapped := PySem.W.mg_of X G a36, b_letter_swapped := (fun_mk (st := s_letter_swapped) l36 c36 k36).binds (ps := ["word", "place"]) (fun _ _ _ _ _ _ us hl => match us, hl with | [_, _], _ => rfl), f_traded := f37, d_traded := _, F_traded := fun_mk (st := s_traded) l37 c37 k37, m_traded := PySem.W.mg_of X G a37, b_traded := (fun_mk (st := s_traded) l37 c37 k37).binds (ps := ["word", "place", "second"]) (fun _ _ _ _ _ _ us hl => match us, hl with | [_, _, _], _ => rfl), f_letters_of := f38, d_letters_of := _, F_letters_of := fun_mk (st := s_letters_of) l38 c38 k38, m_letters_of := PySem.W.mg_of X G a38, b_letters_of := (fun_mk (st := s_letters_of) l38 c38 k38).binds (ps := ["code", "length"]) (fun _ _ _ _ _ _ us hl => match us, hl with | [_, _], _ => rfl), f_put_of := f39, d_put_of := _, F_put_of := fun_mk (st := s_put_of) l39 c39 k39, m_put_of := PySem.W.mg_of X G a39, b_put_of := (fun_mk (st := s_put_of) l39 c39 k39).binds (ps := ["one", "other"]) (fun _ _ _ _ _ _ us hl => match us, hl with | [_, _], _ => rfl), f_sign_and_letter := f40, d_sign_and_letter := _, F_sign_and_letter := fun_mk (st := s_sign_and_letter) l40 c40 k40, m_sign_and_letter := PySem.W.mg_of X G a40, b_sign_and_letter := (fun_mk (st := s_sign_and_letter) l40 c40 k40).binds (ps := ["one", "other"]) (fun _ _ _ _ _ _ us hl => match us, hl with | [_, _], _ => rfl), f_leaned := f41, d_leaned := _, F_leaned := fun_mk (st := s_leaned) l41 c41 k41, m_leaned := PySem.W.mg_of X G a41, b_leaned := (fun_mk (st := s_leaned) l41 c41 k41).binds (ps := ["word", "place", "second"]) (fun _ _ _ _ _ _ us hl => match us, hl with | [_, _, _], _ => rfl), f_moved_word := f42, d_moved_word := _, F_moved_word := fun_mk (st := s_moved_word) l42 c42 k42, m_moved_word := PySem.W.mg_of X G a42, b_moved_word := (fun_mk (st := s_moved_word) l42 c42 k42).binds (ps := ["word", "move"]) (fun _ _ _ _ _ _ us hl => match us, hl with | [_, _], _ => rfl), f_led_of := f43, d_led_of := _, F_led_of := fun_mk (st := s_led_of) l43 c43 k43, m_led_of := PySem.W.mg_of X G a43, b_led_of := (fun_mk (st := s_led_of) l43 c43 k43).binds (ps := ["words", "moves"]) (fun _ _ _ _ _ _ us hl => match us, hl with | [_, _], _ => rfl), f_moved := f44, d_moved := _, F_moved := fun_mk (st := s_moved) l44 c44 k44, m_moved := PySem.W.mg_of X G a44, b_moved := (fun_mk (st := s_moved) l44 c44 k44).binds (ps := ["words", "move"]) (fun _ _ _ _ _ _ us hl => match us, hl with | [_, _], _ => rfl), f_need_moves := f45, d_need_moves := _, F_need_moves := fun_mk (st := s_need_moves) l45 c45 k45, m_need_moves := PySem.W.mg_of X G a45, b_need_moves := (fun_mk (st := s_need_moves) l45 c45 k45).binds (ps := ["length", "moves"]) (fun _ _ _ _ _ _ us hl => match us, hl with | [_, _], _ => rfl), f_led := f46, d_led := _, F_led := fun_mk (st := s_led) l46 c46 k46, m_led := PySem.W.mg_of X G a46, b_led := (fun_mk (st := s_led) l46 c46 k46).binds (ps := ["words", "moves"]) (fun _ _ _ _ _ _ us hl => match us, hl with | [_, _], _ => rfl), f_plain_of := f47, d_plain_of := _, F_plain_of := fun_mk (st := s_plain_of) l47 c47 k47, m_plain_of := PySem.W.mg_of X G a47, b_plain_of := (fun_mk (st := s_plain_of) l47 c47 k47).binds (ps := ["length"]) (fun _ _ _ _ _ _ us hl => match us, hl with | [_], _ => rfl), f_frame_of := f48, d_frame_of := _, F_frame_of := fun_mk (st := s_frame_of) l48 c48 k48, m_frame_of := PySem.W.mg_of X G a48, b_frame_of := (fun_mk (st := s_frame_of) l48 c48 k48).binds (ps := ["length", "moves"]) (fun _ _ _ _ _ _ us hl => match us, hl with | [_, _], _ => rfl), f__law_refusals := f49, d__law_refusals := _, F__law_refusals := fun_mk (st := s__law_refusals) l49 c49 k49, m__law_refusals := PySem.W.mg_of X G a49, b__law_refusals := (fun_mk (st := s__law_refusals) l49 c49 k49).binds (ps := ["_law_state", "_law_size_here", "_law_several_here", "_law_thing"]) (fun _ _ _ _ _ _ us hl => match us, hl with | [_, _, _, _], _ => rfl), f__law_put := f50, d__law_put := _, F__law_put := fun_mk (st := s__law_put) l50 c50 k50, m__law_put := PySem.W.mg_of X G a50, b__law_put := (fun_mk (st := s__law_put) l50 c50 k50).binds (ps := ["_law_row", "_law_spot", "_law_item"]) (fun _ _ _ _ _ _ us hl => match us, hl with | [_, _, _], _ => rfl), f__law_bad_number := f51, d__law_bad_number := _, F__law_bad_number := fun_mk (st := s__law_bad_number) l51 c51 k51, m__law_bad_number := PySem.W.mg_of X G a51, b__law_bad_number := (fun_mk (st := s__law_bad_number) l51 c51 k51).binds (ps := ["_law_state", "_law_size_here"]) (fun _ _ _ _ _ _ us hl => match us, hl with | [_, _], _ => rfl), f__law_lettered := f52, d__law_lettered := _, F__law_lettered := fun_mk (st := s__law_lettered) l52 c52 k52, m__law_lettered := PySem.W.mg_of X G a52, b__law_lettered := (fun_mk (st := s__law_lettered) l52 c52 k52).binds (ps := ["_law_letters_here", "_law_spot", "_law_letter"]) (fun _ _ _ _ _ _ us hl => match us, hl with | [_, _, _], _ => rfl), f__law_odd_move := f53, d__law_odd_move := _, F__law_odd_move := fun_mk (st := s__law_odd_move) l53 c53 k53, m__law_odd_move := PySem.W.mg_of X G a53, b__law_odd_move := (fun_mk (st := s__law_odd_move) l53 c53 k53).binds (ps := ["_law_state", "_law_size_here"]) (fun _ _ _ _ _ _ us hl => match us, hl with | [_, _], _ => rfl), f_law := fa, d_law := _, F_law := fun_mk (st := s_law) l54 c54 k54, m_law := PySem.W.mg_of X G a54, b_law := (fun_mk (st := s_law) l54 c54 k54).binds (ps := ["_law_script"]) (fun _ _ _ _ _ _ us hl => match us, hl with | [_], _ => rfl), C_TurnError := CTurnError, M_TurnError := PySem.W.mg_of X G x1TurnError, q_TurnError := x2TurnError, k_TurnError := x3TurnError, r_TurnError := x4TurnError, t_TurnError := x5TurnError, X_TurnError := ⟨x6TurnError, x7TurnError, x4TurnError, x8TurnError, x9TurnError, oN, oT, xaTurnError⟩, C_BadLength := CBadLength, M_BadLength := PySem.W.mg_of X G x1BadLength, q_BadLength := x2BadLength, k_BadLength := x3BadLength, r_BadLength := x4BadLength, t_BadLength := x5BadLength, X_BadLength := ⟨x6BadLength, x7BadLength, x4BadLength, x8BadLength, x9BadLength, oN, oT, xaBadLength⟩, C_BadWords := CBadWords, M_BadWords := PySem.W.mg_of X G x1BadWords, q_BadWords := x2BadWords, k_BadWords := x3BadWords, r_BadWords := x4BadWords, t_BadWords := x5BadWords, X_BadWords := ⟨x6BadWords, x7BadWords, x4BadWords, x8BadWords, x9BadWords, oN, oT, xaBadWords⟩, C_BadMove := CBadMove, M_BadMove := PySem.W.mg_of X G x1BadMove, q_BadMove := x2BadMove, k_BadMove := x3BadMove, r_BadMove := x4BadMove, t_BadMove := x5BadMove, X_BadMove := ⟨x6BadMove, x7BadMove, x4BadMove, x8BadMove, x9BadMove, oN, oT, xaBadMove⟩, C_BadMoves := CBadMoves, I_BadMoves := IBadMoves, M_BadMoves := PySem.W.mg_of X G x1BadMoves, k_BadMoves := x3BadMoves, X_BadMoves := ⟨x6BadMoves, x7BadMoves, x4BadMoves, x8BadMoves, x9BadMoves, oN, oT, xaBadMoves⟩, Z_BadMoves := { gC := PySem.W.mg_of X G x1BadMoves, cls := ⟨_, _, _, _, _, _, _, _, _, _, _, _, _, _, _, zaBadMoves, zbBadMoves⟩, sa := zcBadMoves, no := zdBadMoves, iC := zeBadMoves, tI := zfBadMoves, kC := x3BadMoves, eC := x4BadMoves, tC := x5BadMoves, mC := zgBadMoves, vE := zhBadMoves, al := ziBadMoves, op := zop, su := PySem.W.mg_none_of X G zsu, top := ztop, hf := ⟨by decide, by decide, by decide, by decide⟩, fn := ⟨_, "a value is no list of moves", 0, _, _, _, _, _, _, _, _, _, _, _, _, _, _, _, _, _, _, _, _, _, _, _, _, _, _, _, _, _, _, zjBadMoves, zkBadMoves, zlBadMoves, zmBadMoves, znBadMoves, zoBadMoves, fun _ _ => rfl, fun _ => ⟨_, rfl⟩, fun _ => rfl⟩ }, g_LETTERS := ⟨_, PySem.W.mg_of X G gLETTERS⟩, g_MOST_LENGTH := ⟨_, PySem.W.mg_of X G gMOST_LENGTH⟩, g_MOST_WORDS := ⟨_, PySem.W.mg_of X G gMOST_WORDS⟩, g_A_FIGURES := ⟨_, PySem.W.mg_of X G gA_FIGURES⟩, g_MOST_LETTERS := ⟨_, PySem.W.mg_of X G gMOST_LETTERS⟩, a_SWAPPED := aSWAPPED, M_SWAPPED := PySem.W.mg_of X G kd0SWAPPED, kd_SWAPPED := fun z v h => (by have h := DX.mem_lk h; simp only [List.mem_cons, List.not_mem_nil, or_false, Prod.mk.injEq] at h; rcases h with ⟨rfl, rfl⟩ | ⟨rfl, rfl⟩ | ⟨rfl, rfl⟩ | ⟨rfl, rfl⟩; exact ⟨_, _, _, kd1SWAPPED, kd2SWAPPED, kd3SWAPPED0, ⟨_, rfl⟩⟩; exact ⟨_, _, _, kd1SWAPPED, kd2SWAPPED, kd3SWAPPED1, ⟨_, rfl⟩⟩; exact ⟨_, _, _, kd1SWAPPED, kd2SWAPPED, kd3SWAPPED2, ⟨_, rfl⟩⟩; exact ⟨_, _, _, kd1SWAPPED, kd2SWAPPED, kd3SWAPPED3, ⟨_, rfl⟩⟩), z_abs := PySem.W.mg_none_of X G zabs, z_all := PySem.W.mg_none_of X G zall, z_any := PySem.W.mg_none_of X G zany, z_bool := PySem.W.mg_none_of X G zbool, z_enumerate := PySem.W.mg_none_of X G zenumerate, z_int := PySem.W.mg_none_of X G zint, z_isinstance := PySem.W.mg_none_of X G zisinstance, z_len := PySem.W.mg_none_of X G zlen, z_list := PySem.W.mg_none_of X G zlist, z_max := PySem.W.mg_none_of X G zmax, z_min := PySem.W.mg_none_of X G zmin, z_range := PySem.W.mg_none_of X G zrange, z_repr := PySem.W.mg_none_of X G zrepr, z_str := PySem.W.mg_none_of X G zstr, z_sum := PySem.W.mg_none_of X G zsum, z_tuple := PySem.W.mg_none_of X G ztuple, z_zip := PySem.W.mg_none_of X G zzip, c__law_refusals := tc49, P__law_refusals := tP49, e__law_refusals := te49, c_law := tc54, P_law := tP54, e_law := te54, pn__law_refusals_law := fun z => by rw [beq_eq_false_iff_ne] at pn49_54; exact pn49_54 z, y_BadLength := PySem.W.exm_ref x4TurnError x8TurnError x5TurnError yBadLength, y_BadWords := PySem.W.exm_ref x4TurnError x8TurnError x5TurnError yBadWords, y_BadMove := PySem.W.exm_ref x4TurnError x8TurnError x5TurnError yBadMove, y_BadMoves := PySem.W.exm_ref x4TurnError x8TurnError x5TurnError yBadMoves }
  have AF : AxF_k11 T.ax := { lk_BadLength := rfl, mm_BadLength := by simp [Top.caught, T], lk_BadWords := rfl, mm_BadWords := by simp [Top.caught, T], lk_BadMove := rfl, mm_BadMove := by simp [Top.caught, T], lk_BadMoves := rfl, mm_BadMoves := by simp [Top.caught, T], i_BadWords_BadWords := iBadWordsBadWords, i_BadMove_BadMove := iBadMoveBadMove, i_BadMoves_BadMoves := iBadMovesBadMoves, i_BadLength_BadLength := iBadLengthBadLength, i_BadMoves_BadLength := iBadMovesBadLength }
  letI tt : TabT := ⟨T.tabs⟩
  obtain ⟨cd49', tb49'⟩ := hts _ _ _ _ tr49 tb49
  have nk49 : K.lookup tP49 = none := by
    cases e : K.lookup tP49 with
    | none => rfl
    | some o =>
      have e2 := X _ _ e
      rw [tb49'] at e2
      cases e2
      have z := List.all_eq_true.mp nt _ (PySem.W.mem_of_lookupK e)
      exact absurd (show false = true from z) Bool.false_ne_true
  obtain ⟨cd54', tb54'⟩ := hts _ _ _ _ tr54 tb54
  have nk54 : K.lookup tP54 = none := by
    cases e : K.lookup tP54 with
    | none => rfl
    | some o =>
      have e2 := X _ _ e
      rw [tb54'] at e2
      cases e2
      have z := List.all_eq_true.mp nt _ (PySem.W.mem_of_lookupK e)
      exact absurd (show false = true from z) Bool.false_ne_true
  refine ⟨⟨T.tabs⟩, T.d_law, [(tc49, tP49), (tc54, tP54)], m_law_v42 T.ax, fun p hp => ?_, fun p hp => by
    simp only [List.mem_cons, List.not_mem_nil, or_false] at hp
    rcases hp with rfl | rfl
    · exact tb49'
    · exact tb54', fun p hp => by
    simp only [List.mem_cons, List.not_mem_nil, or_false] at hp
    rcases hp with rfl | rfl
    · exact nk49
    · exact nk54, fun p hp => by
    simp only [List.mem_cons, List.not_mem_nil, or_false] at hp
    rcases hp with rfl | rfl
    · exact cd49'
    · exact cd54', fun s u => bindK T.F_law (fun _ _ _ _ _ _ => rfl) s, fun ns h1 h2 => law_true T.ax AF ns h1 h2, fun base kb nb tb => @fng_any ⟨T.tabs⟩ _ _ _ _ _ _ _ _ _ _ _ _ (by decide) (@w_law ⟨T.tabs⟩ l.prog w K mg base T (@Tb.mk ⟨T.tabs⟩ K mg w l.prog T base rfl (tb _ (List.mem_cons_self)) (tb _ (List.mem_cons_of_mem _ (List.mem_cons_self)))))⟩
  have hp : p ∈ T.tabs := hp
  unfold Top.tabs at hp
  simp only [List.mem_cons, List.not_mem_nil, or_false] at hp
  rcases hp with rfl | rfl
  all_goals simp [T]
end DX
open PySem PySem.W PyProof.Rows
set_option maxRecDepth 100000 in
set_option maxHeartbeats 0 in
theorem PySem.Challenge.cw_leftminus_k11_what_is_no_move_holds : PySem.Challenge.rw_leftminus_k11_what_is_no_move.Holds := by
  w_on; o_law; k_head; (case hw => w_witness2)
  k_fill
  refine DX.walkG (l := PySem.Challenge.rw_leftminus_k11_what_is_no_move) (n := 63) (k := 14) (x := "_law_script") rfl (by decide) rfl ⟨rfl, by decide, by decide⟩ (fun w h Y => by first | exact PySem.W.kIn_of Y | exact PySem.W.km_in_of Y) ?F
  case F =>
    intro w mg fa h Y KX G hts hmg
    refine' DX.all_mk KX G hmg hts ?a0 ?l0 ?c0 ?k0 ?a1 ?l1 ?c1 ?k1 ?a2 ?l2 ?c2 ?k2 ?a3 ?l3 ?c3 ?k3 ?a4 ?l4 ?c4 ?k4 ?a5 ?l5 ?c5 ?k5 ?a6 ?l6 ?c6 ?k6 ?a7 ?l7 ?c7 ?k7 ?a8 ?l8 ?c8 ?k8 ?a9 ?l9 ?c9 ?k9 ?a10 ?l10 ?c10 ?k10 ?a11 ?l11 ?c11 ?k11 ?a12 ?l12 ?c12 ?k12 ?a13 ?l13 ?c13 ?k13 ?a14 ?l14 ?c14 ?k14 ?a15 ?l15 ?c15 ?k15 ?a16 ?l16 ?c16 ?k16 ?a17 ?l17 ?c17 ?k17 ?a18 ?l18 ?c18 ?k18 ?a19 ?l19 ?c19 ?k19 ?a20 ?l20 ?c20 ?k20 ?a21 ?l21 ?c21 ?k21 ?a22 ?l22 ?c22 ?k22 ?a23 ?l23 ?c23 ?k23 ?a24 ?l24 ?c24 ?k24 ?a25 ?l25 ?c25 ?k25 ?a26 ?l26 ?c26 ?k26 ?a27 ?l27 ?c27 ?k27 ?a28 ?l28 ?c28 ?k28 ?a29 ?l29 ?c29 ?k29 ?a30 ?l30 ?c30 ?k30 ?a31 ?l31 ?c31 ?k31 ?a32 ?l32 ?c32 ?k32 ?a33 ?l33 ?c33 ?k33 ?a34 ?l34 ?c34 ?k34 ?a35 ?l35 ?c35 ?k35 ?a36 ?l36 ?c36 ?k36 ?a37 ?l37 ?c37 ?k37 ?a38 ?l38 ?c38 ?k38 ?a39 ?l39 ?c39 ?k39 ?a40 ?l40 ?c40 ?k40 ?a41 ?l41 ?c41 ?k41 ?a42 ?l42 ?c42 ?k42 ?a43 ?l43 ?c43 ?k43 ?a44 ?l44 ?c44 ?k44 ?a45 ?l45 ?c45 ?k45 ?a46 ?l46 ?c46 ?k46 ?a47 ?l47 ?c47 ?k47 ?a48 ?l48 ?c48 ?k48 ?a49 ?l49 ?c49 ?k49 ?a50 ?l50 ?c50 ?k50 ?a51 ?l51 ?c51 ?k51 ?a52 ?l52 ?c52 ?k52 ?a53 ?l53 ?c53 ?k53 ?a54 ?l54 ?c54 ?k54 ?oN ?oT ?zop ?zsu ?ztop ?x1TurnError ?x2TurnError ?x3TurnError ?x4TurnError ?x5TurnError ?x6TurnError ?x7TurnError ?x8TurnError ?x9TurnError ?xaTurnError ?x1BadLength ?x2BadLength ?x3BadLength ?x4BadLength ?x5BadLength ?x6BadLength ?x7BadLength ?x8BadLength ?x9BadLength ?xaBadLength ?x1BadWords ?x2BadWords ?x3BadWords ?x4BadWords ?x5BadWords ?x6BadWords ?x7BadWords ?x8BadWords ?x9BadWords ?xaBadWords ?x1BadMove ?x2BadMove ?x3BadMove ?x4BadMove ?x5BadMove ?x6BadMove ?x7BadMove ?x8BadMove ?x9BadMove ?xaBadMove ?x1BadMoves ?x3BadMoves ?x4BadMoves ?x5BadMoves ?x6BadMoves ?x7BadMoves ?x8BadMoves ?x9BadMoves ?xaBadMoves ?zaBadMoves ?zbBadMoves ?zcBadMoves ?zdBadMoves ?zeBadMoves ?zfBadMoves ?zgBadMoves ?zhBadMoves ?ziBadMoves ?zjBadMoves ?zkBadMoves ?zlBadMoves ?zmBadMoves ?znBadMoves ?zoBadMoves ?gLETTERS ?gMOST_LENGTH ?gMOST_WORDS ?gA_FIGURES ?gMOST_LETTERS ?kd0SWAPPED ?kd1SWAPPED ?kd2SWAPPED ?kd3SWAPPED0 ?kd3SWAPPED1 ?kd3SWAPPED2 ?kd3SWAPPED3 ?zabs ?zall ?zany ?zbool ?zenumerate ?zint ?zisinstance ?zlen ?zlist ?zmax ?zmin ?zrange ?zrepr ?zstr ?zsum ?ztuple ?zzip ?tb49 ?tr49 ?te49 ?tb54 ?tr54 ?te54 ?pn49_54 ?nt ?yBadLength ?yBadWords ?yBadMove ?yBadMoves ?iBadWordsBadWords ?iBadMoveBadMove ?iBadMovesBadMoves ?iBadLengthBadLength ?iBadMovesBadLength
    (case a0 => k_is)
    (case l0 => k_is)
    (case c0 => k_is)
    (case k0 => k_is)
    (case a1 => k_is)
    (case l1 => k_is)
    (case c1 => k_is)
    (case k1 => k_is)
    (case a2 => k_is)
    (case l2 => k_is)
    (case c2 => k_is)
    (case k2 => k_is)
    (case a3 => k_is)
    (case l3 => k_is)
    (case c3 => k_is)
    (case k3 => k_is)
    (case a4 => k_is)
    (case l4 => k_is)
    (case c4 => k_is)
    (case k4 => k_is)
    (case a5 => k_is)
    (case l5 => k_is)
    (case c5 => k_is)
    (case k5 => k_is)
    (case a6 => k_is)
    (case l6 => k_is)
    (case c6 => k_is)
    (case k6 => k_is)
    (case a7 => k_is)
    (case l7 => k_is)
    (case c7 => k_is)
    (case k7 => k_is)
    (case a8 => k_is)
    (case l8 => k_is)
    (case c8 => k_is)
    (case k8 => k_is)
    (case a9 => k_is)
    (case l9 => k_is)
    (case c9 => k_is)
    (case k9 => k_is)
    (case a10 => k_is)
    (case l10 => k_is)
    (case c10 => k_is)
    (case k10 => k_is)
    (case a11 => k_is)
    (case l11 => k_is)
    (case c11 => k_is)
    (case k11 => k_is)
    (case a12 => k_is)
    (case l12 => k_is)
    (case c12 => k_is)
    (case k12 => k_is)
    (case a13 => k_is)
    (case l13 => k_is)
    (case c13 => k_is)
    (case k13 => k_is)
    (case a14 => k_is)
    (case l14 => k_is)
    (case c14 => k_is)
    (case k14 => k_is)
    (case a15 => k_is)
    (case l15 => k_is)
    (case c15 => k_is)
    (case k15 => k_is)
    (case a16 => k_is)
    (case l16 => k_is)
    (case c16 => k_is)
    (case k16 => k_is)
    (case a17 => k_is)
    (case l17 => k_is)
    (case c17 => k_is)
    (case k17 => k_is)
    (case a18 => k_is)
    (case l18 => k_is)
    (case c18 => k_is)
    (case k18 => k_is)
    (case a19 => k_is)
    (case l19 => k_is)
    (case c19 => k_is)
    (case k19 => k_is)
    (case a20 => k_is)
    (case l20 => k_is)
    (case c20 => k_is)
    (case k20 => k_is)
    (case a21 => k_is)
    (case l21 => k_is)
    (case c21 => k_is)
    (case k21 => k_is)
    (case a22 => k_is)
    (case l22 => k_is)
    (case c22 => k_is)
    (case k22 => k_is)
    (case a23 => k_is)
    (case l23 => k_is)
    (case c23 => k_is)
    (case k23 => k_is)
    (case a24 => k_is)
    (case l24 => k_is)
    (case c24 => k_is)
    (case k24 => k_is)
    (case a25 => k_is)
    (case l25 => k_is)
    (case c25 => k_is)
    (case k25 => k_is)
    (case a26 => k_is)
    (case l26 => k_is)
    (case c26 => k_is)
    (case k26 => k_is)
    (case a27 => k_is)
    (case l27 => k_is)
    (case c27 => k_is)
    (case k27 => k_is)
    (case a28 => k_is)
    (case l28 => k_is)
    (case c28 => k_is)
    (case k28 => k_is)
    (case a29 => k_is)
    (case l29 => k_is)
    (case c29 => k_is)
    (case k29 => k_is)
    (case a30 => k_is)
    (case l30 => k_is)
    (case c30 => k_is)
    (case k30 => k_is)
    (case a31 => k_is)
    (case l31 => k_is)
    (case c31 => k_is)
    (case k31 => k_is)
    (case a32 => k_is)
    (case l32 => k_is)
    (case c32 => k_is)
    (case k32 => k_is)
    (case a33 => k_is)
    (case l33 => k_is)
    (case c33 => k_is)
    (case k33 => k_is)
    (case a34 => k_is)
    (case l34 => k_is)
    (case c34 => k_is)
    (case k34 => k_is)
    (case a35 => k_is)
    (case l35 => k_is)
    (case c35 => k_is)
    (case k35 => k_is)
    (case a36 => k_is)
    (case l36 => k_is)
    (case c36 => k_is)
    (case k36 => k_is)
    (case a37 => k_is)
    (case l37 => k_is)
    (case c37 => k_is)
    (case k37 => k_is)
    (case a38 => k_is)
    (case l38 => k_is)
    (case c38 => k_is)
    (case k38 => k_is)
    (case a39 => k_is)
    (case l39 => k_is)
    (case c39 => k_is)
    (case k39 => k_is)
    (case a40 => k_is)
    (case l40 => k_is)
    (case c40 => k_is)
    (case k40 => k_is)
    (case a41 => k_is)
    (case l41 => k_is)
    (case c41 => k_is)
    (case k41 => k_is)
    (case a42 => k_is)
    (case l42 => k_is)
    (case c42 => k_is)
    (case k42 => k_is)
    (case a43 => k_is)
    (case l43 => k_is)
    (case c43 => k_is)
    (case k43 => k_is)
    (case a44 => k_is)
    (case l44 => k_is)
    (case c44 => k_is)
    (case k44 => k_is)
    (case a45 => k_is)
    (case l45 => k_is)
    (case c45 => k_is)
    (case k45 => k_is)
    (case a46 => k_is)
    (case l46 => k_is)
    (case c46 => k_is)
    (case k46 => k_is)
    (case a47 => k_is)
    (case l47 => k_is)
    (case c47 => k_is)
    (case k47 => k_is)
    (case a48 => k_is)
    (case l48 => k_is)
    (case c48 => k_is)
    (case k48 => k_is)
    (case a49 => k_is)
    (case l49 => k_is)
    (case c49 => k_is)
    (case k49 => k_is)
    (case a50 => k_is)
    (case l50 => k_is)
    (case c50 => k_is)
    (case k50 => k_is)
    (case a51 => k_is)
    (case l51 => k_is)
    (case c51 => k_is)
    (case k51 => k_is)
    (case a52 => k_is)
    (case l52 => k_is)
    (case c52 => k_is)
    (case k52 => k_is)
    (case a53 => k_is)
    (case l53 => k_is)
    (case c53 => k_is)
    (case k53 => k_is)
    (case a54 => k_is)
    (case l54 => k_is)
    (case c54 => k_is)
    (case k54 => k_is)
    (case oN => k_is)
    (case oT => k_is)
    (case zop => k_is)
    (case zsu => k_is)
    (case ztop => first | exact rfl | decide +kernel | kernel_rfl)
    (case x1TurnError => k_is)
    (case x2TurnError => k_exc)
    (case x3TurnError => k_is)
    (case x4TurnError => k_is)
    (case x5TurnError => k_is)
    (case x6TurnError => k_is)
    (case x7TurnError => k_is)
    (case x8TurnError => k_is)
    (case x9TurnError => k_is)
    (case xaTurnError => k_is)
    (case x1BadLength => k_is)
    (case x2BadLength => k_exc)
    (case x3BadLength => k_is)
    (case x4BadLength => k_is)
    (case x5BadLength => k_is)
    (case x6BadLength => k_is)
    (case x7BadLength => k_is)
    (case x8BadLength => k_is)
    (case x9BadLength => k_is)
    (case xaBadLength => k_is)
    (case x1BadWords => k_is)
    (case x2BadWords => k_exc)
    (case x3BadWords => k_is)
    (case x4BadWords => k_is)
    (case x5BadWords => k_is)
    (case x6BadWords => k_is)
    (case x7BadWords => k_is)
    (case x8BadWords => k_is)
    (case x9BadWords => k_is)
    (case xaBadWords => k_is)
    (case x1BadMove => k_is)
    (case x2BadMove => k_exc)
    (case x3BadMove => k_is)
    (case x4BadMove => k_is)
    (case x5BadMove => k_is)
    (case x6BadMove => k_is)
    (case x7BadMove => k_is)
    (case x8BadMove => k_is)
    (case x9BadMove => k_is)
    (case xaBadMove => k_is)
    (case x1BadMoves => k_is)
    (case x3BadMoves => k_is)
    (case x4BadMoves => k_is)
    (case x5BadMoves => k_is)
    (case x6BadMoves => k_is)
    (case x7BadMoves => k_is)
    (case x8BadMoves => k_is)
    (case x9BadMoves => k_is)
    (case xaBadMoves => k_is)
    (case zaBadMoves => k_is)
    (case zbBadMoves => first | decide +kernel | kernel_rfl)
    (case zcBadMoves => k_is)
    (case zdBadMoves => k_is)
    (case zeBadMoves => k_is)
    (case zfBadMoves => k_is)
    (case zgBadMoves => first | k_is | kernel_rfl | exact rfl)
    (case zhBadMoves => k_is)
    (case ziBadMoves => first | kernel_rfl | exact rfl | k_is)
    (case zjBadMoves => k_is)
    (case zkBadMoves => k_is)
    (case zlBadMoves => first | k_is | exact rfl | kernel_rfl)
    (case zmBadMoves => first | exact rfl | k_is | kernel_rfl)
    (case znBadMoves => first | exact rfl | decide +kernel | kernel_rfl)
    (case zoBadMoves => first | k_is | exact rfl | kernel_rfl)
    (case gLETTERS => k_is)
    (case gMOST_LENGTH => k_is)
    (case gMOST_WORDS => k_is)
    (case gA_FIGURES => k_is)
    (case gMOST_LETTERS => k_is)
    (case kd0SWAPPED => k_is)
    (case kd1SWAPPED => first | k_is | exact rfl | kernel_rfl)
    (case kd2SWAPPED => exact And.intro ⟨_, _, rfl, rfl⟩ (And.intro ⟨_, _, rfl, rfl⟩ (And.intro ⟨_, _, rfl, rfl⟩ (And.intro ⟨_, _, rfl, rfl⟩ (trivial)))))
    (case kd3SWAPPED0 => k_is)
    (case kd3SWAPPED1 => k_is)
    (case kd3SWAPPED2 => k_is)
    (case kd3SWAPPED3 => k_is)
    (case zabs => k_is)
    (case zall => k_is)
    (case zany => k_is)
    (case zbool => k_is)
    (case zenumerate => k_is)
    (case zint => k_is)
    (case zisinstance => k_is)
    (case zlen => k_is)
    (case zlist => k_is)
    (case zmax => k_is)
    (case zmin => k_is)
    (case zrange => k_is)
    (case zrepr => k_is)
    (case zstr => k_is)
    (case zsum => k_is)
    (case ztuple => k_is)
    (case zzip => k_is)
    (case tb49 => first | exact rfl | kernel_rfl)
    (case tr49 => first | rfl | k_is)
    (case te49 => first | rfl | k_is)
    (case tb54 => first | exact rfl | kernel_rfl)
    (case tr54 => first | rfl | k_is)
    (case te54 => first | rfl | k_is)
    (case pn49_54 => first | rfl | decide)
    (case nt => first | k_is | rfl | decide +kernel)
    (case yBadLength => k_is)
    (case yBadWords => k_is)
    (case yBadMove => k_is)
    (case yBadMoves => k_is)
    (case iBadWordsBadWords => first | kernel_rfl | exact rfl)
    (case iBadMoveBadMove => first | kernel_rfl | exact rfl)
    (case iBadMovesBadMoves => first | kernel_rfl | exact rfl)
    (case iBadLengthBadLength => first | kernel_rfl | exact rfl)
    (case iBadMovesBadLength => first | kernel_rfl | exact rfl)
