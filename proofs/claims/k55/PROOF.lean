import PyProof.Rows.All
import Wide.All
import OpenK.AllK
import Wide.FinOn
import HandS.Wide
import HandS.ForMost
import HandS.Slots
import HandS.Lambda
import HandS.Style
import HandS.Codes
import HandS.SlotsOwn
import PyProof.Draws
import PyProof.EnumMake
import HandS.IsInst
import HandS.IntHex
import HandS.Defaults
import PyProof.Rows.RegReprOcc
import HandS.WordsDict
import HandS.TupLen
import KE.IntTextLaws
import HandS.Deep
import HandS.FStr
import HandS.ClsMeth
import PyProof.FString3
import PyProof.Rows.StrIntSpec
import PyProof.SumWalkG
import HandS.Star
import HandS.DictComp
import HandS.More
import PyProof.InstNe
import PyProof.WalkInts
import PyProof.StrOps
import HandS.SortInts
import HandS.Text
import KE.GoesMore
import HandS.Zip0
import HandS.SetBool
import HandS.SetFor
import HandS.SetKeys
import HandS.Strs
import HandS.OwnEq
import KE.KBoundM
import PyProof.ListStr
import HandS.Rev
import HandS.MapJoin
import KE.KSortTupAny
import HandS.SortOrd
import PyProof.ReprRoads
import HandS.Flow
import KE.KExcSuper
import HandS.ExcOwn
import HandS.ExcField
import HandS.ExcIs
import HandS.WordsExc
import KE.RegKSuper
import KE.SortData
import KE.KDictSum
import HandS.DictTup
import HandS.NoneIn
import HandS.Iter
import HandS.EndTab
import KE.SortKeyHeap
import HandS.SortKw
import HandS.DeepEq
import HandS.Finally
import PyProof.FactsLen
import KE.KDictList
import KE.DataMinMax
import KE.DataEq
import KE.KDictKeyed
import PyProof.Rows.TupTab
import HandS.IterVal
import HandS.TupAny
import KE.KRevSl
import PyProof.DictUpdate
import PySem.Challenge.RW_standwaves_k55_orphan_rows_told
set_option Elab.async false
set_option maxRecDepth 100000
set_option autoImplicit false
set_option maxHeartbeats 4000000
namespace DL
open PySem L2
class TabList where
  T : List (Addr × Str)
  K : Option PySem.W.Frag
instance (priority := low) noTabs : TabList := ⟨[], none⟩
class Eff where
  x : Bool
instance (priority := low) noEff : Eff := ⟨false⟩
variable [TAB : TabList]
variable [EFF : Eff]
set_option linter.unusedSectionVars false
def TabsOk (G H : Hp) : Prop := ∀ p ∈ TAB.T, G p.1 = none ∧ LamX.TabS H p.1 p.2
theorem TabsOk.ne {G H : Hp} (t : TabsOk G H) {p : Addr × Str} (h : p ∈ TAB.T) : ∃ o, H p.1 = some o := by
  obtain ⟨_, ps, h1, _⟩ := t p h
  exact ⟨_, h1⟩
theorem TabsOk.ext {G H G' H' : Hp} (t : TabsOk G H) (g : ∀ p ∈ TAB.T, G' p.1 = none) (e : ∀ b o, H b = some o → H' b = some o) : TabsOk G' H' := fun p hp => ⟨g p hp, (t p hp).2.ext e⟩
theorem TabS.mut {H : Hp} {P p : Addr} {q : Str} {o : HO} (t : LamX.TabS H P q) (np : P ≠ p) (nc : ∀ c q, H p ≠ some (LamX.CodeO c q)) : LamX.TabS (upd H p o) P q := by
  obtain ⟨ps, h1, h2, h3⟩ := t
  refine ⟨ps, by rw [upd_ne np]; exact h1, h2, fun pos cv hc => ?_⟩
  obtain ⟨c, e1, e2⟩ := h3 pos cv hc
  refine ⟨c, e1, ?_⟩
  rw [upd_ne]
  · exact e2
  · rintro rfl
    exact nc _ _ e2
structure LamI where
  params : Arguments
  body : Expr
  scope : Scope
  qual : Str
  frees : List Str
def FunX (f : Addr) (l : LamI) (cl : List (Str × Addr)) (c : Addr) : HO := .ext fun h => ∃ pm ctv : Value, h.get? f = some (PySem.W.kla_obj "<lambda>" l.qual l.params l.body l.scope cl pm c ctv)
def CellX (c : Addr) (o : Obj) : HO := .ext fun h => h.get? c = some o
def CellsAt (G : Hp) (cl : List (Str × Addr)) : List Str → List V → Prop
  | [], [] => True
  | y :: ys, v :: vs => (∃ c o u, cl.lookup y = some c ∧ G c = some (CellX c o) ∧ o.data = .cell (some u) ∧ RelV v u) ∧ CellsAt G cl ys vs
  | _, _ => False
theorem CellsAt.mono {G G' : Hp} {cl : List (Str × Addr)} (e : ∀ a o, G a = some o → G' a = some o) : ∀ {ys : List Str} {vs : List V}, CellsAt G cl ys vs → CellsAt G' cl ys vs
  | [], [], _ => trivial
  | _ :: _, _ :: _, ⟨⟨c, o, u, h1, h2, h3⟩, r⟩ => ⟨⟨c, o, u, h1, e _ _ h2, h3⟩, CellsAt.mono e r⟩
  | [], _ :: _, h => h.elim
  | _ :: _, [], h => h.elim
structure ClK (l : LamI) (cl : List (Str × Addr)) : Prop where
  keys : ∀ y c, cl.lookup y = some c → y ∈ l.frees
  inj : ∀ x y c, cl.lookup x = some c → cl.lookup y = some c → x = y
theorem CellX_ng {c : Addr} {o : Obj} {k : Nat} : CellX c o ≠ .own k := fun z => by unfold CellX at z; cases z
def ClAt (G : Hp) (l : LamI) (cl : List (Str × Addr)) (vs : List V) : Prop := ClK l cl ∧ CellsAt G cl l.frees vs
theorem ClAt.mono {G G' : Hp} {l : LamI} {cl : List (Str × Addr)} {vs : List V} (e : ∀ a o, G a = some o → G' a = some o) (h : ClAt G l cl vs) : ClAt G' l cl vs := ⟨h.1, h.2.mono e⟩
abbrev ghost (k : Nat) : HO := .own k
theorem ghost_inj {i j : Nat} (h : ghost i = ghost j) : i = j := HO.own.inj h
def frOk : HO → Option HO → Prop
  | .own _, x => x ≠ none
  | o, x => x = some o
theorem frOk_of {o : HO} {x : Option HO} (h : x = some o) : frOk o x := by
  cases o <;> first | exact h | (rw [h]; exact fun z => nomatch z)
theorem frOk_ne {o : HO} {x : Option HO} (h : frOk o x) : x ≠ none := by
  cases o <;> first | exact h | (intro z; rw [z] at h; cases h)
theorem frOk_eq {o : HO} {x : Option HO} (h : frOk o x) (n : ∀ k, o ≠ ghost k) : x = some o := by
  cases o <;> first | exact h | exact absurd rfl (n _)
def SameF (G H : Hp) : Prop := ∀ a o, G a = some o → frOk o (H a)
theorem SameF.of {G H : Hp} (h : Same G H) : SameF G H := fun a o e => frOk_of (h a o e)
theorem CellsAt.monoF {G G' : Hp} {cl : List (Str × Addr)} (e : SameF G G') : ∀ {ys : List Str} {vs : List V}, CellsAt G cl ys vs → CellsAt G' cl ys vs
  | [], [], _ => trivial
  | _ :: _, _ :: _, ⟨⟨c, o, u, h1, h2, h3⟩, r⟩ => ⟨⟨c, o, u, h1, frOk_eq (e _ _ h2) fun k => CellX_ng, h3⟩, CellsAt.monoF e r⟩
  | [], _ :: _, h => h.elim
  | _ :: _, [], h => h.elim
theorem ClAt.monoF {G G' : Hp} {l : LamI} {cl : List (Str × Addr)} {vs : List V} (e : SameF G G') (h : ClAt G l cl vs) : ClAt G' l cl vs := ⟨h.1, h.2.monoF e⟩
theorem SameF.rd {G H : Hp} {a : Addr} {u : HO} (e : SameF G H) (h : Rd G a u) (hu : ∀ k, u ≠ ghost k := by intro k z; cases z) : Rd H a u := by
  rcases h with h | ⟨o, h⟩
  · exact .inl (frOk_eq (e _ _ h) hu)
  · exact .inr ⟨o, frOk_eq (e _ _ h) (fun k z => nomatch z)⟩
theorem SameF.sqt {K : PySem.W.Frag} {H H' : Hp} {a : Addr} {xs : List V} (e : SameF H H') (h : SqT K H a xs) : SqT K H' a xs := by
  rcases h with h | h
  · exact .inl (SameF.rd e h)
  · exact .inr h
theorem SameF.seq {K : PySem.W.Frag} {H H' : Hp} {a : Addr} {xs : List V} (e : SameF H H') (h : SqL K H a xs) : SqL K H' a xs := by
  rcases h with h | h
  · exact .inl (SameF.rd e h)
  · exact .inr h
inductive D where
  | non | bl (b : Bool) | int (i : Int) | str (x : List Nat) | lst (xs : List D) | tup (xs : List D) | dct (ks : List Key) (vs : List D) | dcT (ks : List (List Key)) (vs : List D) | obj (c : Nat) (fs : List D) | bag (p : Addr) | scr (ns : List Int) | exc (a : Addr) (dx : Option Addr) (c : Nat) (fs : List D) | clo (l : LamI) (ds : List D) | cel (k : Nat)
def clsName : Nat → Str
  | 0 => "Rule" | 1 => "Line" | 2 => "Calendar" | 3 => "Web" | 4 => "Moment" | 5 => "Game" | _ => "Desk"
def errName : Nat → Str
  | 0 => "Wrong" | 1 => "NoStand" | 2 => "TooMany" | 3 => "NoWalk" | 4 => "NoNumber" | 5 => "Jump" | 6 => "Turns" | 7 => "NoPlace" | 8 => "NoSeats" | 9 => "NoDeed" | 10 => "Full" | 11 => "Refused" | 12 => "Nothing" | 13 => "NoEntry" | 14 => "NoText" | 15 => "Broken" | 16 => "NoCommand" | _ => "WaveError"
def errFld : Nat → Str
  | 0 => "place" | 1 => "rows" | 2 => "limit" | 3 => "thing" | 4 => "number" | 5 => "seat" | 6 => "number" | 7 => "place" | 8 => "seats" | 9 => "deed" | 10 => "limit" | 11 => "deed" | 12 => "" | 13 => "many" | 14 => "thing" | 15 => "line" | 16 => "line" | _ => ""
def ExD (G : Hp) : Option Addr → Nat → List V → Prop
  | some dx, c, [v] => G dx = some (.xd [(errFld c, v)])
  | none, _, [] => True
  | _, _, _ => False
theorem ExD.mono {G G' : Hp} (e : Same G G') : ∀ {dx : Option Addr} {c : Nat} {vs : List V}, ExD G dx c vs → ExD G' dx c vs
  | some _, _, [_], h => e _ _ h
  | none, _, [], _ => trivial
  | some _, _, [], h => h.elim
  | some _, _, _ :: _ :: _, h => h.elim
  | none, _, _ :: _, h => h.elim
def D.flat : D → Bool
  | .lst _ => false | .tup _ => false | .dct _ _ => false | .dcT _ _ => false | .obj _ _ => false | .scr _ => false | .exc _ _ _ _ => false | .clo _ _ => false | .cel _ => false | _ => true
mutual
inductive Rp (K : PySem.W.Frag) (G : Hp) : V → D → Prop
  | non : Rp K G .non .non
  | bl (b : Bool) : Rp K G (.bl b) (.bl b)
  | int (i : Int) : Rp K G (.int i) (.int i)
  | str (x : List Nat) : Rp K G (.str ⟨x.toArray⟩) (.str x)
  | lst {a : Addr} {vs : List V} {ds : List D} : G a = some (.lst vs) → RpL K G vs ds → Rp K G (.ref a) (.lst ds)
  | tup {a : Addr} {vs : List V} {ds : List D} : SqT K G a vs → RpL K G vs ds → Rp K G (.ref a) (.tup ds)
  | dct {a : Addr} {ks : List Key} {vs : List V} {ds : List D} : Rd G a (.dK (ks.zip vs)) → ks.length = vs.length → RpL K G vs ds → Rp K G (.ref a) (.dct ks ds)
  | dcT {a : Addr} {ks : List (List Key)} {vs : List V} {ds : List D} : Rd G a (.dT (ks.zip vs)) → ks.length = vs.length → RpL K G vs ds → Rp K G (.ref a) (.dcT ks ds)
  | obj {c : Nat} {a C dx : Addr} {vs : List V} {ds : List D} : PySem.W.nsIn K mainGlobals (clsName c) = some (some (.ref C)) → G a = some (SlX.SlO a C dx (vs.map some)) → G dx = some (.xd []) → RpL K G vs ds → Rp K G (.ref a) (.obj c ds)
  | bag (p : Addr) : Rp K G (.ref p) (.bag p)
  | scr {a : Addr} {ns : List Int} : SqL K G a (ns.map V.int) → Rp K G (.ref a) (.scr ns)
  | exc {a : Addr} {dx : Option Addr} {c : Nat} {vs : List V} {ds : List D} : ExD G dx c vs → RpL K G vs ds → Rp K G (.ref a) (.exc a dx c ds)
  | clo {f c : Addr} {l : LamI} {cl : List (Str × Addr)} {vs : List V} {ds : List D} : G f = some (FunX f l cl c) → G c = some (LamX.CodeO c l.qual) → ClAt G l cl vs → RpL K G vs ds → Rp K G (.ref f) (.clo l ds)
  | cel {a : Addr} {k : Nat} : G a = some (ghost k) → Rp K G (.ref a) (.cel k)
inductive RpL (K : PySem.W.Frag) (G : Hp) : List V → List D → Prop
  | nil : RpL K G [] []
  | cons {v : V} {vs : List V} {d : D} {ds : List D} : Rp K G v d → RpL K G vs ds → RpL K G (v :: vs) (d :: ds)
end
theorem Same.rd {H H' : Hp} {a : Addr} {u : HO} (e : Same H H') (h : Rd H a u) : Rd H' a u := by
  rcases h with h | ⟨o, h⟩
  · exact .inl (e _ _ h)
  · exact .inr ⟨o, e _ _ h⟩
theorem Same.sqt {K : PySem.W.Frag} {H H' : Hp} {a : Addr} {xs : List V} (e : Same H H') (h : SqT K H a xs) : SqT K H' a xs := by
  rcases h with (h | ⟨o, h⟩) | h
  · exact .inl (.inl (e _ _ h))
  · exact .inl (.inr ⟨o, e _ _ h⟩)
  · exact .inr h
mutual
theorem Rp.mono {K : PySem.W.Frag} {G G' : Hp} (e : Same G G') : ∀ {v : V} {d : D}, Rp K G v d → Rp K G' v d
  | _, _, .non => .non
  | _, _, .bl b => .bl b
  | _, _, .int i => .int i
  | _, _, .str x => .str x
  | _, _, .lst h r => .lst (e _ _ h) (RpL.mono e r)
  | _, _, .tup h r => .tup (Same.sqt e h) (RpL.mono e r)
  | _, _, .dct h l r => .dct (Same.rd e h) l (RpL.mono e r)
  | _, _, .dcT h l r => .dcT (Same.rd e h) l (RpL.mono e r)
  | _, _, .obj h0 h h2 r => .obj h0 (e _ _ h) (e _ _ h2) (RpL.mono e r)
  | _, _, .bag p => .bag p
  | _, _, .scr h => .scr (Same.seq e h)
  | _, _, .exc h r => .exc (h.mono e) (RpL.mono e r)
  | _, _, .clo h h2 h3 r => .clo (e _ _ h) (e _ _ h2) (h3.mono e) (RpL.mono e r)
  | _, _, .cel h => .cel (e _ _ h)
theorem RpL.mono {K : PySem.W.Frag} {G G' : Hp} (e : Same G G') : ∀ {vs : List V} {ds : List D}, RpL K G vs ds → RpL K G' vs ds
  | _, _, .nil => .nil
  | _, _, .cons a b => .cons (Rp.mono e a) (RpL.mono e b)
end
theorem Rp.flat_any {K : PySem.W.Frag} {G G' : Hp} {v : V} {d : D} (h : Rp K G v d) (f : d.flat = true) : Rp K G' v d := by
  cases h with
  | non => exact .non
  | bl b => exact .bl b
  | int i => exact .int i
  | str x => exact .str x
  | bag p => exact .bag p
  | lst h r => cases f
  | tup h r => cases f
  | dct h l r => cases f
  | dcT h l r => cases f
  | obj h0 h h2 r => cases f
  | scr h => cases f
  | exc h r => cases f
  | clo h h2 h3 r => cases f
  | cel _ => cases f
theorem RpL.flat_any {K : PySem.W.Frag} {G G' : Hp} : ∀ {vs : List V} {ds : List D}, RpL K G vs ds → ds.all D.flat = true → RpL K G' vs ds
  | _, _, .nil, _ => .nil
  | _, _, .cons a b, f => by
    simp only [List.all_cons, Bool.and_eq_true] at f
    exact .cons (a.flat_any f.1) (RpL.flat_any b f.2)
theorem RpL.length {K : PySem.W.Frag} {G : Hp} : ∀ {vs : List V} {ds : List D}, RpL K G vs ds → vs.length = ds.length
  | _, _, .nil => rfl
  | _, _, .cons _ b => by simp [RpL.length b]
theorem RpL.get {K : PySem.W.Frag} {G : Hp} : ∀ {vs : List V} {ds : List D} {i : Nat} {d : D}, RpL K G vs ds → ds[i]? = some d → ∃ v, vs[i]? = some v ∧ Rp K G v d
  | _, _, _, _, .nil, h => by simp at h
  | _, _, 0, _, .cons a _, h => by simp at h; subst h; exact ⟨_, rfl, a⟩
  | _, _, i + 1, d, .cons _ b, h => by
    obtain ⟨v, h1, h2⟩ := RpL.get (i := i) (d := d) b (by simpa using h)
    exact ⟨v, by simpa using h1, h2⟩
theorem RpL.append {K : PySem.W.Frag} {G : Hp} : ∀ {vs ws : List V} {ds es : List D}, RpL K G vs ds → RpL K G ws es → RpL K G (vs ++ ws) (ds ++ es)
  | _, _, _, _, .nil, h => h
  | _, _, _, _, .cons a b, h => .cons a (RpL.append b h)
theorem RpL.drop {K : PySem.W.Frag} {G : Hp} : ∀ {vs : List V} {ds : List D} (n : Nat), RpL K G vs ds → RpL K G (vs.drop n) (ds.drop n)
  | _, _, 0, h => h
  | _, _, _ + 1, .nil => .nil
  | _, _, n + 1, .cons _ b => RpL.drop n b
theorem RpL.take {K : PySem.W.Frag} {G : Hp} : ∀ {vs : List V} {ds : List D} (n : Nat), RpL K G vs ds → RpL K G (vs.take n) (ds.take n)
  | _, _, 0, _ => .nil
  | _, _, _ + 1, .nil => .nil
  | _, _, n + 1, .cons a b => .cons a (RpL.take n b)
inductive Cell where
  | lst (xs : List D) | dK (ks : List Key) (vs : List D) | dT (ks : List (List Key)) (vs : List D) | obj (c : Nat) (fs : List (Option D))
inductive RpO (K : PySem.W.Frag) (G : Hp) : List (Option V) → List (Option D) → Prop
  | nil : RpO K G [] []
  | no {vs : List (Option V)} {ds : List (Option D)} : RpO K G vs ds → RpO K G (none :: vs) (none :: ds)
  | yes {v : V} {d : D} {vs : List (Option V)} {ds : List (Option D)} : Rp K G v d → RpO K G vs ds → RpO K G (some v :: vs) (some d :: ds)
theorem RpO.mono {K : PySem.W.Frag} {G G' : Hp} (e : Same G G') : ∀ {vs : List (Option V)} {ds : List (Option D)}, RpO K G vs ds → RpO K G' vs ds
  | _, _, .nil => .nil
  | _, _, .no r => .no (RpO.mono e r)
  | _, _, .yes a r => .yes (a.mono e) (RpO.mono e r)
structure Bg where
  p : Addr
  q : Addr
  z0 : Int
  z1 : Int
  z2 : Int
  cs : List Int
  st : List Cell
abbrev Bs := Option Bg
def Bs.bagAt : Bs → Option Addr
  | none => none
  | some g => some g.p
def Bs.hit (b : Bs) (a : Addr) : Prop := b.bagAt = some a ∨ ∃ q, (a, q) ∈ TAB.T
mutual
def D.noc : D → Bool
  | .clo _ _ => false
  | .lst xs => nocL xs
  | .tup xs => nocL xs
  | .dct _ xs => nocL xs
  | .dcT _ xs => nocL xs
  | .obj _ xs => nocL xs
  | .exc _ _ _ xs => nocL xs
  | _ => true
def nocL : List D → Bool
  | [] => true
  | x :: r => x.noc && nocL r
end
def nocO : List (Option D) → Bool
  | [] => true
  | none :: r => nocO r
  | some x :: r => x.noc && nocO r
def CellAt (G H : Hp) (a : Addr) : Cell → Prop
  | .lst xs => ∃ K vs, TAB.K = some K ∧ nocL xs = true ∧ H a = some (.lst vs) ∧ RpL K G vs xs
  | .dK ks xs => ∃ K vs, TAB.K = some K ∧ nocL xs = true ∧ H a = some (.dK (ks.zip vs)) ∧ ks.length = vs.length ∧ RpL K G vs xs
  | .dT ks xs => ∃ K vs, TAB.K = some K ∧ nocL xs = true ∧ H a = some (.dT (ks.zip vs)) ∧ ks.length = vs.length ∧ RpL K G vs xs
  | .obj c xs => ∃ K C dx vs, TAB.K = some K ∧ nocO xs = true ∧ PySem.W.nsIn K mainGlobals (clsName c) = some (some (.ref C)) ∧ H a = some (SlX.SlO a C dx vs) ∧ G dx = some (.xd []) ∧ RpO K G vs xs
theorem CellAt.ext {G H G' H' : Hp} {a : Addr} (e : Same G G') (h : H' a = H a) : ∀ {c : Cell}, CellAt G H a c → CellAt G' H' a c
  | .lst _, ⟨K, vs, k, nc, p, r⟩ => ⟨K, vs, k, nc, by rw [h]; exact p, r.mono e⟩
  | .dK _ _, ⟨K, vs, k, nc, p, l, r⟩ => ⟨K, vs, k, nc, by rw [h]; exact p, l, r.mono e⟩
  | .dT _ _, ⟨K, vs, k, nc, p, l, r⟩ => ⟨K, vs, k, nc, by rw [h]; exact p, l, r.mono e⟩
  | .obj _ _, ⟨K, C, dx, vs, k, nc, n, p, d, r⟩ => ⟨K, C, dx, vs, k, nc, n, by rw [h]; exact p, e _ _ d, r.mono e⟩
theorem CellAt.ne {G H : Hp} {a : Addr} : ∀ {c : Cell}, CellAt G H a c → ∃ o, H a = some o
  | .lst _, ⟨_, _, _, _, p, _⟩ => ⟨_, p⟩
  | .dK _ _, ⟨_, _, _, _, p, _⟩ => ⟨_, p⟩
  | .dT _ _, ⟨_, _, _, _, p, _⟩ => ⟨_, p⟩
  | .obj _ _, ⟨_, _, _, _, _, _, _, p, _⟩ => ⟨_, p⟩
structure CelOk (G H : Hp) (st : List Cell) : Prop where
  at_ : ∀ k c, st[k]? = some c → ∃ a, G a = some (ghost k) ∧ CellAt G H a c
  one : ∀ a b k, G a = some (ghost k) → G b = some (ghost k) → a = b
  lt : ∀ a k, G a = some (ghost k) → k < st.length
theorem CelOk.ext {G H G' H' : Hp} {st : List Cell} (h : CelOk G H st) (gs : Same G G') (gi : ∀ a k, G' a = some (ghost k) → G a = some (ghost k)) (ec : ∀ a k, G a = some (ghost k) → H' a = H a) : CelOk G' H' st :=
  ⟨fun k c e => by
    obtain ⟨a, g, x⟩ := h.at_ k c e
    exact ⟨a, gs _ _ g, x.ext gs (ec a k g)⟩, fun a b k x y => h.one a b k (gi _ _ x) (gi _ _ y), fun a k x => h.lt a k (gi _ _ x)⟩
theorem CelOk.ne {G H : Hp} {st : List Cell} (h : CelOk G H st) {a : Addr} {k : Nat} (g : G a = some (ghost k)) : ∃ o, H a = some o := by
  obtain ⟨b, g', x⟩ := h.at_ k _ (List.getElem?_eq_getElem (h.lt a k g))
  cases h.one a b k g g'
  exact x.ne
theorem CelOk.nil {G H : Hp} (h : ∀ a k, G a ≠ some (ghost k)) : CelOk G H [] := ⟨fun k c e => by simp at e, fun a b k x _ => absurd x (h _ _), fun a k x => absurd x (h _ _)⟩
def BagP (G H : Hp) : Bs → Prop
  | none => ∀ a k, G a ≠ some (ghost k)
  | some g => G g.p = none ∧ H g.p = some (.lst [.int g.z0, .int g.z1, .int g.z2, .ref g.q]) ∧ G g.q = some (.lst (g.cs.map V.int)) ∧ CelOk G H g.st
def BagOk (G H : Hp) (b : Bs) : Prop := BagP G H b ∧ TabsOk G H
theorem BagP.ne {G H : Hp} : ∀ {b : Bs}, BagP G H b → ∀ {a : Addr} {k : Nat}, G a = some (ghost k) → ∃ o, H a = some o
  | none, h, a, k, g => absurd g (h a k)
  | some _, h, _, _, g => h.2.2.2.ne g
theorem BagOk.hitG {G H : Hp} {b : Bs} {a : Addr} (ob : BagOk G H b) (z : b.hit a) : G a = none := by
  rcases z with z | ⟨q, z⟩
  · cases b with
    | none => cases z
    | some g => cases z; exact ob.1.1
  · exact (ob.2 _ z).1
theorem BagOk.hitH {G H : Hp} {b : Bs} {a : Addr} (ob : BagOk G H b) (z : b.hit a) : ∃ o, H a = some o := by
  rcases z with z | ⟨q, z⟩
  · cases b with
    | none => cases z
    | some g => cases z; exact ⟨_, ob.1.2.1⟩
  · exact ob.2.ne z
def Bs.likeB (x : Bool) : Bs → Bs → Prop
  | none, none => True
  | some g, some h => g.p = h.p ∧ g.q = h.q ∧ g.cs = h.cs ∧ (x = false → g.st = h.st)
  | _, _ => False
abbrev Bs.like (a b : Bs) : Prop := Bs.likeB false a b
theorem Bs.like_refl {x : Bool} : ∀ b : Bs, b.likeB x b
  | none => trivial
  | some _ => ⟨rfl, rfl, rfl, fun _ => rfl⟩
theorem Bs.like_trans {x : Bool} : ∀ {a b c : Bs}, a.likeB x b → b.likeB x c → a.likeB x c
  | none, none, none, _, _ => trivial
  | some _, some _, some _, h, k => ⟨h.1.trans k.1, h.2.1.trans k.2.1, h.2.2.1.trans k.2.2.1, fun z => (h.2.2.2 z).trans (k.2.2.2 z)⟩
  | none, none, some _, _, k => k.elim
  | none, some _, _, h, _ => h.elim
  | some _, none, _, h, _ => h.elim
  | some _, some _, none, _, k => k.elim
theorem Bs.like_up {x : Bool} : ∀ {a b : Bs}, a.like b → a.likeB x b
  | none, none, _ => trivial
  | some _, some _, h => ⟨h.1, h.2.1, h.2.2.1, fun _ => h.2.2.2 rfl⟩
  | none, some _, h => h.elim
  | some _, none, h => h.elim
theorem Bs.like_bagAt {x : Bool} : ∀ {a b : Bs}, a.likeB x b → a.bagAt = b.bagAt
  | none, none, _ => rfl
  | some _, some _, h => by show some _ = some _; rw [h.1]
  | none, some _, h => h.elim
  | some _, none, h => h.elim
theorem Bs.like_at {x : Bool} {a b : Bs} (h : a.likeB x b) : a.hit = b.hit := by
  funext z
  unfold Bs.hit
  rw [Bs.like_bagAt h]
abbrev M (α : Type) := Bs → Option (α × Bs)
def M.ret {α : Type} (a : α) : M α := fun b => some (a, b)
def M.bind {α β : Type} (m : M α) (f : α → M β) : M β := fun b => match m b with | some (a, b') => f a b' | none => none
def M.fail {α : Type} : M α := fun _ => none
def M.of {α : Type} : Option α → M α
  | some a => M.ret a
  | none => M.fail
def M.guard {α : Type} (c : Bool) (m : M α) : M α := if c = true then m else M.fail
theorem M.bind_some {α β : Type} {m : M α} {f : α → M β} {b : Bs} {r : β × Bs} (h : M.bind m f b = some r) : ∃ a b', m b = some (a, b') ∧ f a b' = some r := by
  unfold M.bind at h
  split at h
  · exact ⟨_, _, by assumption, h⟩
  · cases h
theorem M.bind_eq {α β : Type} {m : M α} {f : α → M β} {b b' : Bs} {a : α} (h : m b = some (a, b')) : M.bind m f b = f a b' := by
  unfold M.bind
  rw [h]
@[simp] theorem M.ret_bind {α β : Type} (a : α) (f : α → M β) : M.bind (M.ret a) f = f a := rfl
@[simp] theorem M.fail_bind {α β : Type} (f : α → M β) : M.bind M.fail f = M.fail := rfl
@[simp] theorem M.bind_ret {α : Type} (m : M α) : M.bind m M.ret = m := by
  funext b; unfold M.bind M.ret; cases h : m b with
  | none => rfl
  | some r => rfl
@[simp] theorem M.bind_assoc {α β γ : Type} (m : M α) (f : α → M β) (g : β → M γ) : M.bind (M.bind m f) g = M.bind m fun a => M.bind (f a) g := by
  funext b; unfold M.bind; cases h : m b with
  | none => rfl
  | some r => rfl
@[simp] theorem M.guard_true {α : Type} (m : M α) : M.guard true m = m := rfl
theorem M.guard_of {α : Type} {c : Bool} {m : M α} (h : c = true) : M.guard c m = m := if_pos h
@[simp] theorem M.of_some {α : Type} (a : α) : M.of (some a) = M.ret a := rfl
structure NxtB (x : Bool) (G H : Hp) (b : Bs) (G' H' : Hp) (b' : Bs) : Prop where
  gg : Same G G'
  fz : SameF G' H'
  keepB : ∀ a o, H a = some o → ¬ b.hit a → (x = true → ∀ k, G a ≠ some (ghost k)) → H' a = some o
  new : ∀ a o, H a = some o → G a = none → G' a = none
  bag : BagOk G' H' b'
  like : b.likeB x b'
abbrev Nxt (G H : Hp) (b : Bs) (G' H' : Hp) (b' : Bs) : Prop := NxtB false G H b G' H' b'
theorem NxtB.keep {G H G' H' : Hp} {b b' : Bs} (n : Nxt G H b G' H' b') (a : Addr) (o : HO) (h : H a = some o) (nb : ¬ b.hit a) : H' a = some o := n.keepB a o h nb fun z => nomatch z
theorem NxtB.mk' {G H G' H' : Hp} {b b' : Bs} (gg : Same G G') (fz : SameF G' H') (keep : ∀ a o, H a = some o → ¬ b.hit a → H' a = some o) (new : ∀ a o, H a = some o → G a = none → G' a = none) (bag : BagOk G' H' b') (like : b.like b') : Nxt G H b G' H' b' :=
  ⟨gg, fz, fun a o h nb _ => keep a o h nb, new, bag, like⟩
theorem NxtB.upB {x : Bool} {G H G' H' : Hp} {b b' : Bs} (n : Nxt G H b G' H' b') : NxtB x G H b G' H' b' := ⟨n.gg, n.fz, fun a o h nb _ => n.keep a o h nb, n.new, n.bag, Bs.like_up n.like⟩
theorem NxtB.refl {x : Bool} {G H : Hp} {b : Bs} (f : SameF G H) (o : BagOk G H b) : NxtB x G H b G H b := ⟨fun _ _ h => h, f, fun _ _ h _ _ => h, fun _ _ _ h => h, o, b.like_refl⟩
theorem Nxt.refl {G H : Hp} {b : Bs} (f : SameF G H) (o : BagOk G H b) : Nxt G H b G H b := NxtB.refl f o
theorem no_ghost {G H G' : Hp} {a : Addr} {o : HO} (gg : Same G G') (new : ∀ a o, H a = some o → G a = none → G' a = none) (h : H a = some o) (g : ∀ k, G a ≠ some (ghost k)) (k : Nat) : G' a ≠ some (ghost k) := fun z => by
  cases e : G a with
  | none => rw [new a o h e] at z; cases z
  | some u => rw [gg a u e] at z; cases z; exact g k e
theorem NxtB.trans {x : Bool} {G H G1 H1 G2 H2 : Hp} {b b1 b2 : Bs} (m : NxtB x G H b G1 H1 b1) (y : NxtB x G1 H1 b1 G2 H2 b2) : NxtB x G H b G2 H2 b2 where
  gg := fun a o h => y.gg a o (m.gg a o h)
  fz := y.fz
  keepB := fun a o h n g => y.keepB a o (m.keepB a o h n g) (by rw [← Bs.like_at m.like]; exact n) fun z => no_ghost m.gg m.new h (g z)
  new := fun a o h n => by
    by_cases e : b.hit a
    · have l := Bs.like_trans m.like y.like
      have e2 : b2.hit a := by rw [← Bs.like_at l]; exact e
      exact y.bag.hitG e2
    · exact y.new a o (m.keepB a o h e fun _ k z => by rw [n] at z; cases z) (m.new a o h n)
  bag := y.bag
  like := Bs.like_trans m.like y.like
theorem gnone {G H : Hp} {p : Addr} (f : SameF G H) (hp : H p = none) : G p = none := by
  cases e : G p with
  | none => rfl
  | some u => exact absurd hp (frOk_ne (f p u e))
theorem BagP.ext {G H G' H' : Hp} {b : Bs} (ob : BagP G H b) (g : ∀ a, b.bagAt = some a → G' a = none) (gs : ∀ a o, G a = some o → G' a = some o) (e : ∀ a, b.bagAt = some a → H' a = H a)
    (gi : ∀ a k, G' a = some (ghost k) → G a = some (ghost k)) (ec : ∀ a k, G a = some (ghost k) → H' a = H a) : BagP G' H' b := by
  cases b with
  | none => exact fun a k z => ob a k (gi a k z)
  | some g0 =>
    obtain ⟨h1, h2, h3, h4⟩ := ob
    exact ⟨g _ rfl, by rw [e _ rfl]; exact h2, gs _ _ h3, h4.ext gs gi ec⟩
theorem upd_ghost {G : Hp} {p a : Addr} {o : HO} {k : Nat} (ho : ∀ k, o ≠ ghost k) (z : upd G p o a = some (ghost k)) : G a = some (ghost k) := by
  by_cases e : a = p
  · subst e; rw [upd_same] at z; exact absurd (Option.some.inj z) (ho k)
  · rwa [upd_ne e] at z
theorem BagOk.newF {G H : Hp} {b : Bs} {p : Addr} {o : HO} (ob : BagOk G H b) (f : SameF G H) (hp : H p = none) (ho : ∀ k, o ≠ ghost k := by intro k z; cases z) : BagOk (upd G p o) (upd H p o) b := by
  refine ⟨ob.1.ext (fun a z => ?_) (fun a u h => ?_) (fun a z => ?_) (fun a k z => upd_ghost ho z) (fun a k z => ?_), ob.2.ext (fun q hq => ?_) fun a u h => ?_⟩
  · obtain ⟨u, hu⟩ := ob.hitH (.inl z)
    rw [upd_ne (ne_of_none hu hp)]; exact ob.hitG (.inl z)
  · rw [upd_ne (ne_of_none h (gnone f hp))]; exact h
  · obtain ⟨u, hu⟩ := ob.hitH (.inl z)
    rw [upd_ne (ne_of_none hu hp)]
  · obtain ⟨u, hu⟩ := ob.1.ne z
    rw [upd_ne (ne_of_none hu hp)]
  · obtain ⟨u, hu⟩ := ob.2.ne hq
    rw [upd_ne (ne_of_none hu hp)]; exact (ob.2 q hq).1
  · rw [upd_ne (ne_of_none h hp)]; exact h
theorem BagOk.newH {G H : Hp} {b : Bs} {p : Addr} {o : HO} (ob : BagOk G H b) (hp : H p = none) : BagOk G (upd H p o) b := by
  refine ⟨ob.1.ext (fun a z => ob.hitG (.inl z)) (fun a u h => h) (fun a z => ?_) (fun a k z => z) (fun a k z => ?_), ob.2.ext (fun q hq => (ob.2 q hq).1) fun a u h => ?_⟩
  · obtain ⟨u, hu⟩ := ob.hitH (.inl z)
    rw [upd_ne (ne_of_none hu hp)]
  · obtain ⟨u, hu⟩ := ob.1.ne z
    rw [upd_ne (ne_of_none hu hp)]
  · rw [upd_ne (ne_of_none h hp)]; exact h
theorem BagOk.frz {G H : Hp} {b : Bs} {p : Addr} {o : HO} (ob : BagOk G H b) (nb : ¬ b.hit p) (gp : G p = none) (ho : ∀ k, o ≠ ghost k := by intro k z; cases z) : BagOk (upd G p o) H b := by
  refine ⟨ob.1.ext (fun a z => ?_) (fun a u h => ?_) (fun a z => rfl) (fun a k z => upd_ghost ho z) (fun a k z => rfl), ob.2.ext (fun q hq => ?_) fun a u h => h⟩
  · rw [upd_ne fun e => nb (by rw [← e]; exact .inl z)]; exact ob.hitG (.inl z)
  · rw [upd_ne (ne_of_none h gp)]; exact h
  · rw [upd_ne fun e => nb (.inr ⟨q.2, by rw [← e]; exact hq⟩)]; exact (ob.2 q hq).1
theorem BagOk.mut {G H : Hp} {b : Bs} {p : Addr} {o : HO} (ob : BagOk G H b) (nb : ¬ b.hit p) (nc : ∀ c q, H p ≠ some (LamX.CodeO c q)) (gp : G p = none) : BagOk G (upd H p o) b := by
  refine ⟨ob.1.ext (fun a z => ob.hitG (.inl z)) (fun a u h => h) (fun a z => ?_) (fun a k z => z) (fun a k z => ?_), fun q hq => ⟨(ob.2 q hq).1, TabS.mut (ob.2 q hq).2 (fun e => ?_) nc⟩⟩
  · rw [upd_ne fun e => nb (by rw [← e]; exact .inl z)]
  · rw [upd_ne (ne_of_none z gp)]
  · exact nb (.inr ⟨q.2, by rw [← e]; exact hq⟩)
theorem SameF.newF {G H : Hp} {p : Addr} {o : HO} (f : SameF G H) : SameF (upd G p o) (upd H p o) := fun a u h => by
  by_cases e : a = p
  · subst e; rw [upd_same] at h ⊢; exact frOk_of h
  · rw [upd_ne e] at h ⊢; exact f a u h
theorem SameF.newH {G H : Hp} {p : Addr} {o : HO} (f : SameF G H) (gp : G p = none) : SameF G (upd H p o) := fun a u h => by
  rw [upd_ne (ne_of_none h gp)]; exact f a u h
theorem SameF.frz {G H : Hp} {p : Addr} {o : HO} (f : SameF G H) (hp : H p = some o) : SameF (upd G p o) H := fun a u h => by
  by_cases e : a = p
  · subst e; rw [upd_same] at h; cases h; exact frOk_of hp
  · rw [upd_ne e] at h; exact f a u h
theorem Nxt.newF {G H : Hp} {b : Bs} {p : Addr} {o : HO} (f : SameF G H) (ob : BagOk G H b) (hp : H p = none) (ho : ∀ k, o ≠ ghost k := by intro k z; cases z) : Nxt G H b (upd G p o) (upd H p o) b := by
  have gp := gnone f hp
  refine .mk' (fun a u h => ?_) f.newF (fun a u h _ => ?_) (fun a u h n => ?_) (ob.newF f hp ho) b.like_refl
  · rw [upd_ne (ne_of_none h gp)]; exact h
  · rw [upd_ne (ne_of_none h hp)]; exact h
  · rw [upd_ne (ne_of_none h hp)]; exact n
theorem Nxt.newH {G H : Hp} {b : Bs} {p : Addr} {o : HO} (f : SameF G H) (ob : BagOk G H b) (hp : H p = none) : Nxt G H b G (upd H p o) b := by
  refine .mk' (fun a u h => h) (f.newH (gnone f hp)) (fun a u h _ => ?_) (fun a u h n => n) (ob.newH hp) b.like_refl
  rw [upd_ne (ne_of_none h hp)]; exact h
abbrev Env := List (Option D)
structure RS (K : PySem.W.Frag) (G : Hp) (σ : L2.St) (ρ : Env) : Prop where
  len : ρ.length ≤ σ.length
  get : ∀ (i : Nat) (d : D), ρ[i]? = some (some d) → ∃ v, σ[i]? = some (some v) ∧ Rp K G v d
theorem RS.mono {K : PySem.W.Frag} {G G' : Hp} {σ : L2.St} {ρ : Env} (e : Same G G') (h : RS K G σ ρ) : RS K G' σ ρ := ⟨h.len, fun i d q => by
  obtain ⟨v, h1, h2⟩ := h.get i d q
  exact ⟨v, h1, h2.mono e⟩⟩
theorem bag_ne {G H : Hp} {b : Bs} {p : Addr} (ob : BagOk G H b) (hp : H p = none) : ¬ b.hit p := fun z => by
  obtain ⟨o, h⟩ := ob.hitH z
  rw [hp] at h
  cases h
theorem codeO_ne {c : Addr} {q : Str} {u : HO} (h : ∀ φ, u ≠ .ext φ) : u ≠ LamX.CodeO c q := fun z => by
  unfold LamX.CodeO at z
  exact h _ z
theorem get?_rep (n : Nat) (ob : Obj) (hd : ob.data ≠ .freed) {a : Addr} {o : Obj} (h : ({ objs := Array.replicate n ob } : Heap).get? a = some o) : o = ob := by
  unfold Heap.get? at h
  by_cases ha : a < n
  · have e : ({ objs := Array.replicate n ob } : Heap).objs[a]? = some ob := by
      show (Array.replicate n ob)[a]? = some ob
      simp [ha]
    rw [e] at h
    split at h
    · cases h
    · exact (Option.some.inj h).symm
  · have e : ({ objs := Array.replicate n ob } : Heap).objs[a]? = none := by
      show (Array.replicate n ob)[a]? = none
      simp [ha]
    rw [e] at h
    cases h
theorem rep_get? (n : Nat) (ob : Obj) (hd : ob.data ≠ .freed) {a : Addr} (ha : a < n) : ({ objs := Array.replicate n ob } : Heap).get? a = some ob := by
  unfold Heap.get?
  have e : ({ objs := Array.replicate n ob } : Heap).objs[a]? = some ob := by
    show (Array.replicate n ob)[a]? = some ob
    simp [ha]
  rw [e]
  split
  · rename_i z
    have z2 := Option.some.inj z
    rw [z2] at hd
    exact absurd rfl hd
  · rfl
theorem ext_ne {φ : Heap → Prop} {c : Addr} {q : Str} (h : ∀ hp, φ hp → ∃ a o, hp.get? a = some o ∧ ∀ vs, o.data ≠ .fields vs) : HO.ext φ ≠ LamX.CodeO c q := fun z => by
  unfold LamX.CodeO at z
  have e := HO.ext.inj z
  let ob : Obj := { cls := .none, data := .fields #[.none, .str q default] }
  have hd : ob.data ≠ .freed := fun z => by cases z
  have p : φ { objs := Array.replicate (c + 1) ob } := by
    rw [e]
    exact ⟨ob, _, default, rep_get? _ ob hd (Nat.lt_succ_self c), rfl, rfl⟩
  obtain ⟨a, o, h1, h2⟩ := h _ p
  have := get?_rep _ ob hd h1
  subst this
  exact h2 _ rfl
theorem nc_of {H : Hp} {p : Addr} {u : HO} (h : H p = some u) (hu : ∀ φ, u ≠ .ext φ := by intro φ z; cases z) : ∀ c q, H p ≠ some (LamX.CodeO c q) := fun c q z => by
  rw [h] at z
  exact codeO_ne hu (Option.some.inj z)
theorem NxtB.mut {x : Bool} {G H G' H' : Hp} {b b' : Bs} {p : Addr} {o : HO} (n : NxtB x G H b G' H' b') (ob : BagOk G H b) (hp : H p = none) (gp : G' p = none) (nc : ∀ c q, H' p ≠ some (LamX.CodeO c q)) : NxtB x G H b G' (upd H' p o) b' := by
  have nb : ¬ b'.hit p := by rw [← Bs.like_at n.like]; exact bag_ne ob hp
  refine ⟨n.gg, n.fz.newH gp, fun a u h hb g => ?_, n.new, n.bag.mut nb nc gp, n.like⟩
  rw [upd_ne (ne_of_none h hp)]; exact n.keepB a u h hb g
theorem NxtB.free {x : Bool} {G H G' H' : Hp} {b b' : Bs} {p : Addr} (n : NxtB x G H b G' H' b') (hp : H' p = none) : H p = none := by
  cases e : H p with
  | none => rfl
  | some o =>
    by_cases z : b.hit p
    · have z2 : b'.hit p := by rw [← Bs.like_at n.like]; exact z
      obtain ⟨u, hu⟩ := n.bag.hitH z2
      rw [hu] at hp; cases hp
    · by_cases g : ∃ k, G p = some (ghost k)
      · obtain ⟨k, g⟩ := g
        obtain ⟨u, hu⟩ := n.bag.1.ne (n.gg _ _ g)
        rw [hu] at hp; cases hp
      · rw [n.keepB p o e z fun _ k y => g ⟨k, y⟩] at hp; cases hp
theorem NxtB.stayC {G H G' H' : Hp} {b b' : Bs} (n : Nxt G H b G' H' b') (ob : BagOk G H b) {a : Addr} {k : Nat} (h : G a = some (ghost k)) : H' a = H a := by
  obtain ⟨o, e⟩ := ob.1.ne h
  rw [n.keep a o e (fun z => by rw [ob.hitG z] at h; cases h), e]
def tF (K : PySem.W.Frag) (f : Env → M D) : TE := fun σ H Q => ∃ ρ G b d b', RS K G σ ρ ∧ SameF G H ∧ BagOk G H b ∧ f ρ b = some (d, b') ∧
  ∀ v G' H', Nxt G H b G' H' b' → Rp K G' v d → Q v H'
def tFT (K : PySem.W.Frag) (f : Env → M Bool) : TT := fun σ H Q => ∃ ρ G b d b', RS K G σ ρ ∧ SameF G H ∧ BagOk G H b ∧ f ρ b = some (d, b') ∧
  ∀ G' H', Nxt G H b G' H' b' → Q d H'
def tFA (K : PySem.W.Frag) (f : Env → M (List D)) : TA := fun σ H Q => ∃ ρ G b ds b', RS K G σ ρ ∧ SameF G H ∧ BagOk G H b ∧ f ρ b = some (ds, b') ∧
  ∀ vs G' H', Nxt G H b G' H' b' → RpL K G' vs ds → Q vs H'
def tN (K : PySem.W.Frag) (f : Env → M (List D)) : TE := fun σ H Q => ∃ ρ G b ds b', RS K G σ ρ ∧ SameF G H ∧ BagOk G H b ∧ f ρ b = some (ds, b') ∧
  ∀ p vs G' H', Nxt G H b G' H' b' → H p = none → G' p = none → H' p = some (.lst vs) → RpL K G' vs ds → Q (.ref p) H'
abbrev DE (X : Cx) (e : Expr) (f : Env → M D) : Prop := PE X e (tF X.K f)
abbrev DN (X : Cx) (e : Expr) (f : Env → M (List D)) : Prop := PE X e (tN X.K f)
abbrev DT (X : Cx) (e : Expr) (f : Env → M Bool) : Prop := PT X e (tFT X.K f)
abbrev DA (X : Cx) (es : List Expr) (f : Env → M (List D)) : Prop := PA X es (tFA X.K f)
theorem PEimp {X : Cx} {e : Expr} {t t' : TE} (h : PE X e t) (i : ∀ σ H Q, t' σ H Q → t σ H Q) : PE X e t' := ⟨fun pins s σ H Q I q => h.run pins s σ H Q I (i σ H Q q)⟩
theorem PTimp {X : Cx} {e : Expr} {t t' : TT} (h : PT X e t) (i : ∀ σ H Q, t' σ H Q → t σ H Q) : PT X e t' := ⟨fun pins s σ H Q I q => h.run pins s σ H Q I (i σ H Q q)⟩
theorem PAimp {X : Cx} {e : List Expr} {t t' : TA} (h : PA X e t) (i : ∀ σ H Q, t' σ H Q → t σ H Q) : PA X e t' := ⟨fun pos pins s σ H Q I q => h.run pos pins s σ H Q I (i σ H Q q)⟩
section
variable {X : Cx}
def rdEnv (i : Nat) (ρ : Env) : M D := match ρ[i]? with
  | some (some d) => M.ret d
  | _ => M.fail
theorem rdEnv_some {i : Nat} {ρ : Env} {b b' : Bs} {d : D} (h : rdEnv i ρ b = some (d, b')) : ρ[i]? = some (some d) ∧ b = b' := by
  unfold rdEnv at h
  cases e : ρ[i]? with
  | none => rw [e] at h; cases h
  | some o =>
    cases o with
    | none => rw [e] at h; cases h
    | some z => rw [e] at h; cases h; exact ⟨rfl, rfl⟩
theorem dv (i : Nat) {x : Str} {pos : Pos} (hN : X.N[i]? = some x := by rfl) (hv : Vis X.env.scope x := by first | exact Or.inl rfl | exact Or.inr (Or.inl rfl) | exact Or.inr (Or.inr rfl)) (hd : (x == ("__debug__" : Str)) = false := by decide)
    (hcd : (x == ("__classdict__" : Str)) = false := by decide) : DE X (.Name x pos) (rdEnv i) := by
  refine PEimp (pe_var (pos := pos) hN hv hd hcd) ?_
  rintro σ H Q ⟨ρ, G, b, d, b', r, f, o, e, q⟩
  obtain ⟨hd', rfl⟩ := rdEnv_some e
  obtain ⟨v, h1, h2⟩ := r.get i _ hd'
  exact ⟨v, h1, q v G H (Nxt.refl f o) h2⟩
theorem d_c {e : Expr} {v : V} {d : D} (h : PE X e (tC v)) (r : ∀ G, Rp X.K G v d) : DE X e (fun _ => M.ret d) := by
  refine PEimp h ?_
  rintro σ H Q ⟨ρ, G, b, d', b', _, f, o, e, q⟩
  cases e
  exact q v G H (Nxt.refl f o) (r G)
theorem d_int {i : Int} {j pos} : DE X (.Constant (.int i) j pos) (fun _ => M.ret (.int i)) := d_c pe_int fun _ => .int i
theorem d_bl {b : Bool} {j pos} : DE X (.Constant (.bool b) j pos) (fun _ => M.ret (.bl b)) := d_c pe_bl fun _ => .bl b
theorem d_non {j pos} : DE X (.Constant .none j pos) (fun _ => M.ret .non) := d_c pe_non fun _ => .non
theorem d_str {x : Str} {j pos} (l : List Nat) (h : x = ⟨l.toArray⟩ := by rfl) : DE X (.Constant (.str x) j pos) (fun _ => M.ret (.str l)) := d_c pe_str fun _ => by rw [h]; exact .str l
end
def SndR (K : PySem.W.Frag) (r : R2) (g : D → D → M D) : Prop := ∀ G H b x y dx dy d b' Q, Rp K G x dx → Rp K G y dy → SameF G H → BagOk G H b → g dx dy b = some (d, b') →
  (∀ v G' H', Nxt G H b G' H' b' → Rp K G' v d → Q v H') → r x y H Q
theorem two {K : PySem.W.Frag} {r : R2} {f g : Env → M D} {h : D → D → M D} (hs : SndR K r h) : ∀ σ H Q, tF K (fun ρ => M.bind (f ρ) fun x => M.bind (g ρ) fun y => h x y) σ H Q → tOp r (tF K f) (tF K g) σ H Q := by
  rintro σ H Q ⟨ρ, G, b, d, b', rs, fz, ob, e, q⟩
  obtain ⟨x, b1, e1, e⟩ := M.bind_some e
  obtain ⟨y, b2, e2, e3⟩ := M.bind_some e
  refine ⟨ρ, G, b, x, b1, rs, fz, ob, e1, fun v1 G1 H1 n1 r1 => ?_⟩
  refine ⟨ρ, G1, b1, y, b2, rs.mono n1.gg, n1.fz, n1.bag, e2, fun v2 G2 H2 n2 r2 => ?_⟩
  exact hs G2 H2 b2 v1 v2 x y d b' Q (r1.mono n2.gg) r2 n2.fz n2.bag e3 fun v G' H' n3 r3 => q v G' H' ((n1.trans n2).trans n3) r3
section
variable {X : Cx} {a b : Expr} {f g : Env → M D} {h : D → D → M D} {r : R2} {pos : Pos}
theorem d_op {op : Operator} (ho : OpR X (binaryOp op) r) (hs : SndR X.K r h) (ha : DE X a f) (hb : DE X b g) : DE X (.BinOp a op b pos) (fun ρ => M.bind (f ρ) fun x => M.bind (g ρ) fun y => h x y) :=
  PEimp (pe_op ho ha hb) (two hs)
theorem d_cmp {op : CmpOp} (ho : OpR X (compareOp op) r) (hs : SndR X.K r h) (ha : DE X a f) (hb : DE X b g) (hm : behindInMarks op b = false) : DE X (.Compare a [op] [b] pos) (fun ρ => M.bind (f ρ) fun x => M.bind (g ρ) fun y => h x y) :=
  PEimp (pe_cmpR ho ha hb hm) (two hs)
theorem d_ix0 (ho : IxR X r) (hs : SndR X.K r h) (ha : DE X a f) (hb : DE X b g) (hp : PlainIx b) : DE X (.Subscript a b pos) (fun ρ => M.bind (f ρ) fun x => M.bind (g ρ) fun y => h x y) :=
  PEimp (pe_ix ho ha hb hp) (two hs)
def asB : D → M Bool
  | .bl b => M.ret b
  | _ => M.fail
theorem asB_some {z : D} {b b' : Bs} {k : Bool} (h : asB z b = some (k, b')) : z = .bl k ∧ b = b' := by
  cases z <;> first | (cases h; done) | (cases h; exact ⟨rfl, rfl⟩)
theorem t_cmp {op : CmpOp} (ho : OpR X (compareOp op) r) (hs : SndR X.K r h) (ha : DE X a f) (hb : DE X b g) (hm : behindInMarks op b = false) : DT X (.Compare a [op] [b] pos) (fun ρ => M.bind (f ρ) fun x => M.bind (g ρ) fun y => M.bind (h x y) asB) := by
  refine PTimp (pt_cmpR ho ha hb hm) ?_
  rintro σ H Q ⟨ρ, G, b, d, b', rs, fz, ob, e, q⟩
  obtain ⟨x, b1, e1, e⟩ := M.bind_some e
  obtain ⟨y, b2, e2, e⟩ := M.bind_some e
  obtain ⟨z, b3, e3, e4⟩ := M.bind_some e
  refine two hs σ H _ ⟨ρ, G, b, z, b3, rs, fz, ob, ?_, fun v G' H' n rz => ?_⟩
  · show M.bind (f ρ) (fun x => M.bind (g ρ) fun y => h x y) b = _
    rw [M.bind_eq e1, M.bind_eq e2]; exact e3
  · obtain ⟨rfl, rfl⟩ := asB_some e4
    cases rz
    exact ⟨_, rfl, q G' H' n⟩
end
end DL
set_option Elab.async false
set_option maxRecDepth 100000
set_option autoImplicit false
set_option maxHeartbeats 4000000
namespace DL
open PySem L2
variable [TAB : TabList]
variable [EFF : Eff]
set_option linter.unusedSectionVars false
section
variable {X : Cx}
theorem da_nil : DA X [] (fun _ => M.ret []) := by
  refine PAimp pa_nil ?_
  rintro σ H Q ⟨ρ, G, b, d, b', r, f, o, e, q⟩
  cases e
  exact q [] G H (Nxt.refl f o) .nil
theorem cons_f {K : PySem.W.Frag} {f : Env → M D} {g : Env → M (List D)} : ∀ σ H Q, tFA K (fun ρ => M.bind (f ρ) fun x => M.bind (g ρ) fun xs => M.ret (x :: xs)) σ H Q → tCons (tF K f) (tFA K g) σ H Q := by
  rintro σ H Q ⟨ρ, G, b, d, b', rs, fz, ob, e, q⟩
  obtain ⟨x, b1, e1, e⟩ := M.bind_some e
  obtain ⟨xs, b2, e2, e3⟩ := M.bind_some e
  cases e3
  refine ⟨ρ, G, b, x, b1, rs, fz, ob, e1, fun v G1 H1 n1 r1 => ?_⟩
  refine ⟨ρ, G1, b1, xs, b', rs.mono n1.gg, n1.fz, n1.bag, e2, fun vs G2 H2 n2 r2 => ?_⟩
  exact q (v :: vs) G2 H2 (n1.trans n2) (.cons (r1.mono n2.gg) r2)
theorem da_cons {e : Expr} {es : List Expr} {f : Env → M D} {g : Env → M (List D)} (ha : DE X e f) (hr : DA X es g) (hs : starEach (e :: es) X.env = (false, eval e X.env) :: starEach es X.env := by rfl) :
    DA X (e :: es) (fun ρ => M.bind (f ρ) fun x => M.bind (g ρ) fun xs => M.ret (x :: xs)) := PAimp (pa_cons ha hr hs) cons_f
theorem dn_f {K : PySem.W.Frag} {f : Env → M (List D)} : ∀ σ H Q, tF K (fun ρ => M.bind (f ρ) fun xs => M.ret (.lst xs)) σ H Q → tN K f σ H Q := by
  rintro σ H Q ⟨ρ, G, b, d, b', rs, fz, ob, e, q⟩
  obtain ⟨xs, b1, e1, e2⟩ := M.bind_some e
  cases e2
  refine ⟨ρ, G, b, xs, b', rs, fz, ob, e1, fun p vs G' H' n hp gp hh r => ?_⟩
  have sg : Same G' (upd G' p (.lst vs)) := fun a o h => by rw [upd_ne (ne_of_none h gp)]; exact h
  refine q (.ref p) (upd G' p (.lst vs)) H' (.mk' (fun a o h => sg a o (n.gg a o h)) (n.fz.frz hh) n.keep (fun a o h hn => ?_) ?_ n.like) (.lst upd_same (r.mono sg))
  · rw [upd_ne (ne_of_none h hp)]; exact n.new a o h hn
  · exact n.bag.frz (by rw [← Bs.like_at n.like]; exact bag_ne ob hp) gp
theorem d_n {e : Expr} {f : Env → M (List D)} (h : DN X e f) : DE X e (fun ρ => M.bind (f ρ) fun xs => M.ret (.lst xs)) := PEimp h dn_f
def szL (xs : List D) : Bool := decide (xs.length ≤ sizeLine)
theorem M.guard_some {α : Type} {c : Bool} {m : M α} {b : Bs} {r : α × Bs} (h : M.guard c m b = some r) : c = true ∧ m b = some r := by
  unfold M.guard at h
  cases c with
  | true => exact ⟨rfl, h⟩
  | false => cases h
theorem dn_lst {es : List Expr} {pos : Pos} {g : Env → M (List D)} (h : DA X es g) : DN X (.List es pos) (fun ρ => M.bind (g ρ) fun xs => M.guard (szL xs) (M.ret xs)) := by
  refine PEimp (pe_lst h) ?_
  rintro σ H Q ⟨ρ, G, b, d, b', rs, fz, ob, e, q⟩
  obtain ⟨xs, b1, e1, e2⟩ := M.bind_some e
  obtain ⟨c, e3⟩ := M.guard_some e2
  cases e3
  refine ⟨ρ, G, b, d, b', rs, fz, ob, e1, fun vs G' H' n r => ⟨by rw [r.length]; exact of_decide_eq_true c, fun p hp => ?_⟩⟩
  have h0 : H p = none := n.free hp
  exact q p vs G' _ (n.trans (Nxt.newH n.fz n.bag hp)) h0 (gnone n.fz hp) upd_same r
theorem d_tup {es : List Expr} {k : Nat} {pos : Pos} {g : Env → M (List D)} (h : DA X es g) : DE X (.Tuple es k pos) (fun ρ => M.bind (g ρ) fun xs => M.guard (szL xs) (M.ret (.tup xs))) := by
  refine PEimp (pe_tup h) ?_
  rintro σ H Q ⟨ρ, G, b, d, b', rs, fz, ob, e, q⟩
  obtain ⟨xs, b1, e1, e2⟩ := M.bind_some e
  obtain ⟨c, e3⟩ := M.guard_some e2
  cases e3
  refine ⟨ρ, G, b, xs, b', rs, fz, ob, e1, fun vs G' H' n r => ⟨by rw [r.length]; exact of_decide_eq_true c, fun p hp => ?_⟩⟩
  have m := Nxt.newF (o := .tup vs) n.fz n.bag hp
  exact q (.ref p) _ _ (n.trans m) (.tup (SqT.of upd_same) (r.mono m.gg))
def truD : D → M Bool
  | .non => M.ret false
  | .bl b => M.ret b
  | .int i => M.ret (i != 0)
  | .str x => M.guard (decide (x.length ≤ sizeLine)) (M.ret (!x.isEmpty))
  | .lst xs => M.ret (!xs.isEmpty)
  | .tup xs => M.ret (!xs.isEmpty)
  | _ => M.fail
theorem RpL.empty {K : PySem.W.Frag} {G : Hp} {vs : List V} {ds : List D} (r : RpL K G vs ds) : vs.isEmpty = ds.isEmpty := by
  cases r <;> rfl
theorem t_val {e : Expr} {f : Env → M D} (h : DE X e f) (he : ∀ whole, isTrue e X.env whole = (do let v ← whole; standAt e.pos; holding [v] (truthy v)) := by intro _; rfl) : DT X e (fun ρ => M.bind (f ρ) truD) := by
  refine PTimp (pt_truth h he) ?_
  rintro σ H Q ⟨ρ, G, b, d, b', rs, fz, ob, e, q⟩
  obtain ⟨x, b1, e1, e2⟩ := M.bind_some e
  refine ⟨ρ, G, b, x, b1, rs, fz, ob, e1, fun v G' H' n r => ?_⟩
  cases r with
  | non => cases e2; exact ⟨false, rfl, q _ _ n⟩
  | bl k => cases e2; exact ⟨_, rfl, q _ _ n⟩
  | int i => cases e2; exact ⟨_, rfl, q _ _ n⟩
  | str x =>
    obtain ⟨c, e3⟩ := M.guard_some e2
    cases e3
    refine ⟨_, ⟨of_decide_eq_true c, ?_⟩, q _ _ n⟩
    show _ = (((⟨x.toArray⟩ : Str).length : Int) != 0)
    cases x with
    | nil => rfl
    | cons c l => rfl
  | lst h1 h2 => cases e2; exact ⟨_, .inl ⟨_, SqL.of (n.fz _ _ h1), by rw [h2.empty]⟩, q _ _ n⟩
  | tup h1 h2 => cases e2; exact ⟨_, .inr (.inl ⟨_, SameF.sqt n.fz h1, by rw [h2.empty]⟩), q _ _ n⟩
  | dct h1 h2 h3 => cases e2
  | dcT h1 h2 h3 => cases e2
  | obj h0 h1 h2 h3 => cases e2
  | bag p => cases e2
  | scr h => cases e2
  | exc _ _ => cases e2
  | clo _ _ _ _ => cases e2
  | cel _ => cases e2
theorem t_not {e : Expr} {pos : Pos} {f : Env → M Bool} (h : DT X e f) : DT X (.UnaryOp .Not e pos) (fun ρ => M.bind (f ρ) fun k => M.ret (!k)) := by
  refine PTimp (pt_not h) ?_
  rintro σ H Q ⟨ρ, G, b, d, b', rs, fz, ob, e, q⟩
  obtain ⟨x, b1, e1, e2⟩ := M.bind_some e
  cases e2
  exact ⟨ρ, G, b, x, b', rs, fz, ob, e1, fun G' H' n => q _ _ n⟩
abbrev DW (X : Cx) (e : Expr) (f : Env → M Bool) : Prop := PW X e (tFT X.K f)
theorem PWimp {e : Expr} {t t' : TT} (h : PW X e t) (i : ∀ σ H Q, t' σ H Q → t σ H Q) : PW X e t' := ⟨fun whole pins s σ H Q I q => h.run whole pins s σ H Q I (i σ H Q q)⟩
variable {a b : Expr} {rest : List Expr} {pos : Pos}
theorem w_and1 {f : Env → M Bool} (ha : DT X a f) : DW X (.BoolOp .And [a] pos) f := pw_and1 ha
theorem w_or1 {f : Env → M Bool} (ha : DT X a f) : DW X (.BoolOp .Or [a] pos) f := pw_or1 ha
theorem w_and {f g : Env → M Bool} (ha : DT X a f) (hb : DW X (.BoolOp .And (b :: rest) pos) g) : DW X (.BoolOp .And (a :: b :: rest) pos) (fun ρ => M.bind (f ρ) fun k => if k = true then g ρ else M.ret false) := by
  refine PWimp (pw_and ha hb) ?_
  rintro σ H Q ⟨ρ, G, b, d, b', rs, fz, ob, e, q⟩
  obtain ⟨k, b1, e1, e2⟩ := M.bind_some e
  refine ⟨ρ, G, b, k, b1, rs, fz, ob, e1, fun G1 H1 n1 => ?_⟩
  cases k with
  | true => exact iteT ⟨ρ, G1, b1, d, b', rs.mono n1.gg, n1.fz, n1.bag, e2, fun G2 H2 n2 => q _ _ (n1.trans n2)⟩
  | false => cases e2; exact iteF (q _ _ n1)
theorem w_or {f g : Env → M Bool} (ha : DT X a f) (hb : DW X (.BoolOp .Or (b :: rest) pos) g) : DW X (.BoolOp .Or (a :: b :: rest) pos) (fun ρ => M.bind (f ρ) fun k => if k = true then M.ret true else g ρ) := by
  refine PWimp (pw_or ha hb) ?_
  rintro σ H Q ⟨ρ, G, b, d, b', rs, fz, ob, e, q⟩
  obtain ⟨k, b1, e1, e2⟩ := M.bind_some e
  refine ⟨ρ, G, b, k, b1, rs, fz, ob, e1, fun G1 H1 n1 => ?_⟩
  cases k with
  | true => cases e2; exact iteT (q _ _ n1)
  | false => exact iteF ⟨ρ, G1, b1, d, b', rs.mono n1.gg, n1.fz, n1.bag, e2, fun G2 H2 n2 => q _ _ (n1.trans n2)⟩
theorem t_w {e : Expr} {f : Env → M Bool} (h : DW X e f) : DT X e f := PW.pt h
theorem d_and {f g : Env → M D} (ha : DE X a f) (hb : DE X (.BoolOp .And (b :: rest) pos) g) : DE X (.BoolOp .And (a :: b :: rest) pos) (fun ρ => M.bind (f ρ) fun x => M.bind (asB x) fun k => if k = true then g ρ else M.ret (.bl false)) := by
  refine PEimp (pe_and ha hb) ?_
  rintro σ H Q ⟨ρ, G, b, d, b', rs, fz, ob, e, q⟩
  obtain ⟨x, b1, e1, e2⟩ := M.bind_some e
  obtain ⟨k, b2, e2, e3⟩ := M.bind_some e2
  obtain ⟨rfl, rfl⟩ := asB_some e2
  refine ⟨ρ, G, b, _, b1, rs, fz, ob, e1, fun v G1 H1 n1 r => ?_⟩
  cases r
  refine ⟨k, rfl, ?_⟩
  cases k with
  | true => exact iteT ⟨ρ, G1, b1, d, b', rs.mono n1.gg, n1.fz, n1.bag, e3, fun v2 G2 H2 n2 r2 => q v2 _ _ (n1.trans n2) r2⟩
  | false => cases e3; exact iteF (q _ _ _ n1 (.bl false))
theorem d_one {op : BoolOp} {f : Env → M D} (ha : DE X a f) : DE X (.BoolOp op [a] pos) f := pe_one ha
theorem d_not {f : Env → M D} (ha : DE X a f) : DE X (.UnaryOp .Not a pos) (fun ρ => M.bind (f ρ) fun x => M.bind (asB x) fun k => M.ret (.bl (!k))) := by
  refine PEimp (pe_not ha) ?_
  rintro σ H Q ⟨ρ, G, b, d, b', rs, fz, ob, e, q⟩
  obtain ⟨x, b1, e1, e2⟩ := M.bind_some e
  obtain ⟨k, b2, e2, e3⟩ := M.bind_some e2
  obtain ⟨rfl, rfl⟩ := asB_some e2
  cases e3
  refine ⟨ρ, G, b, _, b', rs, fz, ob, e1, fun v G1 H1 n1 r => ?_⟩
  cases r
  exact ⟨k, rfl, q _ _ _ n1 (.bl _)⟩
theorem d_if {c : Expr} {t : Env → M Bool} {f g : Env → M D} (hc : DT X c t) (ha : DE X a f) (hb : DE X b g) : DE X (.IfExp c a b pos) (fun ρ => M.bind (t ρ) fun k => if k = true then f ρ else g ρ) := by
  refine PEimp (pe_ifExp hc ha hb) ?_
  rintro σ H Q ⟨ρ, G, b, d, b', rs, fz, ob, e, q⟩
  obtain ⟨k, b1, e1, e2⟩ := M.bind_some e
  refine ⟨ρ, G, b, k, b1, rs, fz, ob, e1, fun G1 H1 n1 => ?_⟩
  cases k with
  | true => exact iteT ⟨ρ, G1, b1, d, b', rs.mono n1.gg, n1.fz, n1.bag, e2, fun v G2 H2 n2 r => q _ _ _ (n1.trans n2) r⟩
  | false => exact iteF ⟨ρ, G1, b1, d, b', rs.mono n1.gg, n1.fz, n1.bag, e2, fun v G2 H2 n2 r => q _ _ _ (n1.trans n2) r⟩
end
def SndC (K : PySem.W.Frag) (r : List V → Hp → VK → Prop) (g : List D → M D) : Prop := ∀ G H b vs ds d b' Q, RpL K G vs ds → SameF G H → BagOk G H b → g ds b = some (d, b') →
  (∀ v G' H', Nxt G H b G' H' b' → Rp K G' v d → Q v H') → r vs H Q
def SndCN (K : PySem.W.Frag) (r : List V → Hp → VK → Prop) (g : List D → M (List D)) : Prop := ∀ G H b vs ds xs b' Q, RpL K G vs ds → SameF G H → BagOk G H b → g ds b = some (xs, b') →
  (∀ p ws G' H', Nxt G H b G' H' b' → H p = none → G' p = none → H' p = some (.lst ws) → RpL K G' ws xs → Q (.ref p) H') → r vs H Q
section
variable {X : Cx} {x : Str} {p pos : Pos} {e : Expr} {es : List Expr} {f : Env → M (List D)} {g : List D → M D} {gn : List D → M (List D)} {id T : String} {r : List V → Hp → VK → Prop}
theorem cb_f {K : PySem.W.Frag} (hs : SndC K r g) : ∀ σ H Q, tF K (fun ρ => M.bind (f ρ) g) σ H Q → tCB r (tFA K f) σ H Q := by
  rintro σ H Q ⟨ρ, G, b, d, b', rs, fz, ob, e, q⟩
  obtain ⟨ds, b1, e1, e2⟩ := M.bind_some e
  refine ⟨ρ, G, b, ds, b1, rs, fz, ob, e1, fun vs G1 H1 n1 r1 => ?_⟩
  exact hs G1 H1 b1 vs ds d b' Q r1 n1.fz n1.bag e2 fun v G2 H2 n2 r2 => q v G2 H2 (n1.trans n2) r2
theorem cbn_f {K : PySem.W.Frag} (hs : SndCN K r gn) : ∀ σ H Q, tN K (fun ρ => M.bind (f ρ) gn) σ H Q → tCB r (tFA K f) σ H Q := by
  rintro σ H Q ⟨ρ, G, b, d, b', rs, fz, ob, e, q⟩
  obtain ⟨ds, b1, e1, e2⟩ := M.bind_some e
  refine ⟨ρ, G, b, ds, b1, rs, fz, ob, e1, fun vs G1 H1 n1 r1 => ?_⟩
  exact hs G1 H1 b1 vs ds d b' Q r1 n1.fz n1.bag e2 fun p ws G2 H2 n2 hp gp hh r2 => q p ws G2 H2 (n1.trans n2) (n1.free hp) gp hh r2
theorem d_callB (hc : CallR X (.builtin id) r) (hs : SndC X.K r g) (hg : Gl X x) (hm : X.mg x = none) (hv : bootBuiltins x = some (.builtin id)) (ha : DA X (e :: es) f) (hn : x ≠ "__name__" := by decide) (hdb : (x == ("__debug__" : Str)) = false := by decide)
    (he : starEach (e :: es) X.env = (false, eval e X.env) :: starEach es X.env := by rfl) (hpl : (backTo pos (starEach es X.env)).any (·.1) = false := by rfl) : DE X (.Call (.Name x p) (e :: es) [] pos) (fun ρ => M.bind (f ρ) g) :=
  PEimp (pe_callB hc hg hm hv ha hn hdb he hpl) (cb_f hs)
theorem dn_callB (hc : CallR X (.builtin id) r) (hs : SndCN X.K r gn) (hg : Gl X x) (hm : X.mg x = none) (hv : bootBuiltins x = some (.builtin id)) (ha : DA X (e :: es) f) (hn : x ≠ "__name__" := by decide) (hdb : (x == ("__debug__" : Str)) = false := by decide)
    (he : starEach (e :: es) X.env = (false, eval e X.env) :: starEach es X.env := by rfl) (hpl : (backTo pos (starEach es X.env)).any (·.1) = false := by rfl) : DN X (.Call (.Name x p) (e :: es) [] pos) (fun ρ => M.bind (f ρ) gn) :=
  PEimp (pe_callB hc hg hm hv ha hn hdb he hpl) (cbn_f hs)
theorem d_callTy (hc : CallR X (.type T) r) (hs : SndC X.K r g) (hg : Gl X x) (hm : X.mg x = none) (hv : bootBuiltins x = some (.type T)) (ha : DA X (e :: es) f) (hn : x ≠ "__name__" := by decide) (hdb : (x == ("__debug__" : Str)) = false := by decide)
    (he : starEach (e :: es) X.env = (false, eval e X.env) :: starEach es X.env := by rfl) (hpl : (backTo pos (starEach es X.env)).any (·.1) = false := by rfl) : DE X (.Call (.Name x p) (e :: es) [] pos) (fun ρ => M.bind (f ρ) g) :=
  PEimp (pe_callTy hc hg hm hv ha hn hdb he hpl) (cb_f hs)
end
end DL
set_option Elab.async false
set_option maxRecDepth 100000
set_option autoImplicit false
set_option linter.unusedVariables false
set_option maxHeartbeats 4000000
namespace DL
open PySem L2
variable [TAB : TabList]
variable [EFF : Eff]
set_option linter.unusedSectionVars false
def Yl (K : PySem.W.Frag) (G0 : Hp) (J : It) (ds : List D) : Prop := ∀ (i : Nat) (G H : Hp) (b : Bs), Same G0 G → SameF G H → BagOk G H b →
  (∀ d, ds[i]? = some d → J.go i H ∧ ∀ x H', J.yld i H x H' → ∃ G', Nxt G H b G' H' b ∧ Rp K G' x d) ∧ (ds.length ≤ i → J.stop i H)
def iF (K : PySem.W.Frag) (g : Env → M (List D)) : TI := fun σ H R => ∃ ρ G b ds b', RS K G σ ρ ∧ SameF G H ∧ BagOk G H b ∧ g ρ b = some (ds, b') ∧
  ∀ J G' H', Nxt G H b G' H' b' → Yl K G' J ds → R J H'
def iR (K : PySem.W.Frag) (g : Env → M (List D)) : TI := fun σ H R => ∃ ρ G b ds b', RS K G σ ρ ∧ SameF G H ∧ BagOk G H b ∧ g ρ b = some (ds, b') ∧
  ∀ J G' H', Nxt G H b G' H' b' → Yl K (fun _ => none) J ds → R J H'
abbrev DI (X : Cx) (tg e : Expr) (g : Env → M (List D)) : Prop := PI X tg e (iF X.K g)
abbrev DR (X : Cx) (tg e : Expr) (g : Env → M (List D)) : Prop := PI X tg e (iR X.K g)
theorem PIimp {X : Cx} {tg e : Expr} {t t' : TI} (h : PI X tg e t) (i : ∀ σ H Q, t' σ H Q → t σ H Q) : PI X tg e t' := ⟨fun pins s σ H Q I q => h.run pins s σ H Q I (i σ H Q q)⟩
theorem di_r {X : Cx} {tg e : Expr} {g : Env → M (List D)} (h : DR X tg e g) : DI X tg e g := PIimp h fun σ H R ⟨ρ, G, b, ds, b', rs, fz, ob, e, q⟩ =>
  ⟨ρ, G, b, ds, b', rs, fz, ob, e, fun J G' H' n y => q J G' H' n fun i G2 H2 b2 _ f o => y i G2 H2 b2 (fun _ _ z => nomatch z) f o⟩
def itemsD : D → M (List D)
  | .lst xs => M.ret xs
  | .tup xs => M.ret xs
  | .str x => M.ret (x.map fun c => .str [c])
  | _ => M.fail
theorem yl_list {K : PySem.W.Frag} {G : Hp} {a : Addr} {vs : List V} {ds : List D} (h : G a = some (.lst vs)) (r : RpL K G vs ds) : Yl K G (Itl K a) ds := by
  intro i G1 H1 b s1 s2 ob
  have hq : SqL K H1 a vs := SqL.of (s2 _ _ (s1 _ _ h))
  refine ⟨fun d hd => ?_, fun hl => ⟨vs, hq, by rw [r.length]; exact hl⟩⟩
  obtain ⟨v, h1, h2⟩ := r.get hd
  refine ⟨⟨vs, v, hq, h1⟩, ?_⟩
  rintro x H' ⟨rfl, hx⟩
  refine ⟨G1, Nxt.refl s2 ob, ?_⟩
  rw [hx vs hq] at h1
  cases h1
  exact h2.mono s1
theorem yl_tup {K : PySem.W.Frag} {G : Hp} {a : Addr} {vs : List V} {ds : List D} (h : SqT K G a vs) (r : RpL K G vs ds) : Yl K G (Itt K a) ds := by
  intro i G1 H1 b s1 s2 ob
  have hq : SqT K H1 a vs := SameF.sqt s2 (Same.sqt s1 h)
  refine ⟨fun d hd => ?_, fun hl => ⟨vs, hq, by rw [r.length]; exact hl⟩⟩
  obtain ⟨v, h1, h2⟩ := r.get hd
  refine ⟨⟨vs, v, hq, h1⟩, ?_⟩
  rintro x H' ⟨rfl, hx⟩
  refine ⟨G1, Nxt.refl s2 ob, ?_⟩
  rw [hx vs hq] at h1
  cases h1
  exact h2.mono s1
theorem yl_str {K : PySem.W.Frag} {G : Hp} (x : List Nat) : Yl K G (Its ⟨x.toArray⟩) (x.map fun c => .str [c]) := by
  intro i G1 H1 b s1 s2 ob
  refine ⟨fun d hd => ?_, fun hl => ?_⟩
  · rw [List.getElem?_map] at hd
    cases e : x[i]? with
    | none => rw [e] at hd; cases hd
    | some c =>
      rw [e] at hd
      cases hd
      have hi : i < x.length := (List.getElem?_eq_some_iff.mp e).1
      refine ⟨by show i < x.toArray.size; simpa using hi, ?_⟩
      rintro y H' ⟨rfl, c', h1, rfl⟩
      have h1' : x.toArray[i]? = some c' := h1
      have : c = c' := by
        rw [List.getElem?_toArray, e] at h1'
        exact Option.some.inj h1'
      subst this
      exact ⟨G1, Nxt.refl s2 ob, Rp.str [c]⟩
  · show x.toArray.size ≤ i
    simpa using hl
theorem yl_range {K : PySem.W.Frag} {G : Hp} (lo : Int) (n : Nat) : Yl K G (Itr lo n) ((List.range n).map fun k => .int (lo + (k : Nat))) := by
  intro i G1 H1 b s1 s2 ob
  refine ⟨fun d hd => ?_, fun hl => by show n ≤ i; simpa using hl⟩
  rw [List.getElem?_map] at hd
  by_cases hi : i < n
  · rw [List.getElem?_range hi] at hd
    cases hd
    refine ⟨hi, ?_⟩
    rintro y H' ⟨rfl, rfl⟩
    exact ⟨G1, Nxt.refl s2 ob, Rp.int _⟩
  · rw [List.getElem?_eq_none (by simpa using hi)] at hd
    cases hd
section
variable {X : Cx} {tg : Expr} {p pos : Pos}
theorem di_any {e : Expr} {f : Env → M D} (h : DE X e f) : DI X tg e (fun ρ => M.bind (f ρ) itemsD) := by
  have pl := pi_list (tg := tg) h
  have pt := pi_tup (tg := tg) h
  have px := pi_str (tg := tg) h
  refine ⟨fun pins s σ H R I q0 => ?_⟩
  obtain ⟨ρ, G, b, ds, b', rs, fz, ob, e, q⟩ := q0
  obtain ⟨d, b1, e1, e2⟩ := M.bind_some e
  cases d with
  | lst xs =>
    cases e2
    refine pl.run pins s σ H R I ⟨ρ, G, b, _, b', rs, fz, ob, e1, fun v G' H' n r => ?_⟩
    cases r with
    | lst h1 h2 => exact ⟨_, rfl, ⟨_, SqL.of (n.fz _ _ h1)⟩, q _ G' H' n (yl_list h1 h2)⟩
  | tup xs =>
    cases e2
    refine pt.run pins s σ H R I ⟨ρ, G, b, _, b', rs, fz, ob, e1, fun v G' H' n r => ?_⟩
    cases r with
    | tup h1 h2 => exact ⟨_, rfl, ⟨_, SameF.sqt n.fz h1⟩, q _ G' H' n (yl_tup h1 h2)⟩
  | str x =>
    cases e2
    refine px.run pins s σ H R I ⟨ρ, G, b, _, b', rs, fz, ob, e1, fun v G' H' n r => ?_⟩
    cases r with
    | str x => exact ⟨_, rfl, q _ G' H' n (yl_str x)⟩
  | dct _ _ => cases e2
  | dcT _ _ => cases e2
  | non => cases e2
  | bl _ => cases e2
  | int _ => cases e2
  | obj _ _ => cases e2
  | bag _ => cases e2
  | scr _ => cases e2
  | exc _ _ _ _ => cases e2
  | clo _ _ => cases e2
  | cel _ => cases e2
def okR (i : Int) : Bool := decide (-(2 ^ 62) ≤ i) && decide (i < 2 ^ 62)
def rng1 : List D → M (List D)
  | [.int j] => M.guard (okR j) (M.ret ((List.range j.toNat).map fun k => .int (0 + (k : Nat))))
  | _ => M.fail
def rng2 : List D → M (List D)
  | [.int i, .int j] => M.guard (okR i && okR j) (M.ret ((List.range (j - i).toNat).map fun k => .int (i + (k : Nat))))
  | _ => M.fail
theorem dr_range1 {a : Expr} {f : Env → M (List D)} (hg : Gl X "range") (hm : X.mg "range" = none) (ha : DA X [a] f) (hs : starEach [a] X.env = [(false, eval a X.env)] := by rfl) : DR X tg (.Call (.Name "range" p) [a] [] pos) (fun ρ => M.bind (f ρ) rng1) := by
  refine PIimp (pi_range1 hg hm ha hs) ?_
  rintro σ H Q ⟨ρ, G, b, ds, b', rs, fz, ob, e, q⟩
  obtain ⟨d, b1, e1, e2⟩ := M.bind_some e
  refine ⟨ρ, G, b, d, b1, rs, fz, ob, e1, fun vs G' H' n r => ?_⟩
  unfold rng1 at e2
  split at e2
  · obtain ⟨c, e3⟩ := M.guard_some e2
    cases e3
    cases r with
    | cons r1 r2 =>
      cases r2
      cases r1
      have c' := of_decide_eq_true (Bool.and_eq_true_iff.mp c).1
      have c'' := of_decide_eq_true (Bool.and_eq_true_iff.mp c).2
      exact ⟨_, rfl, c', c'', q _ _ _ n (yl_range 0 _)⟩
  · cases e2
end
def setAll (σ : L2.St) : List (Nat × V) → L2.St
  | [] => σ
  | (i, v) :: r => setAll (σ.set i (some v)) r
def setAllD (ρ : Env) : List (Nat × D) → Env
  | [] => ρ
  | (i, d) :: r => setAllD (ρ.set i (some d)) r
abbrev RpP (K : PySem.W.Frag) (G : Hp) : List (Nat × V) → List (Nat × D) → Prop := Paired fun p q => p.1 = q.1 ∧ Rp K G p.2 q.2
def TgOk (K : PySem.W.Frag) (g : TG) (bs : D → Option (List (Nat × D))) (is : List Nat) : Prop := ∀ G v d l, Rp K G v d → bs d = some l →
  ∃ lv, RpP K G lv l ∧ (∀ p ∈ lv, p.1 ∈ is) ∧ ∀ H σ Q, SameF G H → Q (setAll σ lv) H → g v σ H Q
def bName (i : Nat) : D → Option (List (Nat × D)) := fun d => some [(i, d)]
theorem tg_name {K : PySem.W.Frag} (i : Nat) : TgOk K (gName i) (bName i) [i] := by
  intro G v d l r e
  cases e
  exact ⟨[(i, v)], .cons ⟨rfl, r⟩ .nil, fun p hp => by simp at hp; subst hp; simp, fun H σ Q _ q => q⟩
def TgsOk (K : PySem.W.Frag) (g : TGs) (bs : List D → Option (List (Nat × D))) (is : List Nat) : Prop := ∀ G vs ds l, RpL K G vs ds → bs ds = some l →
  ∃ lv, RpP K G lv l ∧ (∀ p ∈ lv, p.1 ∈ is) ∧ ∀ H σ Q, SameF G H → Q (setAll σ lv) H → g vs σ H Q
def bNil : List D → Option (List (Nat × D))
  | [] => some []
  | _ => none
def bCons (f : D → Option (List (Nat × D))) (g : List D → Option (List (Nat × D))) : List D → Option (List (Nat × D))
  | d :: r => match f d, g r with
    | some l, some l' => some (l ++ l')
    | _, _ => none
  | [] => none
theorem setAll_app (σ : L2.St) : ∀ (l l' : List (Nat × V)), setAll σ (l ++ l') = setAll (setAll σ l) l'
  | [], _ => rfl
  | (i, v) :: r, l' => by show setAll (σ.set i (some v)) (r ++ l') = setAll (setAll (σ.set i (some v)) r) l'; exact setAll_app _ r l'
theorem paired_app {α β : Type} {F : α → β → Prop} : ∀ {a : List α} {b : List β} {c : List α} {d : List β}, Paired F a b → Paired F c d → Paired F (a ++ c) (b ++ d)
  | _, _, _, _, .nil, h => h
  | _, _, _, _, .cons x y, h => .cons x (paired_app y h)
theorem tgs_nil {K : PySem.W.Frag} : TgsOk K gNil bNil [] := by
  intro G vs ds l r e
  cases r with
  | nil => cases e; exact ⟨[], .nil, fun p hp => (nomatch hp), fun H σ Q _ q => ⟨rfl, q⟩⟩
  | cons _ _ => cases e
theorem tgs_cons {K : PySem.W.Frag} {g : TG} {gs : TGs} {f : D → Option (List (Nat × D))} {fs : List D → Option (List (Nat × D))} {is js : List Nat} (h1 : TgOk K g f is) (h2 : TgsOk K gs fs js) : TgsOk K (gCons g gs) (bCons f fs) (is ++ js) := by
  intro G vs ds l r e
  cases r with
  | nil => cases e
  | @cons v vs d ds r1 r2 =>
    unfold bCons at e
    cases e1 : f d with
    | none => simp only [e1] at e; cases e
    | some l1 =>
      cases e2 : fs ds with
      | none => simp only [e1, e2] at e; cases e
      | some l2 =>
        simp only [e1, e2] at e
        cases e
        obtain ⟨lv1, p1, i1, q1⟩ := h1 G v d l1 r1 e1
        obtain ⟨lv2, p2, i2, q2⟩ := h2 G vs ds l2 r2 e2
        refine ⟨lv1 ++ lv2, paired_app p1 p2, fun p hp => ?_, fun H σ Q s q => ?_⟩
        · rcases List.mem_append.mp hp with z | z
          · exact List.mem_append_left _ (i1 p z)
          · exact List.mem_append_right _ (i2 p z)
        · rw [setAll_app] at q
          exact ⟨v, vs, rfl, q1 H σ _ s (q2 H _ Q s q)⟩
def bTup (n : Nat) (f : List D → Option (List (Nat × D))) : D → Option (List (Nat × D))
  | .tup ds => if ds.length = n then f ds else none
  | _ => none
theorem tg_tup {K : PySem.W.Frag} {gs : TGs} {fs : List D → Option (List (Nat × D))} {is : List Nat} (n : Nat) (h : TgsOk K gs fs is) : TgOk K (gTup K n gs) (bTup n fs) is := by
  intro G v d l r e
  cases r with
  | @tup a vs ds h1 h2 =>
    have e' : (if ds.length = n then fs ds else none) = some l := e
    by_cases hn : ds.length = n
    · rw [if_pos hn] at e'
      obtain ⟨lv, p1, i1, q1⟩ := h G vs ds l h2 e'
      exact ⟨lv, p1, i1, fun H σ Q s q => ⟨a, vs, rfl, SameF.sqt s h1, by rw [h2.length]; exact hn, q1 H σ Q s q⟩⟩
    · rw [if_neg hn] at e'; cases e'
  | _ => cases e
theorem RS.set {K : PySem.W.Frag} {G : Hp} {σ : L2.St} {ρ : Env} {i : Nat} {v : V} {d : D} (h : RS K G σ ρ) (r : Rp K G v d) : RS K G (σ.set i (some v)) (ρ.set i (some d)) := by
  have hl := h.len
  refine ⟨by simpa using hl, ?_⟩
  intro j d' e
  by_cases hj : i = j
  · subst hj
    by_cases hi : i < ρ.length
    · rw [List.getElem?_set_self hi] at e
      cases e
      exact ⟨v, List.getElem?_set_self (Nat.lt_of_lt_of_le hi hl), r⟩
    · rw [List.getElem?_eq_none (by simpa using hi)] at e
      cases e
  · rw [List.getElem?_set_ne hj] at e
    obtain ⟨w, h1, h2⟩ := h.get j d' e
    exact ⟨w, by rw [List.getElem?_set_ne hj]; exact h1, h2⟩
theorem RS.setAll {K : PySem.W.Frag} {G : Hp} : ∀ {lv : List (Nat × V)} {l : List (Nat × D)} {σ : L2.St} {ρ : Env}, RpP K G lv l → RS K G σ ρ → RS K G (setAll σ lv) (setAllD ρ l)
  | _, _, _, _, .nil, h => h
  | (i, v) :: lv, (j, d) :: l, σ, ρ, .cons ⟨e, r⟩ p, h => by
    have e : i = j := e
    subst e
    exact RS.setAll (lv := lv) (l := l) p (h.set r)
def wipeD (ρ : Env) : List Nat → Env
  | [] => ρ
  | v :: vs => (wipeD ρ vs).set v none
theorem wipeD_length (ρ : Env) : ∀ vs : List Nat, (wipeD ρ vs).length = ρ.length
  | [] => rfl
  | v :: vs => by unfold wipeD; rw [List.length_set, wipeD_length ρ vs]
theorem RS.wipe {K : PySem.W.Frag} {G : Hp} {σ : L2.St} {ρ : Env} (h : RS K G σ ρ) : ∀ vs : List Nat, RS K G (wipe σ vs) (wipeD ρ vs)
  | [] => h
  | v :: vs => by
    refine ⟨by rw [wipeD_length, wipe_length]; exact h.len, ?_⟩
    intro j d e
    have e' : ((wipeD ρ vs).set v none)[j]? = some (some d) := e
    have ih := RS.wipe h vs
    by_cases hj : v = j
    · subst hj
      by_cases hv : v < (wipeD ρ vs).length
      · rw [List.getElem?_set_self hv] at e'; cases e'
      · rw [List.getElem?_eq_none (by simpa using hv)] at e'; cases e'
    · rw [List.getElem?_set_ne hj] at e'
      obtain ⟨w, h1, h2⟩ := ih.get j d e'
      refine ⟨w, ?_, h2⟩
      show ((L2.wipe σ vs).set v none)[j]? = _
      rw [List.getElem?_set_ne hj]; exact h1
theorem wipe_set_in {σ : L2.St} {v : Nat} {x : Option V} : ∀ {vs : List Nat}, v ∈ vs → wipe (σ.set v x) vs = wipe σ vs
  | [], h => by cases h
  | u :: vs, h => by
    show (wipe (σ.set v x) vs).set u none = (wipe σ vs).set u none
    by_cases hv : v ∈ vs
    · rw [wipe_set_in hv]
    · have e : v = u := by
        rcases List.mem_cons.mp h with e | e
        · exact e
        · exact absurd e hv
      subst e
      have comm : ∀ (τ : L2.St) (ws : List Nat), v ∉ ws → wipe (τ.set v x) ws = (wipe τ ws).set v x := by
        intro τ ws
        induction ws with
        | nil => intro _; rfl
        | cons u ws ih =>
          intro hu
          have h1 : v ≠ u := fun z => hu (by simp [z])
          have h2 : v ∉ ws := fun z => hu (by simp [z])
          show (wipe (τ.set v x) ws).set u none = ((wipe τ ws).set u none).set v x
          rw [ih h2, List.set_comm _ _ h1]
      rw [comm σ vs hv, List.set_set]
theorem wipe_setAll {vs : List Nat} : ∀ {lv : List (Nat × V)} {σ : L2.St}, (∀ p ∈ lv, p.1 ∈ vs) → wipe (setAll σ lv) vs = wipe σ vs
  | [], _, _ => rfl
  | (i, v) :: r, σ, h => by
    show wipe (setAll (σ.set i (some v)) r) vs = wipe σ vs
    rw [wipe_setAll (fun p hp => h p (List.mem_cons_of_mem _ hp)), wipe_set_in (h (i, v) List.mem_cons_self)]
theorem wipe_wipe {σ : L2.St} : ∀ {vs ws : List Nat}, (∀ v ∈ vs, v ∈ ws) → wipe (wipe σ vs) ws = wipe σ ws
  | [], _, _ => rfl
  | v :: vs, ws, h => by
    show wipe ((wipe σ vs).set v none) ws = wipe σ ws
    rw [wipe_set_in (h v List.mem_cons_self), wipe_wipe fun u hu => h u (List.mem_cons_of_mem _ hu)]
def compM (bs : D → Option (List (Nat × D))) (c : Env → M Bool) (e : Env → M D) (ρ : Env) : List D → M (List D)
  | [] => M.ret []
  | x :: xs => match bs x with
    | none => M.fail
    | some l => M.bind (c (setAllD ρ l)) fun k => if k = true then M.bind (e (setAllD ρ l)) fun y => M.bind (compM bs c e ρ xs) fun ys => M.ret (y :: ys) else compM bs c e ρ xs
abbrev DTs (X : Cx) (ifs : List Expr) (f : Env → M Bool) : Prop := PTs X ifs (tFT X.K f)
theorem PTsimp {X : Cx} {ifs : List Expr} {t t' : TT} (h : PTs X ifs t) (i : ∀ σ H Q, t' σ H Q → t σ H Q) : PTs X ifs t' := ⟨fun pins s σ H Q I q => h.run pins s σ H Q I (i σ H Q q)⟩
theorem dts_nil {X : Cx} : DTs X [] (fun _ => M.ret true) := by
  refine PTsimp pts_nil ?_
  rintro σ H Q ⟨ρ, G, b, ds, b', rs, fz, ob, e, q⟩
  cases e
  exact q _ _ (Nxt.refl fz ob)
theorem dts_one {X : Cx} {c : Expr} {f : Env → M Bool} (h : DT X c f) : DTs X [c] f := pts_one h
theorem lc_f {K : PySem.W.Frag} {gi : Env → M (List D)} {g : TG} {bs : D → Option (List (Nat × D))} {is vs : List Nat} {c : Env → M Bool} {e : Env → M D} (tg : TgOk K g bs is) (his : ∀ i ∈ is, i ∈ vs) :
    ∀ σ H Q, tN K (fun ρ => M.bind (gi ρ) fun xs => M.bind (compM bs c e (wipeD ρ vs) xs) fun ys => M.guard (szL ys) (M.ret ys)) σ H Q → tLc (iF K gi) g (tFT K c) (tF K e) vs σ H Q := by
  rintro σ H Q ⟨ρ, G, b, ds, b', rs, fz, ob, e0, q⟩
  obtain ⟨xs, b1, e1, e2⟩ := M.bind_some e0
  obtain ⟨ys, b2, e2, e3⟩ := M.bind_some e2
  obtain ⟨hz, e4⟩ := M.guard_some e3
  cases e4
  have hz1 : ds.length ≤ sizeLine := of_decide_eq_true hz
  refine ⟨ρ, G, b, xs, b1, rs, fz, ob, e1, fun J G1 H1 n1 yl Dd hD => ?_⟩
  have m0 : Nxt G1 H1 b1 G1 (upd H1 Dd (.lst [])) b1 := Nxt.newH n1.fz n1.bag hD
  refine ⟨fun i m H2 => m = xs.length - i ∧ i ≤ xs.length ∧ ∃ G2 bb accv acc rest, Nxt G H b G2 H2 bb ∧ Same G1 G2 ∧ G2 Dd = none ∧ H2 Dd = some (.lst accv) ∧ RpL K G2 accv acc ∧ compM bs c e (wipeD ρ vs) (xs.drop i) bb = some (rest, b') ∧ acc ++ rest = ds,
    ⟨xs.length, by simp, Nat.zero_le _, G1, b1, [], [], ds, n1.trans m0, fun _ _ h => h, gnone n1.fz hD, upd_same, .nil, by simpa using e2, rfl⟩, ?_⟩
  rintro i m H2 ⟨rfl, hi, G2, bb, accv, acc, rest, n2, s12, gD, hDd, ra, ec, ea⟩
  have Y := yl i G2 H2 bb s12 n2.fz n2.bag
  by_cases hlt : i < xs.length
  · have hx : xs[i]? = some xs[i] := List.getElem?_eq_getElem hlt
    have hdr : xs.drop i = xs[i] :: xs.drop (i + 1) := List.drop_eq_getElem_cons hlt
    obtain ⟨hgo, hy⟩ := Y.1 _ hx
    refine .inr ⟨hgo, fun H3 => ∃ G2 bb accv acc rest, Nxt G H b G2 H3 bb ∧ Same G1 G2 ∧ G2 Dd = none ∧ H3 Dd = some (.lst accv) ∧ RpL K G2 accv acc ∧ compM bs c e (wipeD ρ vs) (xs.drop (i + 1)) bb = some (rest, b') ∧ acc ++ rest = ds,
      fun H' h' => ⟨xs.length - (i + 1), by omega, rfl, hlt, h'⟩, fun x H3 hyl => ?_⟩
    obtain ⟨G3, n3, rx⟩ := hy x H3 hyl
    rw [hdr] at ec
    unfold compM at ec
    cases eb : bs xs[i] with
    | none => rw [eb] at ec; cases ec
    | some l =>
      rw [eb] at ec
      obtain ⟨lv, pl, il, gq⟩ := tg G3 x xs[i] l rx eb
      refine gq H3 _ _ n3.fz ?_
      have rsb : RS K G3 (setAll (wipe σ vs) lv) (setAllD (wipeD ρ vs) l) := by
        refine RS.setAll pl (RS.wipe (rs.mono ?_) vs)
        exact fun a o h => n3.gg a o (n2.gg a o h)
      refine ⟨?_, ?_⟩
      · rw [wipe_setAll fun p hp => his _ (il p hp)]
        exact wipe_wipe fun v hv => hv
      · obtain ⟨k, b3, ek, ec⟩ := M.bind_some ec
        have gD3 : G3 Dd = none := n3.new Dd _ hDd gD
        have nb : ¬ bb.hit Dd := by rw [← Bs.like_at n2.like]; exact bag_ne ob (n1.free hD)
        have hD3 : H3 Dd = some (.lst accv) := n3.keep Dd _ hDd nb
        refine ⟨_, G3, bb, k, b3, rsb, n3.fz, n3.bag, ek, fun G4 H4 n4 => ?_⟩
        have gD4 : G4 Dd = none := n4.new Dd _ hD3 gD3
        have hD4 : H4 Dd = some (.lst accv) := n4.keep Dd _ hD3 nb
        have nb3 : ¬ b3.hit Dd := by rw [← Bs.like_at n4.like]; exact nb
        cases k with
        | false =>
          refine iteF ⟨G4, b3, accv, acc, rest, (n2.trans n3).trans n4, fun a o h => n4.gg a o (n3.gg a o (s12 a o h)), gD4, hD4, (ra.mono n3.gg).mono n4.gg, ec, ea⟩
        | true =>
          refine iteT ?_
          obtain ⟨y, b4, ey, ec⟩ := M.bind_some ec
          obtain ⟨ys2, b5, ey2, ec⟩ := M.bind_some ec
          cases ec
          refine ⟨_, G4, b3, y, b4, rsb.mono n4.gg, n4.fz, n4.bag, ey, fun v G5 H5 n5 rv => ?_⟩
          have gD5 : G5 Dd = none := n5.new Dd _ hD4 gD4
          have hD5 : H5 Dd = some (.lst accv) := n5.keep Dd _ hD4 nb3
          have la : accv.length = acc.length := ra.length
          have lz : acc.length < sizeLine := by
            have := congrArg List.length ea
            simp at this
            omega
          refine ⟨accv, hD5, by rw [la]; exact lz, ?_⟩
          refine ⟨G5, b4, accv ++ [v], acc ++ [y], ys2, (((n2.trans n3).trans n4).trans n5).mut ob (n1.free hD) gD5 (nc_of hD5), fun a o h => n5.gg a o (n4.gg a o (n3.gg a o (s12 a o h))), gD5, upd_same, (((ra.mono n3.gg).mono n4.gg).mono n5.gg).append (.cons rv .nil), ey2, ?_⟩
          rw [← ea]; simp
  · have e : i = xs.length := by omega
    subst e
    refine .inl ⟨Y.2 (Nat.le_refl _), ?_⟩
    have hr : xs.drop xs.length = [] := by simp
    rw [hr] at ec
    cases ec
    simp at ea
    subst ea
    exact q Dd accv G2 H2 n2 (n1.free hD) gD hDd ra
theorem dn_lc {X : Cx} {elt tg iter : Expr} {ifs : List Expr} {scope : Scope} {own : List (Str × Nat)} {pos : Pos} {gi : Env → M (List D)} {g : TG} {bs : D → Option (List (Nat × D))} {is : List Nat} {c : Env → M Bool} {e : Env → M D}
    (hc : X.calm = true) (hN : X.N.Nodup) (hi : DI X tg iter gi) (ok : BlkOk X.N X.env.scope scope own) (ht : TgOk X.K g bs is) (his : is.all (fun i => (own.map (·.2)).contains i) = true)
    (hg : ∀ (s : Shared) (H : Hp) (C : Addr) (cl : List (Str × Addr)) (fp : List Addr), PG (X.blk s H scope (compEnvC scope cl C X.env) fp) tg g) (htt : ∀ (s : Shared) (H : Hp) (C : Addr) (cl : List (Str × Addr)) (fp : List Addr), DTs (X.blk s H scope (compEnvC scope cl C X.env) fp) ifs c)
    (he : ∀ (s : Shared) (H : Hp) (C : Addr) (cl : List (Str × Addr)) (fp : List Addr), DE (X.blk s H scope (compEnvC scope cl C X.env) fp) elt e) (hs : ∀ x, foldedSetIterable iter X.env x = pure x := by intro _; rfl) :
    DN X (.ListComp elt [⟨tg, iter, ifs, 0⟩] scope pos) (fun ρ => M.bind (gi ρ) fun xs => M.bind (compM bs c e (wipeD ρ (own.map (·.2))) xs) fun ys => M.guard (szL ys) (M.ret ys)) :=
  PEimp (pe_lc hc hN hi ok hg htt he hs) (lc_f ht fun i hi => by
    have := List.all_eq_true.mp his i hi
    simpa using this)
end DL
set_option Elab.async false
set_option maxRecDepth 100000
set_option autoImplicit false
set_option linter.unusedVariables false
set_option maxHeartbeats 4000000
namespace DL
open PySem L2
variable [TAB : TabList]
variable [EFF : Eff]
set_option linter.unusedSectionVars false
inductive O where
  | v (d : D) | l (xs : List O) | k (ks : List Key) (xs : List O) | t (ks : List (List Key)) (xs : List O) | u (xs : List O)
mutual
def O.toD : O → D
  | .v d => d
  | .l xs => .lst (O.toDs xs)
  | .k ks xs => .dct ks (O.toDs xs)
  | .t ks xs => .dcT ks (O.toDs xs)
  | .u xs => .tup (O.toDs xs)
def O.toDs : List O → List D
  | [] => []
  | x :: r => x.toD :: O.toDs r
end
theorem O.toDs_v : ∀ xs : List D, O.toDs (xs.map O.v) = xs
  | [] => rfl
  | x :: r => by
    show _ :: O.toDs (r.map O.v) = _
    rw [O.toDs_v r]; rfl
mutual
inductive Ow (K : PySem.W.Frag) (G H : Hp) : V → O → List Addr → Prop
  | v {v : V} {d : D} : Rp K G v d → Ow K G H v (.v d) []
  | l {p : Addr} {vs : List V} {xs : List O} {fp : List Addr} : H p = some (.lst vs) → OwL K G H vs xs fp → Ow K G H (.ref p) (.l xs) (p :: fp)
  | k {p : Addr} {ks : List Key} {vs : List V} {xs : List O} {fp : List Addr} : H p = some (.dK (ks.zip vs)) → ks.length = vs.length → OwL K G H vs xs fp → Ow K G H (.ref p) (.k ks xs) (p :: fp)
  | t {p : Addr} {ks : List (List Key)} {vs : List V} {xs : List O} {fp : List Addr} : H p = some (.dT (ks.zip vs)) → ks.length = vs.length → OwL K G H vs xs fp → Ow K G H (.ref p) (.t ks xs) (p :: fp)
  | u {p : Addr} {vs : List V} {xs : List O} {fp : List Addr} : SqT K G p vs → OwL K G H vs xs fp → Ow K G H (.ref p) (.u xs) fp
inductive OwL (K : PySem.W.Frag) (G H : Hp) : List V → List O → List Addr → Prop
  | nil : OwL K G H [] [] []
  | cons {v : V} {vs : List V} {x : O} {xs : List O} {fp fq : List Addr} : Ow K G H v x fp → OwL K G H vs xs fq → OwL K G H (v :: vs) (x :: xs) (fp ++ fq)
end
mutual
theorem Ow.mono {K : PySem.W.Frag} {G H G' H' : Hp} (e : Same G G') : ∀ {v : V} {o : O} {fp : List Addr}, (∀ a ∈ fp, H' a = H a) → Ow K G H v o fp → Ow K G' H' v o fp
  | _, _, _, _, .v r => .v (r.mono e)
  | _, _, _, h, .l hp r => .l (by rw [h _ List.mem_cons_self]; exact hp) (OwL.mono e (fun a ha => h a (List.mem_cons_of_mem _ ha)) r)
  | _, _, _, h, .k hp hl r => .k (by rw [h _ List.mem_cons_self]; exact hp) hl (OwL.mono e (fun a ha => h a (List.mem_cons_of_mem _ ha)) r)
  | _, _, _, h, .t hp hl r => .t (by rw [h _ List.mem_cons_self]; exact hp) hl (OwL.mono e (fun a ha => h a (List.mem_cons_of_mem _ ha)) r)
  | _, _, _, h, .u hp r => .u (Same.sqt e hp) (OwL.mono e h r)
theorem OwL.mono {K : PySem.W.Frag} {G H G' H' : Hp} (e : Same G G') : ∀ {vs : List V} {os : List O} {fp : List Addr}, (∀ a ∈ fp, H' a = H a) → OwL K G H vs os fp → OwL K G' H' vs os fp
  | _, _, _, _, .nil => .nil
  | _, _, _, h, .cons a b => .cons (Ow.mono e (fun z hz => h z (List.mem_append_left _ hz)) a) (OwL.mono e (fun z hz => h z (List.mem_append_right _ hz)) b)
end
mutual
theorem Ow.rp {K : PySem.W.Frag} {G H Gp : Hp} (e : Same G Gp) : ∀ {v : V} {o : O} {fp : List Addr}, (∀ a ∈ fp, Gp a = H a) → Ow K G H v o fp → Rp K Gp v o.toD
  | _, _, _, _, .v r => r.mono e
  | _, _, _, h, .l hp r => .lst (by rw [h _ List.mem_cons_self]; exact hp) (OwL.rp e (fun a ha => h a (List.mem_cons_of_mem _ ha)) r)
  | _, _, _, h, .k hp hl r => .dct (.of (by rw [h _ List.mem_cons_self]; exact hp)) hl (OwL.rp e (fun a ha => h a (List.mem_cons_of_mem _ ha)) r)
  | _, _, _, h, .t hp hl r => .dcT (.of (by rw [h _ List.mem_cons_self]; exact hp)) hl (OwL.rp e (fun a ha => h a (List.mem_cons_of_mem _ ha)) r)
  | _, _, _, h, .u hp r => .tup (Same.sqt e hp) (OwL.rp e h r)
theorem OwL.rp {K : PySem.W.Frag} {G H Gp : Hp} (e : Same G Gp) : ∀ {vs : List V} {os : List O} {fp : List Addr}, (∀ a ∈ fp, Gp a = H a) → OwL K G H vs os fp → RpL K Gp vs (O.toDs os)
  | _, _, _, _, .nil => .nil
  | _, _, _, h, .cons a b => .cons (Ow.rp e (fun z hz => h z (List.mem_append_left _ hz)) a) (OwL.rp e (fun z hz => h z (List.mem_append_right _ hz)) b)
end
theorem OwL.flat {K : PySem.W.Frag} {G H : Hp} : ∀ {vs : List V} {ds : List D}, RpL K G vs ds → OwL K G H vs (ds.map O.v) []
  | _, _, .nil => .nil
  | _, _, .cons a r => OwL.cons (fp := []) (fq := []) (.v a) (OwL.flat r)
theorem OwL.unflat {K : PySem.W.Frag} {G H : Hp} : ∀ {vs : List V} {ds : List D} {fp : List Addr}, OwL K G H vs (ds.map O.v) fp → RpL K G vs ds ∧ fp = []
  | _, [], _, .nil => ⟨.nil, rfl⟩
  | _, d :: ds, _, .cons (.v a) r => by
    obtain ⟨h1, h2⟩ := OwL.unflat r
    exact ⟨.cons a h1, by rw [h2]; rfl⟩
mutual
theorem Ow.nc {K : PySem.W.Frag} {G H : Hp} : ∀ {v : V} {o : O} {fp : List Addr}, Ow K G H v o fp → ∀ a ∈ fp, ∀ c q, H a ≠ some (LamX.CodeO c q)
  | _, _, _, .v _, a, ha => nomatch ha
  | _, _, _, .l hp r, a, ha => by
    rcases List.mem_cons.mp ha with rfl | ha
    · exact nc_of hp
    · exact OwL.nc r a ha
  | _, _, _, .k hp _ r, a, ha => by
    rcases List.mem_cons.mp ha with rfl | ha
    · exact nc_of hp
    · exact OwL.nc r a ha
  | _, _, _, .t hp _ r, a, ha => by
    rcases List.mem_cons.mp ha with rfl | ha
    · exact nc_of hp
    · exact OwL.nc r a ha
  | _, _, _, .u _ r, a, ha => OwL.nc r a ha
theorem OwL.nc {K : PySem.W.Frag} {G H : Hp} : ∀ {vs : List V} {os : List O} {fp : List Addr}, OwL K G H vs os fp → ∀ a ∈ fp, ∀ c q, H a ≠ some (LamX.CodeO c q)
  | _, _, _, .nil, a, ha => nomatch ha
  | _, _, _, .cons x r, a, ha => by
    rcases List.mem_append.mp ha with ha | ha
    · exact Ow.nc x a ha
    · exact OwL.nc r a ha
end
theorem OwL.length {K : PySem.W.Frag} {G H : Hp} : ∀ {vs : List V} {os : List O} {fp : List Addr}, OwL K G H vs os fp → vs.length = os.length
  | _, _, _, .nil => rfl
  | _, _, _, .cons _ b => by simp [OwL.length b]
mutual
theorem Ow.ng {K : PySem.W.Frag} {G H : Hp} : ∀ {v : V} {o : O} {fp : List Addr}, Ow K G H v o fp → ∀ a ∈ fp, ∀ k, H a ≠ some (ghost k)
  | _, _, _, .v _, a, ha => nomatch ha
  | _, _, _, .l hp r, a, ha => by
    rcases List.mem_cons.mp ha with rfl | ha
    · intro k z; rw [hp] at z; cases z
    · exact OwL.ng r a ha
  | _, _, _, .k hp _ r, a, ha => by
    rcases List.mem_cons.mp ha with rfl | ha
    · intro k z; rw [hp] at z; cases z
    · exact OwL.ng r a ha
  | _, _, _, .t hp _ r, a, ha => by
    rcases List.mem_cons.mp ha with rfl | ha
    · intro k z; rw [hp] at z; cases z
    · exact OwL.ng r a ha
  | _, _, _, .u _ r, a, ha => OwL.ng r a ha
theorem OwL.ng {K : PySem.W.Frag} {G H : Hp} : ∀ {vs : List V} {os : List O} {fp : List Addr}, OwL K G H vs os fp → ∀ a ∈ fp, ∀ k, H a ≠ some (ghost k)
  | _, _, _, .nil, a, ha => nomatch ha
  | _, _, _, .cons x r, a, ha => by
    rcases List.mem_append.mp ha with ha | ha
    · exact Ow.ng x a ha
    · exact OwL.ng r a ha
end
inductive Slot where
  | val (d : D)
  | own (xs : List D)
  | tr (o : O)
def Slot.see : Slot → D
  | .val d => d
  | .own xs => .lst xs
  | .tr o => o.toD
def Slot.tree : Slot → Option O
  | .val _ => none
  | .own xs => some (.l (xs.map O.v))
  | .tr o => some o
theorem Slot.see_tree {s : Slot} {o : O} (h : s.tree = some o) : s.see = o.toD := by
  cases s with
  | val d => cases h
  | own xs => cases h; show D.lst xs = .lst (O.toDs (xs.map O.v)); rw [O.toDs_v]
  | tr o => cases h; rfl
abbrev Env2 := List (Option Slot)
def viewAt (ms : List Nat) : Nat → Env2 → Env
  | _, [] => []
  | i, s :: r => (if ms.contains i then s.map Slot.see else none) :: viewAt ms (i + 1) r
def view (ms : List Nat) (ρ : Env2) : Env := viewAt ms 0 ρ
def frzAt (ms : List Nat) : Nat → Env2 → Env2
  | _, [] => []
  | i, s :: r => (if ms.contains i then s.map (fun s => Slot.val s.see) else s) :: frzAt ms (i + 1) r
def frz (ms : List Nat) (ρ : Env2) : Env2 := frzAt ms 0 ρ
theorem viewAt_get (ms : List Nat) : ∀ (ρ : Env2) (k i : Nat), (viewAt ms k ρ)[i]? = ρ[i]?.map fun s => if ms.contains (k + i) then s.map Slot.see else none
  | [], k, i => by simp [viewAt]
  | s :: r, k, 0 => by simp [viewAt]
  | s :: r, k, i + 1 => by
    simp only [viewAt, List.getElem?_cons_succ]
    rw [viewAt_get ms r (k + 1) i, show k + 1 + i = k + (i + 1) by omega]
theorem frzAt_get (ms : List Nat) : ∀ (ρ : Env2) (k i : Nat), (frzAt ms k ρ)[i]? = ρ[i]?.map fun s => if ms.contains (k + i) then s.map (fun s => Slot.val s.see) else s
  | [], k, i => by simp [frzAt]
  | s :: r, k, 0 => by simp [frzAt]
  | s :: r, k, i + 1 => by
    simp only [frzAt, List.getElem?_cons_succ]
    rw [frzAt_get ms r (k + 1) i, show k + 1 + i = k + (i + 1) by omega]
theorem viewAt_len (ms : List Nat) : ∀ (ρ : Env2) (k : Nat), (viewAt ms k ρ).length = ρ.length
  | [], _ => rfl
  | _ :: r, k => by simp [viewAt, viewAt_len ms r]
theorem frzAt_len (ms : List Nat) : ∀ (ρ : Env2) (k : Nat), (frzAt ms k ρ).length = ρ.length
  | [], _ => rfl
  | _ :: r, k => by simp [frzAt, frzAt_len ms r]
theorem view_some {ms : List Nat} {ρ : Env2} {i : Nat} {d : D} (h : (view ms ρ)[i]? = some (some d)) : ms.contains i = true ∧ ∃ s, ρ[i]? = some (some s) ∧ s.see = d := by
  unfold view at h
  rw [viewAt_get, Nat.zero_add] at h
  cases e : ρ[i]? with
  | none => rw [e] at h; cases h
  | some o =>
    rw [e] at h
    simp only [Option.map_some, Option.some.injEq] at h
    cases hc : ms.contains i with
    | false => rw [hc] at h; cases h
    | true =>
      rw [hc] at h
      cases o with
      | none => cases h
      | some s => simp at h; exact ⟨rfl, s, rfl, h⟩
theorem frz_in {ms : List Nat} {ρ : Env2} {i : Nat} {s : Slot} (h : (frz ms ρ)[i]? = some (some s)) : (ms.contains i = true ∧ ∃ s0, ρ[i]? = some (some s0) ∧ s = .val s0.see) ∨ (ms.contains i = false ∧ ρ[i]? = some (some s)) := by
  unfold frz at h
  rw [frzAt_get, Nat.zero_add] at h
  cases e : ρ[i]? with
  | none => rw [e] at h; cases h
  | some o =>
    rw [e] at h
    simp only [Option.map_some, Option.some.injEq] at h
    cases hc : ms.contains i with
    | false => rw [hc] at h; simp at h; exact .inr ⟨rfl, by rw [h]⟩
    | true =>
      rw [hc] at h
      cases o with
      | none => cases h
      | some s0 => simp at h; exact .inl ⟨rfl, s0, rfl, h.symm⟩
structure En where
  G : Hp
  H : Hp
  b : Bs
structure OwnAll (K : PySem.W.Frag) (EH : Hp) (σ : L2.St) (ρ : Env2) (G H : Hp) (b : Bs) (fp : Nat → List Addr) : Prop where
  at_ : ∀ (i : Nat) (s : Slot) (o : O), ρ[i]? = some (some s) → s.tree = some o → ∃ v, σ[i]? = some (some v) ∧ Ow K G H v o (fp i)
  ok : ∀ (i : Nat) (a : Addr), a ∈ fp i → EH a = none ∧ G a = none ∧ ¬ b.hit a ∧ H a ≠ none
  nd : ∀ i, (fp i).Nodup
  dj : ∀ (i j : Nat) (a : Addr), a ∈ fp i → a ∈ fp j → i = j
structure SI (K : PySem.W.Frag) (E : En) (σ : L2.St) (ρ : Env2) (G H : Hp) (b : Bs) : Prop where
  fz : SameF G H
  g0 : Same E.G G
  new : ∀ a o, E.H a = some o → E.G a = none → G a = none
  keep : ∀ a o, E.H a = some o → ¬ E.b.hit a → (EFF.x = true → ∀ k, E.G a ≠ some (ghost k)) → H a = some o
  bag : BagOk G H b
  like : E.b.likeB EFF.x b
  len : ρ.length ≤ σ.length
  val : ∀ (i : Nat) (d : D), ρ[i]? = some (some (Slot.val d)) → ∃ v, σ[i]? = some (some v) ∧ Rp K G v d
  own : ∃ fp : Nat → List Addr, OwnAll K E.H σ ρ G H b fp
section
variable {K : PySem.W.Frag} {E : En} {σ : L2.St} {ρ : Env2} {G H G' H' : Hp} {b b' : Bs}
theorem SI.nxt (I : SI K E σ ρ G H b) : NxtB EFF.x E.G E.H E.b G H b := ⟨I.g0, I.fz, I.keep, I.new, I.bag, I.like⟩
theorem some_of {H : Hp} {a : Addr} (h : H a ≠ none) : ∃ o, H a = some o := by
  cases e : H a with
  | none => exact absurd e h
  | some o => exact ⟨o, rfl⟩
theorem OwnAll.step {fp : Nat → List Addr} (w : OwnAll K E.H σ ρ G H b fp) (n : Nxt G H b G' H' b') : OwnAll K E.H σ ρ G' H' b' fp where
  at_ := fun i s o h1 h2 => by
    obtain ⟨v, h3, h4⟩ := w.at_ i s o h1 h2
    refine ⟨v, h3, h4.mono n.gg fun a ha => ?_⟩
    obtain ⟨_, _, k3, k4⟩ := w.ok i a ha
    obtain ⟨u, hu⟩ := some_of k4
    rw [n.keep a u hu k3, hu]
  ok := fun i a ha => by
    obtain ⟨k1, k2, k3, k4⟩ := w.ok i a ha
    obtain ⟨u, hu⟩ := some_of k4
    refine ⟨k1, n.new a u hu k2, by rw [← Bs.like_at n.like]; exact k3, ?_⟩
    rw [n.keep a u hu k3]
    exact fun z => nomatch z
  nd := w.nd
  dj := w.dj
theorem SI.step (I : SI K E σ ρ G H b) (n : Nxt G H b G' H' b') : SI K E σ ρ G' H' b' := by
  have t := I.nxt.trans n.upB
  refine ⟨t.fz, t.gg, t.new, t.keepB, t.bag, t.like, I.len, fun i d h => ?_, ?_⟩
  · obtain ⟨v, h1, h2⟩ := I.val i d h
    exact ⟨v, h1, h2.mono n.gg⟩
  · obtain ⟨fp, w⟩ := I.own
    exact ⟨fp, w.step n⟩
noncomputable def SI.gp (I : SI K E σ ρ G H b) (ms : List Nat) : Hp := fun a =>
  haveI := Classical.propDecidable ((∃ i : Nat, ms.contains i = true ∧ a ∈ Classical.choose I.own i) ∧ ∀ k, H a ≠ some (ghost k))
  if (∃ i : Nat, ms.contains i = true ∧ a ∈ Classical.choose I.own i) ∧ ∀ k, H a ≠ some (ghost k) then H a else G a
theorem SI.gp_in (I : SI K E σ ρ G H b) {ms : List Nat} {i : Nat} {a : Addr} (h1 : ms.contains i = true) (h2 : a ∈ Classical.choose I.own i) (h3 : ∀ k, H a ≠ some (ghost k)) : I.gp ms a = H a := by
  unfold SI.gp
  exact if_pos ⟨⟨i, h1, h2⟩, h3⟩
theorem SI.gp_out (I : SI K E σ ρ G H b) {ms : List Nat} {a : Addr} (h : ¬ ∃ i : Nat, ms.contains i = true ∧ a ∈ Classical.choose I.own i) : I.gp ms a = G a := by
  unfold SI.gp
  exact if_neg fun z => h z.1
theorem SI.gp_or (I : SI K E σ ρ G H b) (ms : List Nat) (a : Addr) : ((∃ i : Nat, ms.contains i = true ∧ a ∈ Classical.choose I.own i) ∧ (∀ k, H a ≠ some (ghost k)) ∧ I.gp ms a = H a) ∨ I.gp ms a = G a := by
  haveI := Classical.propDecidable ((∃ i : Nat, ms.contains i = true ∧ a ∈ Classical.choose I.own i) ∧ ∀ k, H a ≠ some (ghost k))
  by_cases c : (∃ i : Nat, ms.contains i = true ∧ a ∈ Classical.choose I.own i) ∧ ∀ k, H a ≠ some (ghost k)
  · exact .inl ⟨c.1, c.2, by unfold SI.gp; exact if_pos c⟩
  · exact .inr (by unfold SI.gp; exact if_neg c)
theorem SI.gp1 (I : SI K E σ ρ G H b) (ms : List Nat) : Same G (I.gp ms) := fun a o h => by
  rcases I.gp_or ms a with ⟨⟨i, _, h2⟩, _, _⟩ | e
  · rw [((Classical.choose_spec I.own).ok i a h2).2.1] at h
    cases h
  · rw [e]; exact h
theorem SI.gp2 (I : SI K E σ ρ G H b) (ms : List Nat) : SameF (I.gp ms) H := fun a o h => by
  rcases I.gp_or ms a with ⟨_, _, e⟩ | e
  · rw [e] at h
    exact frOk_of h
  · rw [e] at h
    exact I.fz a o h
theorem SI.gpg (I : SI K E σ ρ G H b) (ms : List Nat) (a : Addr) (k : Nat) (h : I.gp ms a = some (ghost k)) : G a = some (ghost k) := by
  rcases I.gp_or ms a with ⟨_, n, e⟩ | e
  · rw [e] at h
    exact absurd h (n k)
  · rw [← e]; exact h
theorem SI.gpb (I : SI K E σ ρ G H b) (ms : List Nat) : BagOk (I.gp ms) H b := by
  have hg : ∀ a, b.hit a → I.gp ms a = none := fun a z => by
    rw [I.gp_out]
    · exact I.bag.hitG z
    · rintro ⟨i, _, h2⟩
      exact ((Classical.choose_spec I.own).ok i _ h2).2.2.1 z
  exact ⟨I.bag.1.ext (fun a z => hg a (.inl z)) (I.gp1 ms) (fun a z => rfl) (I.gpg ms) (fun a k z => rfl), I.bag.2.ext (fun p hp => hg _ (.inr ⟨p.2, hp⟩)) fun a u h => h⟩
theorem SI.rs (I : SI K E σ ρ G H b) (ms : List Nat) : RS K (I.gp ms) σ (view ms ρ) := by
  refine ⟨by unfold view; rw [viewAt_len]; exact I.len, fun i d h => ?_⟩
  obtain ⟨hm, s, hs, rfl⟩ := view_some h
  cases ht : s.tree with
  | none =>
    cases s with
    | val d =>
      obtain ⟨v, h1, h2⟩ := I.val i d hs
      exact ⟨v, h1, h2.mono (I.gp1 ms)⟩
    | own _ => cases ht
    | tr _ => cases ht
  | some o =>
    obtain ⟨v, h1, h2⟩ := (Classical.choose_spec I.own).at_ i s o hs ht
    refine ⟨v, h1, ?_⟩
    rw [Slot.see_tree ht]
    exact h2.rp (I.gp1 ms) fun a ha => I.gp_in hm ha (h2.ng a ha)
theorem bag_not {a : Addr} {o : HO} (ob : BagOk G H b) (h : G a = some o) : ¬ b.hit a := fun z => by
  rw [ob.hitG z] at h; cases h
theorem BagP.back (l : b.like b') (ob : BagP G H b) (ob' : BagP G' H' b') (ec : ∀ a k, G a = some (ghost k) → H' a = H a) : BagP G H' b' := by
  cases b with
  | none => cases b' with
    | none => exact ob
    | some _ => exact l.elim
  | some g => cases b' with
    | none => exact l.elim
    | some g' =>
      obtain ⟨l1, l2, l3, l4⟩ := l
      refine ⟨by rw [← l1]; exact ob.1, ob'.2.1, ?_, ?_⟩
      · rw [← l2, ← l3]; exact ob.2.2.1
      · rw [← l4 rfl]; exact ob.2.2.2.ext (fun _ _ h => h) (fun _ _ h => h) ec
theorem BagOk.back (l : b.like b') (ob : BagOk G H b) (ob' : BagOk G' H' b') (ec : ∀ a k, G a = some (ghost k) → H' a = H a) : BagOk G H' b' := ⟨ob.1.back l ob'.1 ec, fun p hp => ⟨(ob.2 p hp).1, (ob'.2 p hp).2⟩⟩
theorem SI.stayC {ms : List Nat} (I : SI K E σ ρ G H b) (n : Nxt (I.gp ms) H b G' H' b') (a : Addr) (k : Nat) (h : G a = some (ghost k)) : H' a = H a := by
  obtain ⟨o, e⟩ := I.bag.1.ne h
  rw [n.keep a o e (bag_not I.bag h), e]
theorem SI.flatW (I : SI K E σ ρ G H b) {ms : List Nat} (n : Nxt (I.gp ms) H b G' H' b') : ∃ fp, OwnAll K E.H σ ρ G H' b' fp ∧ ∀ j a, a ∈ fp j → H a ≠ none := by
  obtain ⟨fp, w⟩ := I.own
  refine ⟨fp, ⟨fun i s o h1 h2 => ?_, fun i a ha => ?_, w.nd, w.dj⟩, fun j a ha => (w.ok j a ha).2.2.2⟩
  · obtain ⟨v, h3, h4⟩ := w.at_ i s o h1 h2
    refine ⟨v, h3, h4.mono (fun _ _ h => h) fun a ha => ?_⟩
    obtain ⟨_, _, k3, k4⟩ := w.ok i a ha
    obtain ⟨u, hu⟩ := some_of k4
    rw [n.keep a u hu k3, hu]
  · obtain ⟨k1, k2, k3, k4⟩ := w.ok i a ha
    obtain ⟨u, hu⟩ := some_of k4
    refine ⟨k1, k2, by rw [← Bs.like_at n.like]; exact k3, ?_⟩
    rw [n.keep a u hu k3]
    exact fun z => nomatch z
theorem SI.flat (I : SI K E σ ρ G H b) {ms : List Nat} (n : Nxt (I.gp ms) H b G' H' b') : SI K E σ ρ G H' b' := by
  have nb : ∀ a o, G a = some o → ¬ b.hit a := fun a o h => bag_not I.bag h
  refine ⟨fun a o h => ?_, I.g0, I.new, fun a o h hb hg => n.keep a o (I.keep a o h hb hg) (by rw [← Bs.like_at I.like]; exact hb), ?_, Bs.like_trans I.like (Bs.like_up n.like), I.len, I.val, ?_⟩
  · obtain ⟨u, hu⟩ := some_of (frOk_ne (I.fz a o h))
    have e := n.keep a u hu (nb a o h)
    rw [e, ← hu]
    exact I.fz a o h
  · exact I.bag.back n.like n.bag (I.stayC n)
  · obtain ⟨fp, w, _⟩ := I.flatW n
    exact ⟨fp, w⟩
theorem SI.frzWB (I : SI K E σ ρ G H b) {ms : List Nat} (n : NxtB EFF.x (I.gp ms) H b G' H' b') : ∃ fp, OwnAll K E.H σ (frz ms ρ) G' H' b' fp ∧ ∀ j a, a ∈ fp j → H a ≠ none := by
  have gg : Same G G' := fun a o h => n.gg a o (I.gp1 ms a o h)
  have w := Classical.choose_spec I.own
  have hin : ∀ i a, a ∈ (if ms.contains i = true then [] else Classical.choose I.own i) → ms.contains i = false ∧ a ∈ Classical.choose I.own i := fun i a ha => by
    by_cases hm : ms.contains i = true
    · rw [if_pos hm] at ha; cases ha
    · rw [if_neg hm] at ha; exact ⟨by simpa using hm, ha⟩
  refine ⟨fun i => if ms.contains i = true then [] else Classical.choose I.own i, ⟨fun i s o h1 h2 => ?_, fun i a ha => ?_, fun i => ?_, fun i j a ha hb => w.dj i j a (hin i a ha).2 (hin j a hb).2⟩, fun j a ha => (w.ok j a (hin j a ha).2).2.2.2⟩
  · rcases frz_in h1 with ⟨hm, s0, hs, e⟩ | ⟨hm, hs⟩
    · rw [e] at h2; cases h2
    · obtain ⟨v, h3, h4⟩ := w.at_ i s o hs h2
      show ∃ v, σ[i]? = some (some v) ∧ Ow K G' H' v o (if ms.contains i = true then [] else Classical.choose I.own i)
      rw [if_neg (by rw [hm]; exact Bool.false_ne_true)]
      refine ⟨v, h3, h4.mono gg fun a ha => ?_⟩
      obtain ⟨_, k2, k3, k4⟩ := w.ok i a ha
      obtain ⟨u, hu⟩ := some_of k4
      rw [n.keepB a u hu k3 (fun _ k y => by rw [I.gpg ms a k y] at k2; cases k2), hu]
  · obtain ⟨hm, ha⟩ := hin i a ha
    obtain ⟨k1, k2, k3, k4⟩ := w.ok i a ha
    obtain ⟨u, hu⟩ := some_of k4
    refine ⟨k1, n.new a u hu ?_, by rw [← Bs.like_at n.like]; exact k3, ?_⟩
    · rw [I.gp_out]
      · exact k2
      · rintro ⟨j, hj, h2⟩
        rw [w.dj i j a ha h2, hj] at hm
        cases hm
    · rw [n.keepB a u hu k3 (fun _ k y => by rw [I.gpg ms a k y] at k2; cases k2)]
      exact fun z => nomatch z
  · show (if ms.contains i = true then [] else Classical.choose I.own i).Nodup
    split
    · exact List.nodup_nil
    · exact w.nd i
theorem SI.frzB (I : SI K E σ ρ G H b) {ms : List Nat} (n : NxtB EFF.x (I.gp ms) H b G' H' b') : SI K E σ (frz ms ρ) G' H' b' := by
  have gg : Same G G' := fun a o h => n.gg a o (I.gp1 ms a o h)
  have w := Classical.choose_spec I.own
  refine ⟨n.fz, fun a o h => gg a o (I.g0 a o h), fun a o h hn => ?_, fun a o h hb hg => n.keepB a o (I.keep a o h hb hg) (by rw [← Bs.like_at I.like]; exact hb) (fun z k y => no_ghost I.g0 I.new h (hg z) k (I.gpg ms a k y)), n.bag, Bs.like_trans I.like n.like,
    by unfold DL.frz; rw [frzAt_len]; exact I.len, fun i d h => ?_, ?_⟩
  · by_cases z : E.b.hit a
    · exact n.bag.hitG (by rw [← Bs.like_at n.like, ← Bs.like_at I.like]; exact z)
    · refine n.new a o (I.keep a o h z fun _ k y => by rw [hn] at y; cases y) ?_
      rw [I.gp_out]
      · exact I.new a o h hn
      · rintro ⟨i, _, h2⟩
        rw [(w.ok i a h2).1] at h
        cases h
  · rcases frz_in h with ⟨hm, s0, hs, e⟩ | ⟨hm, hs⟩
    · cases e
      obtain ⟨v, h1, h2⟩ := (I.rs ms).get i s0.see (by
        unfold view
        rw [viewAt_get, hs, Nat.zero_add, hm]
        rfl)
      exact ⟨v, h1, h2.mono n.gg⟩
    · obtain ⟨v, h1, h2⟩ := I.val i d hs
      exact ⟨v, h1, h2.mono gg⟩
  · obtain ⟨fp, w, _⟩ := I.frzWB n
    exact ⟨fp, w⟩
theorem SI.frzW (I : SI K E σ ρ G H b) {ms : List Nat} (n : Nxt (I.gp ms) H b G' H' b') : ∃ fp, OwnAll K E.H σ (frz ms ρ) G' H' b' fp ∧ ∀ j a, a ∈ fp j → H a ≠ none := I.frzWB n.upB
theorem SI.frz (I : SI K E σ ρ G H b) {ms : List Nat} (n : Nxt (I.gp ms) H b G' H' b') : SI K E σ (frz ms ρ) G' H' b' := I.frzB n.upB
theorem set_old {i j : Nat} {s s' : Slot} (hj : i ≠ j) (h : (ρ.set i (some s))[j]? = some (some s')) : ρ[j]? = some (some s') := by
  rw [List.getElem?_set_ne hj] at h; exact h
theorem set_self {i : Nat} {s s' : Slot} (h : (ρ.set i (some s))[i]? = some (some s')) : s' = s ∧ i < ρ.length := by
  by_cases hi : i < ρ.length
  · rw [List.getElem?_set_self hi] at h; cases h; exact ⟨rfl, hi⟩
  · rw [List.getElem?_eq_none (by simpa using hi)] at h; cases h
theorem SI.set (I : SI K E σ ρ G H b) {i : Nat} {v : V} {d : D} (r : Rp K G v d) : SI K E (σ.set i (some v)) (ρ.set i (some (.val d))) G H b := by
  obtain ⟨fp, w⟩ := I.own
  refine ⟨I.fz, I.g0, I.new, I.keep, I.bag, I.like, by simpa using I.len, fun j d' h => ?_, fp, fun j s o h1 h2 => ?_, w.ok, w.nd, w.dj⟩
  · by_cases hj : i = j
    · subst hj
      obtain ⟨e, hi⟩ := set_self h
      cases e
      exact ⟨v, List.getElem?_set_self (Nat.lt_of_lt_of_le hi I.len), r⟩
    · obtain ⟨u, e1, e2⟩ := I.val j d' (set_old hj h)
      exact ⟨u, by rw [List.getElem?_set_ne hj]; exact e1, e2⟩
  · by_cases hj : i = j
    · subst hj
      obtain ⟨e, hi⟩ := set_self h1
      subst e
      cases h2
    · obtain ⟨u, e1, e2⟩ := w.at_ j s o (set_old hj h1) h2
      exact ⟨u, by rw [List.getElem?_set_ne hj]; exact e1, e2⟩
theorem SI.setTree (I : SI K E σ ρ G H b) {i : Nat} {v : V} {s : Slot} {o : O} {fq : List Addr} (hs : s.tree = some o) (hw : Ow K G H v o fq) (nd : fq.Nodup) (ok : ∀ a ∈ fq, E.H a = none ∧ G a = none ∧ ¬ b.hit a ∧ H a ≠ none)
    {fp : Nat → List Addr} (w : OwnAll K E.H σ ρ G H b fp) (dis : ∀ a ∈ fq, ∀ j, a ∉ fp j) : SI K E (σ.set i (some v)) (ρ.set i (some s)) G H b := by
  refine ⟨I.fz, I.g0, I.new, I.keep, I.bag, I.like, by simpa using I.len, fun j d' h => ?_, fun j => if j = i then fq else fp j, fun j s' o' h1 h2 => ?_, fun j a ha => ?_, fun j => ?_, fun j k a ha hb => ?_⟩
  · by_cases hj : i = j
    · subst hj
      obtain ⟨e, hi⟩ := set_self h
      rw [← e] at hs
      cases hs
    · obtain ⟨u, e1, e2⟩ := I.val j d' (set_old hj h)
      exact ⟨u, by rw [List.getElem?_set_ne hj]; exact e1, e2⟩
  · by_cases hj : i = j
    · subst hj
      obtain ⟨e, hi⟩ := set_self h1
      rw [e, hs] at h2
      cases h2
      refine ⟨v, List.getElem?_set_self (Nat.lt_of_lt_of_le hi I.len), ?_⟩
      show Ow K G H v o (if i = i then fq else fp i)
      rw [if_pos rfl]
      exact hw
    · obtain ⟨u, e1, e2⟩ := w.at_ j s' o' (set_old hj h1) h2
      refine ⟨u, by rw [List.getElem?_set_ne hj]; exact e1, ?_⟩
      show Ow K G H u o' (if j = i then fq else fp j)
      rw [if_neg (Ne.symm hj)]
      exact e2
  · have ha : a ∈ (if j = i then fq else fp j) := ha
    split at ha
    · exact ok a ha
    · exact w.ok j a ha
  · show (if j = i then fq else fp j).Nodup
    split
    · exact nd
    · exact w.nd j
  · have ha : a ∈ (if j = i then fq else fp j) := ha
    have hb : a ∈ (if k = i then fq else fp k) := hb
    split at ha
    · rename_i ej
      split at hb
      · rename_i ek; rw [ej, ek]
      · rename_i nk; exact absurd hb (dis a ha k)
    · rename_i nj
      split at hb
      · exact absurd ha (dis a hb j)
      · exact w.dj j k a ha hb
theorem SI.retree (I : SI K E σ ρ G H b) {i : Nat} {s s' : Slot} {o o' : O} (hi : ρ[i]? = some (some s)) (hs' : s'.tree = some o') {v : V} (hv : σ[i]? = some (some v)) {fq : List Addr} {fp : Nat → List Addr} (w : OwnAll K E.H σ ρ G H b fp)
    (hw : Ow K G H' v o' fq) (nd : fq.Nodup) (sub : ∀ a ∈ fq, (a ∈ fp i ∧ H' a ≠ none) ∨ (H a = none ∧ H' a ≠ none)) (same : ∀ a, a ∉ fp i → H a ≠ none → H' a = H a) (hst : s.tree = some o := by rfl) : SI K E σ (ρ.set i (some s')) G H' b := by
  have hil : i < ρ.length := (List.getElem?_eq_some_iff.mp hi).1
  have out : ∀ a o, G a = some o → a ∉ fp i := fun a o h hf => by
    rw [(w.ok i a hf).2.1] at h; cases h
  have kp : ∀ a o, a ∉ fp i → H a = some o → H' a = some o := fun a o hf h => by
    rw [same a hf (by rw [h]; exact fun z => nomatch z)]; exact h
  refine ⟨fun a o h => ?_, I.g0, I.new, fun a o h hb hg => ?_, ?_, I.like, by simpa using I.len, fun j d' h => ?_, fun j => if j = i then fq else fp j, fun j s2 o2 h1 h2 => ?_, fun j a ha => ?_, fun j => ?_, fun j k a ha hb => ?_⟩
  · obtain ⟨u, hu⟩ := some_of (frOk_ne (I.fz a o h))
    rw [kp a u (out a o h) hu, ← hu]
    exact I.fz a o h
  · refine kp a o (fun hf => ?_) (I.keep a o h hb hg)
    rw [(w.ok i a hf).1] at h; cases h
  · obtain ⟨v1, _, w1⟩ := w.at_ i _ _ hi hst
    refine ⟨I.bag.1.ext (fun a z => I.bag.hitG (.inl z)) (fun _ _ h => h) (fun a z => ?_) (fun _ _ h => h) (fun a k z => ?_), fun p hp => ⟨(I.bag.2 p hp).1, ?_⟩⟩
    · obtain ⟨u, hu⟩ := I.bag.hitH (.inl z)
      exact same a (fun hf => (w.ok i a hf).2.2.1 (.inl z)) (by rw [hu]; exact fun z => nomatch z)
    · obtain ⟨u, hu⟩ := I.bag.1.ne z
      exact same a (out a _ z) (by rw [hu]; exact fun z => nomatch z)
    · obtain ⟨ps, h1, h2, h3⟩ := (I.bag.2 p hp).2
      refine ⟨ps, kp _ _ (fun hf => (w.ok i _ hf).2.2.1 (.inr ⟨p.2, hp⟩)) h1, h2, fun pos cv hc => ?_⟩
      obtain ⟨c, e1, e2⟩ := h3 pos cv hc
      exact ⟨c, e1, kp _ _ (fun hf => w1.nc _ hf _ _ e2) e2⟩
  · by_cases hj : i = j
    · subst hj
      obtain ⟨e, _⟩ := set_self h
      rw [← e] at hs'
      cases hs'
    · exact I.val j d' (set_old hj h)
  · by_cases hj : i = j
    · subst hj
      obtain ⟨e, _⟩ := set_self h1
      rw [e, hs'] at h2
      cases h2
      refine ⟨v, hv, ?_⟩
      show Ow K G H' v o' (if i = i then fq else fp i)
      rw [if_pos rfl]
      exact hw
    · obtain ⟨u, e1, e2⟩ := w.at_ j s2 o2 (set_old hj h1) h2
      refine ⟨u, e1, ?_⟩
      show Ow K G H' u o2 (if j = i then fq else fp j)
      rw [if_neg (Ne.symm hj)]
      refine e2.mono (fun _ _ h => h) fun a ha => same a (fun hf => hj (w.dj i j a hf ha)) (w.ok j a ha).2.2.2
  · have ha : a ∈ (if j = i then fq else fp j) := ha
    split at ha
    · rcases sub a ha with ⟨h1, h2⟩ | ⟨h1, h2⟩
      · obtain ⟨k1, k2, k3, _⟩ := w.ok i a h1
        exact ⟨k1, k2, k3, h2⟩
      · exact ⟨I.nxt.free h1, gnone I.fz h1, bag_ne I.bag h1, h2⟩
    · rename_i nj
      obtain ⟨k1, k2, k3, k4⟩ := w.ok j a ha
      refine ⟨k1, k2, k3, ?_⟩
      rw [same a (fun hf => nj (w.dj i j a hf ha).symm) k4]
      exact k4
  · show (if j = i then fq else fp j).Nodup
    split
    · exact nd
    · exact w.nd j
  · have ha : a ∈ (if j = i then fq else fp j) := ha
    have hb : a ∈ (if k = i then fq else fp k) := hb
    have cross : ∀ j a, a ∈ fq → j ≠ i → a ∉ fp j := fun j a h1 h2 h3 => by
      rcases sub a h1 with ⟨h4, _⟩ | ⟨h4, _⟩
      · exact h2 (w.dj i j a h4 h3).symm
      · exact (w.ok j a h3).2.2.2 h4
    split at ha
    · rename_i ej
      split at hb
      · rename_i ek; rw [ej, ek]
      · rename_i nk; exact absurd hb (cross k a ha nk)
    · rename_i nj
      split at hb
      · exact absurd ha (cross j a hb nj)
      · exact w.dj j k a ha hb
theorem SI.ownL (I : SI K E σ ρ G H b) {i : Nat} {xs : List D} (h : ρ[i]? = some (some (.own xs))) : ∃ (p : Addr) (vs : List V), σ[i]? = some (some (V.ref p)) ∧ E.H p = none ∧ G p = none ∧ H p = some (.lst vs) ∧ RpL K G vs xs ∧ ¬ b.hit p := by
  obtain ⟨fp, w⟩ := I.own
  obtain ⟨v, h1, h2⟩ := w.at_ i _ _ h rfl
  generalize hf : fp i = fq at h2
  cases h2 with
  | @l p vs _ fp' hp r =>
    obtain ⟨k1, k2, k3, k4⟩ := w.ok i p (by rw [hf]; exact List.mem_cons_self)
    exact ⟨p, vs, h1, k1, k2, hp, r.unflat.1, k3⟩
theorem SI.mut (I : SI K E σ ρ G H b) {i : Nat} {p : Addr} {vs : List V} {xs ys : List D} (hi : ρ[i]? = some (some (.own xs))) (hs : σ[i]? = some (some (.ref p))) (r : RpL K G vs ys) : SI K E σ (ρ.set i (some (.own ys))) G (upd H p (.lst vs)) b := by
  obtain ⟨fp, w⟩ := I.own
  obtain ⟨v, h1, h2⟩ := w.at_ i _ _ hi rfl
  rw [hs] at h1
  cases h1
  have hp : p ∈ fp i := by
    generalize hf : fp i = fq at h2
    cases h2
    exact List.mem_cons_self
  refine I.retree (s' := .own ys) (fq := [p]) hi rfl hs w (.l upd_same (OwL.flat r)) (by simp) (fun a ha => ?_) (fun a hf _ => upd_ne fun z => hf (by rw [z]; exact hp))
  simp at ha
  subst ha
  exact .inl ⟨hp, by rw [upd_same]; exact fun z => nomatch z⟩
def setAll2 (ρ : Env2) : List (Nat × D) → Env2
  | [] => ρ
  | (i, d) :: r => setAll2 (ρ.set i (some (.val d))) r
theorem SI.setAll : ∀ {lv : List (Nat × V)} {l : List (Nat × D)} {σ : L2.St} {ρ : Env2}, RpP K G lv l → SI K E σ ρ G H b → SI K E (setAll σ lv) (setAll2 ρ l) G H b
  | _, _, _, _, .nil, h => h
  | (i, v) :: lv, (j, d) :: l, σ, ρ, .cons ⟨e, r⟩ p, h => by
    have e : i = j := e
    subst e
    exact SI.setAll (lv := lv) (l := l) p (h.set r)
theorem SI.up (I : SI K E σ ρ G H b) : SI K ⟨G, E.H, E.b⟩ σ ρ G H b := ⟨I.fz, fun _ _ h => h, fun a o _ h => h, fun a o h hb hg => I.keep a o h hb fun z k y => hg z k (I.g0 _ _ y), I.bag, I.like, I.len, I.val, I.own⟩ 
theorem SI.down {G1 H1 : Hp} {b1 : Bs} {σ1 : L2.St} {ρ1 : Env2} (I : SI K E σ1 ρ1 G1 H1 b1) (J : SI K ⟨G1, E.H, E.b⟩ σ ρ G H b) : SI K E σ ρ G H b :=
  ⟨J.fz, fun a o h => J.g0 a o (I.g0 a o h), fun a o h hn => J.new a o h (I.new a o h hn), fun a o h hb hg => J.keep a o h hb fun z => no_ghost I.g0 I.new h (hg z), J.bag, J.like, J.len, J.val, J.own⟩
theorem SI.downN {G1 H1 : Hp} {b1 : Bs} {σ1 : L2.St} {ρ1 : Env2} (I : SI K E σ1 ρ1 G1 H1 b1) (n : NxtB EFF.x G1 E.H E.b G' H' b') : NxtB EFF.x E.G E.H E.b G' H' b' :=
  ⟨fun a o h => n.gg a o (I.g0 a o h), n.fz, fun a o h hb hg => n.keepB a o h hb fun z => no_ghost I.g0 I.new h (hg z), fun a o h hn => n.new a o h (I.new a o h hn), n.bag, n.like⟩
end
inductive Out where
  | nx (ρ : Env2) | rt (d : D) | rn (xs : List D) | bk (ρ : Env2) | ct (ρ : Env2)
def Fin (K : PySem.W.Frag) (E : En) (Dn : Ends) (b' : Bs) : Out → Prop
  | .nx ρ => ∀ σ' G' H', SI K E σ' ρ G' H' b' → Dn.nx σ' H'
  | .bk ρ => ∀ σ' G' H', SI K E σ' ρ G' H' b' → Dn.bk σ' H'
  | .ct ρ => ∀ σ' G' H', SI K E σ' ρ G' H' b' → Dn.ct σ' H'
  | .rt d => ∀ v G' H', NxtB EFF.x E.G E.H E.b G' H' b' → Rp K G' v d → Dn.rt v H'
  | .rn xs => ∀ p vs G' H', NxtB EFF.x E.G E.H E.b G' H' b' → E.H p = none → G' p = none → H' p = some (.lst vs) → RpL K G' vs xs → Dn.rt (.ref p) H'
def tS (K : PySem.W.Frag) (F : Env2 → M Out) : TS := fun Dn σ H => ∃ E ρ G b o b', SI K E σ ρ G H b ∧ F ρ b = some (o, b') ∧ Fin K E Dn b' o
abbrev DS (X : Cx) (st : Stmt) (F : Env2 → M Out) : Prop := PS X st (tS X.K F)
abbrev DSs (X : Cx) (st : List Stmt) (F : Env2 → M Out) : Prop := PSs X st (tS X.K F)
theorem PSimp {X : Cx} {e : Stmt} {t t' : TS} (h : PS X e t) (i : ∀ D σ H, t' D σ H → t D σ H) : PS X e t' := ⟨fun pins s σ H D I q => h.run pins s σ H D I (i D σ H q)⟩
theorem PSsimp {X : Cx} {e : List Stmt} {t t' : TS} (h : PSs X e t) (i : ∀ D σ H, t' D σ H → t D σ H) : PSs X e t' := ⟨fun pins s σ H D I q => h.run pins s σ H D I (i D σ H q)⟩
def seqM (F1 F2 : Env2 → M Out) (ρ : Env2) : M Out := M.bind (F1 ρ) fun o => match o with
  | .nx ρ1 => F2 ρ1
  | o => M.ret o
section
variable {X : Cx} {st : Stmt} {rest : List Stmt} {F F2 : Env2 → M Out} {pos : Pos}
theorem ss_nil : DSs X [] (fun ρ => M.ret (.nx ρ)) := by
  refine PSsimp pss_nil ?_
  rintro D σ H ⟨E, ρ, G, b, o, b', I, e, q⟩
  cases e
  exact q σ G H I
theorem ss_one (h : DS X st F) : DSs X [st] F := pss_one h
theorem ss_cons (h : DS X st F) (h2 : DSs X rest F2) : DSs X (st :: rest) (seqM F F2) := by
  refine PSsimp (pss_cons h h2) ?_
  rintro D σ H ⟨E, ρ, G, b, o, b', I, e, q⟩
  obtain ⟨o1, b1, e1, e2⟩ := M.bind_some e
  refine ⟨E, ρ, G, b, o1, b1, I, e1, ?_⟩
  cases o1 with
  | nx ρ1 => exact fun σ' G' H' I' => ⟨E, ρ1, G', b1, o, b', I', e2, q⟩
  | bk ρ1 => cases e2; exact q
  | ct ρ1 => cases e2; exact q
  | rt d => cases e2; exact q
  | rn xs => cases e2; exact q
def ifM (ms : List Nat) (t : Env → M Bool) (F F2 : Env2 → M Out) (ρ : Env2) : M Out := M.bind (t (view ms ρ)) fun k => if k = true then F ρ else F2 ρ
theorem s_if (ms : List Nat) {c : Expr} {a b : List Stmt} {t : Env → M Bool} (hc : DT X c t) (ha : DSs X a F) (hb : DSs X b F2) : DS X (.If c a b pos) (ifM ms t F F2) := by
  refine PSimp (ps_if hc ha hb) ?_
  rintro D σ H ⟨E, ρ, G, b, o, b', I, e, q⟩
  obtain ⟨k, b1, e1, e2⟩ := M.bind_some e
  refine ⟨_, _, b, k, b1, I.rs ms, I.gp2 ms, I.gpb ms, e1, fun G1 H1 n1 => ?_⟩
  have I1 := I.flat n1
  cases k with
  | true => exact iteT ⟨E, ρ, G, b1, o, b', I1, e2, q⟩
  | false => exact iteF ⟨E, ρ, G, b1, o, b', I1, e2, q⟩
def keepIf (c : Bool) (ms : List Nat) (ρ : Env2) : Env2 := if c = true then ρ else frz ms ρ
theorem SI.after {K : PySem.W.Frag} {E : En} {σ : L2.St} {ρ : Env2} {G H G' H' : Hp} {b b' : Bs} (I : SI K E σ ρ G H b) {ms : List Nat} (n : Nxt (I.gp ms) H b G' H' b') {v : V} {d : D} (r : Rp K G' v d) :
    ∃ G2, SI K E σ (keepIf d.flat ms ρ) G2 H' b' ∧ Rp K G2 v d := by
  unfold keepIf
  cases e : d.flat with
  | true => exact ⟨G, I.flat n, r.flat_any e⟩
  | false => exact ⟨G', I.frz n, r⟩
def setM (i : Nat) (ms : List Nat) (f : Env → M D) (ρ : Env2) : M Out := M.bind (f (view ms ρ)) fun d => M.ret (.nx ((keepIf d.flat ms ρ).set i (some (.val d))))
theorem s_set (i : Nat) (ms : List Nat) {x : Str} {e : Expr} {f : Env → M D} {pos' : Pos} (hN : X.N.Nodup) (hi : X.N[i]? = some x) (hx : Loc X.env.scope x) (he : DE X e f) (hs : swapsWith e (some (.Name x pos')) pos.line X.env = pure false := by rfl)
    (hf : X.fn x = true ∨ X.env.scope.names.lookup x = some .local := by first | exact .inl rfl | exact .inr rfl | assumption) : DS X (.Assign [.Name x pos'] e pos) (setM i ms f) := by
  refine PSimp (ps_set hN hi hx he hs hf) ?_
  rintro D σ H ⟨E, ρ, G, b, o, b', I, e, q⟩
  obtain ⟨d, b1, e1, e2⟩ := M.bind_some e
  cases e2
  refine ⟨_, _, b, d, b', I.rs ms, I.gp2 ms, I.gpb ms, e1, fun v G1 H1 n1 r => ?_⟩
  obtain ⟨G2, I2, r2⟩ := I.after n1 r
  exact q _ G2 H1 (I2.set r2)
theorem SI.fresh {K : PySem.W.Frag} {E : En} {σ : L2.St} {ρ : Env2} {G H : Hp} {b : Bs} (I : SI K E σ ρ G H b) {p : Addr} (hp : H p = none) : E.H p = none := I.nxt.free hp
theorem SI.afterN {K : PySem.W.Frag} {E : En} {σ : L2.St} {ρ : Env2} {G H G' H' : Hp} {b b' : Bs} (I : SI K E σ ρ G H b) {ms : List Nat} (n : Nxt (I.gp ms) H b G' H' b') {vs : List V} {xs : List D} (r : RpL K G' vs xs) {p : Addr} (gn : G' p = none) (hp : H p = none) :
    ∃ G2, SI K E σ (keepIf (xs.all D.flat) ms ρ) G2 H' b' ∧ RpL K G2 vs xs ∧ G2 p = none ∧ ∃ fp, OwnAll K E.H σ (keepIf (xs.all D.flat) ms ρ) G2 H' b' fp ∧ ∀ j a, a ∈ fp j → H a ≠ none := by
  unfold keepIf
  cases e : xs.all D.flat with
  | true => exact ⟨G, I.flat n, r.flat_any e, gnone I.fz hp, I.flatW n⟩
  | false => exact ⟨G', I.frz n, r, gn, I.frzW n⟩
def setNM (i : Nat) (ms : List Nat) (f : Env → M (List D)) (ρ : Env2) : M Out := M.bind (f (view ms ρ)) fun xs => M.ret (.nx ((keepIf (xs.all D.flat) ms ρ).set i (some (.own xs))))
theorem keepIf_own {c : Bool} {ms : List Nat} {ρ : Env2} {j : Nat} {ys : List D} (h : (keepIf c ms ρ)[j]? = some (some (.own ys))) : ρ[j]? = some (some (.own ys)) := by
  unfold keepIf at h
  cases c with
  | true => exact h
  | false =>
    rcases frz_in (show (frz ms ρ)[j]? = _ from h) with ⟨_, s0, _, e⟩ | ⟨_, e⟩
    · cases e
    · exact e
theorem SI.newOwn {K : PySem.W.Frag} {E : En} {σ : L2.St} {ρ : Env2} {G H G' H' : Hp} {b b' : Bs} (I : SI K E σ ρ G H b) {ms : List Nat} (n : Nxt (I.gp ms) H b G' H' b') {vs : List V} {xs : List D} (i : Nat) {p : Addr} (hp : H p = none) (gn : G' p = none) (hh : H' p = some (.lst vs)) (r : RpL K G' vs xs) :
    ∃ G2, SI K E (σ.set i (some (.ref p))) ((keepIf (xs.all D.flat) ms ρ).set i (some (.own xs))) G2 H' b' := by
  obtain ⟨G2, I2, r2, g2, fp, w, fr⟩ := I.afterN n r gn hp
  refine ⟨G2, I2.setTree (s := .own xs) (fq := [p]) rfl (.l hh (OwL.flat r2)) (by simp) (fun a ha => ?_) w fun a ha j hf => ?_⟩
  · simp at ha
    subst ha
    exact ⟨I.fresh hp, g2, by rw [← Bs.like_at n.like]; exact bag_ne I.bag hp, by rw [hh]; exact fun z => nomatch z⟩
  · simp at ha
    subst ha
    exact fr j a hf hp
theorem s_setN (i : Nat) (ms : List Nat) {x : Str} {e : Expr} {f : Env → M (List D)} {pos' : Pos} (hN : X.N.Nodup) (hi : X.N[i]? = some x) (hx : Loc X.env.scope x) (he : DN X e f) (hs : swapsWith e (some (.Name x pos')) pos.line X.env = pure false := by rfl)
    (hf : X.fn x = true ∨ X.env.scope.names.lookup x = some .local := by first | exact .inl rfl | exact .inr rfl | assumption) : DS X (.Assign [.Name x pos'] e pos) (setNM i ms f) := by
  refine PSimp (ps_set hN hi hx he hs hf) ?_
  rintro D σ H ⟨E, ρ, G, b, o, b', I, e, q⟩
  obtain ⟨xs, b1, e1, e2⟩ := M.bind_some e
  cases e2
  refine ⟨_, _, b, xs, b', I.rs ms, I.gp2 ms, I.gpb ms, e1, fun p vs G1 H1 n1 hp gn hh r => ?_⟩
  obtain ⟨G2, I2⟩ := I.newOwn n1 i hp gn hh r
  exact q _ G2 H1 I2
def retM (ms : List Nat) (f : Env → M D) (ρ : Env2) : M Out := M.bind (f (view ms ρ)) fun d => M.ret (.rt d)
theorem s_ret (ms : List Nat) {e : Expr} {f : Env → M D} (he : DE X e f) : DS X (.Return (some e) pos) (retM ms f) := by
  refine PSimp (ps_ret he) ?_
  rintro D σ H ⟨E, ρ, G, b, o, b', I, e, q⟩
  obtain ⟨d, b1, e1, e2⟩ := M.bind_some e
  cases e2
  exact ⟨_, _, b, d, b', I.rs ms, I.gp2 ms, I.gpb ms, e1, fun v G1 H1 n1 r => q v G1 H1 (I.frz n1).nxt r⟩
def retNM (ms : List Nat) (f : Env → M (List D)) (ρ : Env2) : M Out := M.bind (f (view ms ρ)) fun d => M.ret (.rn d)
theorem s_retN (ms : List Nat) {e : Expr} {f : Env → M (List D)} (he : DN X e f) : DS X (.Return (some e) pos) (retNM ms f) := by
  refine PSimp (ps_ret he) ?_
  rintro D σ H ⟨E, ρ, G, b, o, b', I, e, q⟩
  obtain ⟨xs, b1, e1, e2⟩ := M.bind_some e
  cases e2
  exact ⟨_, _, b, xs, b', I.rs ms, I.gp2 ms, I.gpb ms, e1, fun p vs G1 H1 n1 hp gn hh r => q p vs G1 H1 (I.frz n1).nxt (I.fresh hp) gn hh r⟩
def retOwn (i : Nat) (ρ : Env2) : M Out := match ρ[i]? with
  | some (some (.own xs)) => M.ret (.rn xs)
  | some (some (.val d)) => M.ret (.rt d)
  | _ => M.fail
theorem retOwn_some {i : Nat} {ρ : Env2} {b b' : Bs} {o : Out} (h : retOwn i ρ b = some (o, b')) : b = b' ∧ ((∃ xs, ρ[i]? = some (some (.own xs)) ∧ o = .rn xs) ∨ ∃ d, ρ[i]? = some (some (.val d)) ∧ o = .rt d) := by
  unfold retOwn at h
  cases e : ρ[i]? with
  | none => rw [e] at h; cases h
  | some s =>
    cases s with
    | none => rw [e] at h; cases h
    | some s =>
      cases s with
      | tr o => rw [e] at h; cases h
      | own xs => rw [e] at h; cases h; exact ⟨rfl, .inl ⟨xs, rfl, rfl⟩⟩
      | val d => rw [e] at h; cases h; exact ⟨rfl, .inr ⟨d, rfl, rfl⟩⟩
theorem s_retOwn (i : Nat) {x : Str} {p : Pos} (hN : X.N[i]? = some x := by rfl) (hv : Vis X.env.scope x := by first | exact Or.inl rfl | exact Or.inr (Or.inl rfl) | exact Or.inr (Or.inr rfl)) (hd : (x == ("__debug__" : Str)) = false := by decide)
    (hcd : (x == ("__classdict__" : Str)) = false := by decide) : DS X (.Return (some (.Name x p)) pos) (retOwn i) := by
  refine PSimp (ps_ret (pe_var hN hv hd hcd)) ?_
  rintro D σ H ⟨E, ρ, G, b, o, b', I, e, q⟩
  obtain ⟨rfl, h⟩ := retOwn_some e
  rcases h with ⟨xs, h, rfl⟩ | ⟨d, h, rfl⟩
  · obtain ⟨p, vs, h1, h2, h3, h4, h5, h6⟩ := I.ownL h
    exact ⟨_, h1, q p vs G H I.nxt h2 h3 h4 h5⟩
  · obtain ⟨v, h1, h2⟩ := I.val i d h
    exact ⟨_, h1, q v G H I.nxt h2⟩
def dropM (ms : List Nat) (f : Env → M D) (ρ : Env2) : M Out := M.bind (f (view ms ρ)) fun _ => M.ret (.nx ρ)
def appM (j : Nat) (ms : List Nat) (f : Env → M D) (ρ : Env2) : M Out := M.bind (f (view ms ρ)) fun d => match (keepIf d.flat ms ρ)[j]? with
  | some (some (.own xs)) => M.guard (decide (xs.length < sizeLine)) (M.ret (.nx ((keepIf d.flat ms ρ).set j (some (.own (xs ++ [d]))))))
  | _ => M.fail
theorem s_append (j : Nat) (ms : List Nat) {x : Str} {e : Expr} {f : Env → M D} {p apos cpos : Pos} (he : DE X e f) (hN : X.N[j]? = some x := by rfl) (hv : Vis X.env.scope x := by first | exact Or.inl rfl | exact Or.inr (Or.inl rfl) | exact Or.inr (Or.inr rfl))
    (hd : (x == ("__debug__" : Str)) = false := by decide) (hcd : (x == ("__classdict__" : Str)) = false := by decide) (hst : starEach [e] X.env = (false, eval e X.env) :: starEach [] X.env := by rfl)
    (hbase : attributeBase (.Name x p) "append" X.env (eval (.Name x p) X.env) = eval (.Name x p) X.env := by rfl)
    (hfew : ((backTo cpos (starEach [e] X.env)).all (fun x => !x.1) && (backToKw cpos (keywordEach [] X.env)).all (fun x => x.1.isSome) && decide (([e].length + ([] : List Keyword).length + if ([] : List Keyword).isEmpty = true then 0 else 1) < 30)) = true := by rfl)
    (hline : (apos.endLine == cpos.line) = true := by rfl) (hs : swapsWith (.Call (.Attribute (.Name x p) "append" apos) [e] [] cpos) none pos.line X.env = pure false := by rfl) :
    DS X (.Expr (.Call (.Attribute (.Name x p) "append" apos) [e] [] cpos) pos) (appM j ms f) := by
  refine PSimp (ps_expr (pe_bm PySem.F.plainAttrs_list PySem.F.slot_list_append PySem.F.type_list_append mt_append (pe_var hN hv hd hcd) (pa_cons he pa_nil hst) hbase hfew hline hst) hs) ?_
  rintro D σ H ⟨E, ρ, G, b, o, b', I, e, q⟩
  obtain ⟨d, b1, e1, e2⟩ := M.bind_some e
  cases ej : (keepIf d.flat ms ρ)[j]? with
  | none => rw [ej] at e2; cases e2
  | some s =>
    cases s with
    | none => rw [ej] at e2; cases e2
    | some s =>
      cases s with
      | val d => rw [ej] at e2; cases e2
      | tr o => rw [ej] at e2; cases e2
      | own xs =>
        rw [ej] at e2
        obtain ⟨hz, e3⟩ := M.guard_some e2
        cases e3
        obtain ⟨p, vs, h1, h2, h3, h4, h5, h6⟩ := I.ownL (keepIf_own ej)
        refine ⟨_, h1, Or.inl ⟨rfl, vs, SqL.of h4⟩, ?_⟩
        refine ⟨_, _, b, d, b', I.rs ms, I.gp2 ms, I.gpb ms, e1, fun v G1 H1 n1 r => ?_⟩
        obtain ⟨G2, I2, r2⟩ := I.after n1 r
        obtain ⟨p', vs', f1, f2, f3, f4, f5, f6⟩ := I2.ownL ej
        rw [h1] at f1
        cases f1
        refine ⟨p, vs', v, rfl, rfl, f4, by rw [f5.length]; exact of_decide_eq_true hz, ?_⟩
        exact q σ G2 _ (I2.mut ej h1 (f5.append (.cons r2 .nil)))
def loopM (bs : D → Option (List (Nat × D))) (body : Env2 → M Out) : List D → Env2 → M Out
  | [], ρ => M.ret (.nx ρ)
  | x :: xs, ρ => match bs x with
    | none => M.fail
    | some l => M.bind (body (setAll2 ρ l)) fun o => match o with
      | .nx ρ' => loopM bs body xs ρ'
      | .ct ρ' => loopM bs body xs ρ'
      | .bk ρ' => M.ret (.nx ρ')
      | .rt d => M.ret (.rt d)
      | .rn ys => M.ret (.rn ys)
theorem Fin.up {K : PySem.W.Frag} {E : En} {σ1 : L2.St} {ρ1 : Env2} {G1 H1 : Hp} {b1 : Bs} {D : Ends} {b' : Bs} {o : Out} (I : SI K E σ1 ρ1 G1 H1 b1) (q : Fin K E D b' o) : Fin K ⟨G1, E.H, E.b⟩ D b' o := by
  cases o with
  | nx ρ => exact fun σ' G' H' J => q σ' G' H' (I.down J)
  | bk ρ => exact fun σ' G' H' J => q σ' G' H' (I.down J)
  | ct ρ => exact fun σ' G' H' J => q σ' G' H' (I.down J)
  | rt d => exact fun v G' H' n r => q v G' H' (I.downN n) r
  | rn xs => exact fun p vs G' H' n => q p vs G' H' (I.downN n)
theorem loop_f {K : PySem.W.Frag} {J : It} {g : TG} {bs : D → Option (List (Nat × D))} {is : List Nat} {body : Env2 → M Out} (tg : TgOk K g bs is) {E : En} {xs : List D} {G1 : Hp} (hG : Same G1 E.G) (yl : Yl K G1 J xs) {D : Ends} {σ : L2.St} {ρ : Env2} {G H : Hp} {b b' : Bs} {o : Out}
    (I : SI K E σ ρ G H b) (e : loopM bs body xs ρ b = some (o, b')) (q : Fin K E D b' o) :
    ∃ W : Nat → Nat → L2.St → Hp → Prop, (∃ m, W 0 m σ H) ∧ ∀ i m σ H, W i m σ H →
      (J.stop i H ∧ D.nx σ H) ∨ (J.go i H ∧ ∃ N : L2.St → Hp → Prop, (∀ σ' H', N σ' H' → ∃ m', m' < m ∧ W (i + 1) m' σ' H') ∧ ∀ x H', J.yld i H x H' → g x σ H' fun σ2 H2 => tS K body { D with nx := N, ct := N, bk := D.nx } σ2 H2) := by
  refine ⟨fun i m σ H => m = xs.length - i ∧ i ≤ xs.length ∧ ∃ ρ G b, SI K E σ ρ G H b ∧ loopM bs body (xs.drop i) ρ b = some (o, b'), ⟨xs.length, by simp, Nat.zero_le _, ρ, G, b, I, by simpa using e⟩, ?_⟩
  rintro i m σ2 H2 ⟨rfl, hi, ρ2, G2, b2, I2, e2⟩
  have Y := yl i G2 H2 b2 (fun a o h => I2.g0 a o (hG a o h)) I2.fz I2.bag
  by_cases hlt : i < xs.length
  · have hx : xs[i]? = some xs[i] := List.getElem?_eq_getElem hlt
    have hdr : xs.drop i = xs[i] :: xs.drop (i + 1) := List.drop_eq_getElem_cons hlt
    obtain ⟨hgo, hy⟩ := Y.1 _ hx
    refine .inr ⟨hgo, fun σ3 H3 => ∃ ρ G b, SI K E σ3 ρ G H3 b ∧ loopM bs body (xs.drop (i + 1)) ρ b = some (o, b'), fun σ' H' h' => ⟨xs.length - (i + 1), by omega, rfl, hlt, h'⟩, fun x H3 hyl => ?_⟩
    obtain ⟨G3, n3, rx⟩ := hy x H3 hyl
    rw [hdr] at e2
    unfold loopM at e2
    cases eb : bs xs[i] with
    | none => rw [eb] at e2; cases e2
    | some l =>
      rw [eb] at e2
      obtain ⟨lv, pl, il, gq⟩ := tg G3 x xs[i] l rx eb
      refine gq H3 _ _ n3.fz ?_
      obtain ⟨o1, b3, e3, e4⟩ := M.bind_some e2
      refine ⟨E, _, G3, b2, o1, b3, SI.setAll pl (I2.step n3), e3, ?_⟩
      cases o1 with
      | nx ρ' => exact fun σ' G' H' I' => ⟨ρ', G', b3, I', e4⟩
      | ct ρ' => exact fun σ' G' H' I' => ⟨ρ', G', b3, I', e4⟩
      | bk ρ' => cases e4; exact q
      | rt d => cases e4; exact q
      | rn ys => cases e4; exact q
  · have ee : i = xs.length := by omega
    subst ee
    refine .inl ⟨Y.2 (Nat.le_refl _), ?_⟩
    have hr : xs.drop xs.length = [] := by simp
    rw [hr] at e2
    cases e2
    exact q σ2 G2 H2 I2
def forA (ms : List Nat) (gi : Env → M (List D)) (bs : D → Option (List (Nat × D))) (body : Env2 → M Out) (ρ : Env2) : M Out := M.bind (gi (view ms ρ)) fun xs => loopM bs body xs (frz ms ρ)
def forRM (ms : List Nat) (gi : Env → M (List D)) (bs : D → Option (List (Nat × D))) (body : Env2 → M Out) (ρ : Env2) : M Out := M.bind (gi (view ms ρ)) fun xs => loopM bs body xs ρ
theorem s_for (ms : List Nat) {tg iter : Expr} {body : List Stmt} {gi : Env → M (List D)} {g : TG} {bs : D → Option (List (Nat × D))} {is : List Nat} {Fb : Env2 → M Out} (hp : PassesOwn (model X.prog X.w) X.A X.env X.xe) (hc : X.calm = true) (hi : DI X tg iter gi) (hg : PG X tg g) (ht : TgOk X.K g bs is) (hb : DSs X body Fb)
    (hs : ∀ x, foldedSetIterable iter X.env x = pure x := by intro _; rfl) : DS X (.For tg iter body [] pos) (forA ms gi bs Fb) := by
  refine PSimp (ps_for hp hc hi hg hb hs) ?_
  rintro D σ H ⟨E, ρ, G, b, o, b', I, e, q⟩
  obtain ⟨xs, b1, e1, e2⟩ := M.bind_some e
  refine ⟨_, _, b, xs, b1, I.rs ms, I.gp2 ms, I.gpb ms, e1, fun J G1 H1 n1 yl => ?_⟩
  have I1 := I.frz n1
  exact loop_f (E := ⟨G1, E.H, E.b⟩) ht (fun _ _ h => h) yl I1.up e2 (q.up I1)
theorem s_forR (ms : List Nat) {tg iter : Expr} {body : List Stmt} {gi : Env → M (List D)} {g : TG} {bs : D → Option (List (Nat × D))} {is : List Nat} {Fb : Env2 → M Out} (hp : PassesOwn (model X.prog X.w) X.A X.env X.xe) (hc : X.calm = true) (hi : DR X tg iter gi) (hg : PG X tg g) (ht : TgOk X.K g bs is) (hb : DSs X body Fb)
    (hs : ∀ x, foldedSetIterable iter X.env x = pure x := by intro _; rfl) : DS X (.For tg iter body [] pos) (forRM ms gi bs Fb) := by
  refine PSimp (ps_for hp hc hi hg hb hs) ?_
  rintro D σ H ⟨E, ρ, G, b, o, b', I, e, q⟩
  obtain ⟨xs, b1, e1, e2⟩ := M.bind_some e
  refine ⟨_, _, b, xs, b1, I.rs ms, I.gp2 ms, I.gpb ms, e1, fun J G1 H1 n1 yl => ?_⟩
  exact loop_f ht (fun _ _ h => by cases h) yl (I.flat n1) e2 q
def whileM (ms : List Nat) (t : Env → M Bool) (body : Env2 → M Out) : Nat → Env2 → M Out
  | 0, _ => M.fail
  | n + 1, ρ => M.bind (t (view ms ρ)) fun k => if k = true then M.bind (body ρ) fun o => match o with
      | .nx ρ' => whileM ms t body n ρ'
      | .ct ρ' => whileM ms t body n ρ'
      | .bk ρ' => M.ret (.nx ρ')
      | .rt d => M.ret (.rt d)
      | .rn ys => M.ret (.rn ys)
    else M.ret (.nx ρ)
theorem s_while (fuel : Nat) (ms : List Nat) {c : Expr} {body : List Stmt} {t : Env → M Bool} {Fb : Env2 → M Out} (hp : PassesOwn (model X.prog X.w) X.A X.env X.xe) (hc : DT X c t) (hb : DSs X body Fb) : DS X (.While c body [] pos) (whileM ms t Fb fuel) := by
  refine PSimp (ps_while hp hc hb) ?_
  rintro D σ H ⟨E, ρ, G, b, o, b', I, e, q⟩
  refine ⟨fun m σ H => ∃ ρ G b, SI X.K E σ ρ G H b ∧ whileM ms t Fb m ρ b = some (o, b'), ⟨fuel, ρ, G, b, I, e⟩, ?_⟩
  rintro m σ2 H2 ⟨ρ2, G2, b2, I2, e2⟩
  cases m with
  | zero => cases e2
  | succ m =>
    unfold whileM at e2
    obtain ⟨k, b1, e1, e3⟩ := M.bind_some e2
    refine ⟨_, _, b2, k, b1, I2.rs ms, I2.gp2 ms, I2.gpb ms, e1, fun G1 H1 n1 => ?_⟩
    have I1 := I2.flat n1
    cases k with
    | false => cases e3; exact iteF (q σ2 _ _ I1)
    | true =>
      refine iteT ?_
      obtain ⟨o1, b3, e4, e5⟩ := M.bind_some e3
      refine ⟨fun σ3 H3 => ∃ ρ G b, SI X.K E σ3 ρ G H3 b ∧ whileM ms t Fb m ρ b = some (o, b'), fun σ' H' h' => ⟨m, Nat.lt_succ_self _, h'⟩, E, ρ2, G2, b1, o1, b3, I1, e4, ?_⟩
      cases o1 with
      | nx ρ' => exact fun σ' G' H' I' => ⟨ρ', G', b3, I', e5⟩
      | ct ρ' => exact fun σ' G' H' I' => ⟨ρ', G', b3, I', e5⟩
      | bk ρ' => cases e5; exact q
      | rt d => cases e5; exact q
      | rn ys => cases e5; exact q
end
end DL
set_option Elab.async false
set_option maxRecDepth 100000
set_option autoImplicit false
set_option linter.unusedVariables false
set_option maxHeartbeats 4000000
namespace DL
open PySem L2
variable [TAB : TabList]
variable [EFF : Eff]
set_option linter.unusedSectionVars false
theorem q_newL {K : PySem.W.Frag} {G H : Hp} {b : Bs} {Q : VK} {vs : List V} {ds : List D} {p : Addr} (fz : SameF G H) (ob : BagOk G H b) (hp : H p = none) (r : RpL K G vs ds) (q : ∀ v G' H', Nxt G H b G' H' b → Rp K G' v (.lst ds) → Q v H') : Q (.ref p) (upd H p (.lst vs)) := by
  have m := Nxt.newF (o := .lst vs) fz ob hp
  exact q _ _ _ m (.lst upd_same (r.mono m.gg))
theorem q_newT {K : PySem.W.Frag} {G H : Hp} {b : Bs} {Q : VK} {vs : List V} {ds : List D} {p : Addr} (fz : SameF G H) (ob : BagOk G H b) (hp : H p = none) (r : RpL K G vs ds) (q : ∀ v G' H', Nxt G H b G' H' b → Rp K G' v (.tup ds) → Q v H') : Q (.ref p) (upd H p (.tup vs)) := by
  have m := Nxt.newF (o := .tup vs) fz ob hp
  exact q _ _ _ m (.tup (SqT.of upd_same) (r.mono m.gg))
theorem szStr (x : List Nat) : (⟨x.toArray⟩ : Str).length = x.length := by simp [Str.length]
def szS (n : Nat) : Bool := decide (n ≤ sizeLine)
section
variable {X : Cx} {a b : Expr} {f g : Env → M D} {pos : Pos}
def bagIx (p : Addr) (i : Int) : M D := fun b => match b with
  | some g => if g.p = p then (atI [D.int g.z0, D.int g.z1, D.int g.z2, D.lst (g.cs.map D.int)] i).map fun d => (d, b) else none
  | none => none
def ixD : D → D → M D
  | .lst xs, .int i => M.of (atI xs i)
  | .tup xs, .int i => M.of (atI xs i)
  | .str x, .int i => M.guard (szS x.length) (M.of ((atI x i).map fun c => .str [c]))
  | .bag p, .int i => bagIx p i
  | _, _ => M.fail
theorem RpL.ints {K : PySem.W.Frag} {G : Hp} : ∀ ns : List Int, RpL K G (ns.map V.int) (ns.map D.int)
  | [] => .nil
  | n :: ns => .cons (.int n) (RpL.ints ns)
theorem RpL.atI {K : PySem.W.Frag} {G : Hp} {vs : List V} {ds : List D} {i : Int} {d : D} (r : RpL K G vs ds) (h : atI ds i = some d) : ∃ v, L2.atI vs i = some v ∧ Rp K G v d := by
  unfold L2.atI at h ⊢
  rw [r.length]
  cases e : ixN ds.length i with
  | none => rw [e] at h; cases h
  | some j =>
    rw [e] at h
    exact r.get h
theorem M.of_some' {α : Type} {o : Option α} {b b' : Bs} {a : α} (h : M.of o b = some (a, b')) : o = some a ∧ b = b' := by
  cases o with
  | none => cases h
  | some x => cases h; exact ⟨rfl, rfl⟩
theorem snd_ix : SndR X.K (rIx X.K) ixD := by
  intro G H b x y dx dy d b' Q rx ry fz ob e q
  cases ry with
  | int i =>
    cases rx with
    | lst h r =>
      obtain ⟨e1, rfl⟩ := M.of_some' e
      obtain ⟨v, h1, h2⟩ := r.atI e1
      exact .inl ⟨_, _, i, v, rfl, rfl, SqL.of (fz _ _ h), h1, q v G H (Nxt.refl fz ob) h2⟩
    | tup h r =>
      obtain ⟨e1, rfl⟩ := M.of_some' e
      obtain ⟨v, h1, h2⟩ := r.atI e1
      exact .inr (.inl ⟨_, _, i, v, rfl, rfl, SameF.sqt fz h, h1, q v G H (Nxt.refl fz ob) h2⟩)
    | str x =>
      obtain ⟨c, e⟩ := M.guard_some e
      obtain ⟨e1, rfl⟩ := M.of_some' e
      cases e2 : atI x i with
      | none => rw [e2] at e1; cases e1
      | some c0 =>
        rw [e2] at e1
        cases e1
        refine .inr (.inr ⟨_, i, c0, rfl, rfl, ?_, ?_, q _ G H (Nxt.refl fz ob) (.str [c0])⟩)
        · rw [szStr]; exact of_decide_eq_true c
        · simpa using e2
    | bag p =>
      cases b with
      | none => cases e
      | some g =>
        have e' : (if g.p = p then (atI [D.int g.z0, D.int g.z1, D.int g.z2, D.lst (g.cs.map D.int)] i).map fun d => (d, (some g : Bs)) else none) = some (d, b') := e
        by_cases hp : g.p = p
        · rw [if_pos hp] at e'
          cases e2 : atI [D.int g.z0, D.int g.z1, D.int g.z2, D.lst (g.cs.map D.int)] i with
          | none => rw [e2] at e'; cases e'
          | some d0 =>
            rw [e2] at e'
            cases e'
            obtain ⟨⟨o1, o2, o3⟩, _⟩ := id ob
            have r : RpL X.K G [.int g.z0, .int g.z1, .int g.z2, .ref g.q] [D.int g.z0, D.int g.z1, D.int g.z2, D.lst (g.cs.map D.int)] := .cons (.int _) (.cons (.int _) (.cons (.int _) (.cons (.lst o3.1 (RpL.ints _)) .nil)))
            obtain ⟨v, h1, h2⟩ := r.atI e2
            exact .inl ⟨p, _, i, v, rfl, rfl, SqL.of (by rw [← hp]; exact o2), h1, q v G H (Nxt.refl fz ob) h2⟩
        · rw [if_neg hp] at e'; cases e'
    | _ => cases e
  | _ => cases rx <;> cases e
theorem d_ix (ha : DE X a f) (hb : DE X b g) (hp : PlainIx b := by exact fun _ _ => rfl) : DE X (.Subscript a b pos) (fun ρ => M.bind (f ρ) fun x => M.bind (g ρ) fun y => ixD x y) := d_ix0 ix_seq snd_ix ha hb hp
def addD : D → D → M D
  | .int i, .int j => M.ret (.int (i + j))
  | .str x, .str y => M.guard (szS (x.length + y.length)) (M.ret (.str (x ++ y)))
  | .lst x, .lst y => M.guard (szS (x.length + y.length)) (M.ret (.lst (x ++ y)))
  | .tup x, .tup y => M.guard (szS (x.length + y.length) && !x.isEmpty && !y.isEmpty) (M.ret (.tup (x ++ y)))
  | _, _ => M.fail
theorem snd_add : SndR X.K (fun x y H Q => (rI0 (fun i j => .int (i + j)) x y H Q ∨ (∃ i j, x = .str i ∧ y = .str j ∧ i.length + j.length ≤ sizeLine ∧ Q (.str (i ++ j)) H)) ∨ (rCat x y H Q ∨ rCatT X.K x y H Q)) addD := by
  intro G H b x y dx dy d b' Q rx ry fz ob e q
  cases rx with
  | int i =>
    cases ry with
    | int j => cases e; exact .inl (.inl ⟨i, j, rfl, rfl, q _ G H (Nxt.refl fz ob) (.int _)⟩)
    | _ => cases e
  | str x =>
    cases ry with
    | str y =>
      obtain ⟨c, e⟩ := M.guard_some e
      cases e
      refine .inl (.inr ⟨_, _, rfl, rfl, by rw [szStr, szStr]; exact of_decide_eq_true c, ?_⟩)
      have h := q (.str ⟨(x ++ y).toArray⟩) G H (Nxt.refl fz ob) (.str (x ++ y))
      have e2 : ((⟨x.toArray⟩ : Str) ++ (⟨y.toArray⟩ : Str)) = ⟨(x ++ y).toArray⟩ := by
        show (⟨x.toArray ++ y.toArray⟩ : Str) = _
        simp
      rw [e2]; exact h
    | _ => cases e
  | lst hx r1 =>
    cases ry with
    | lst hy r2 =>
      obtain ⟨c, e⟩ := M.guard_some e
      cases e
      refine .inr (.inl ⟨_, _, _, _, rfl, rfl, fz _ _ hx, fz _ _ hy, by rw [r1.length, r2.length]; exact of_decide_eq_true c, fun p hp => q_newL fz ob hp (r1.append r2) q⟩)
    | _ => cases e
  | tup hx r1 =>
    cases ry with
    | tup hy r2 =>
      obtain ⟨c, e⟩ := M.guard_some e
      cases e
      simp only [Bool.and_eq_true, Bool.not_eq_true'] at c
      have n1 : ∀ {vs : List V} {ds : List D}, RpL X.K G vs ds → ds.isEmpty = false → vs ≠ [] := fun r h z => by
        have := r.empty
        rw [z, h] at this; cases this
      refine .inr (.inr ⟨_, _, _, _, rfl, rfl, SameF.sqt fz hx, SameF.sqt fz hy, n1 r1 c.1.2, by rw [r1.length, r2.length]; exact of_decide_eq_true c.1.1, fun z => absurd z (n1 r2 c.2), fun _ p hp => q_newT fz ob hp (r1.append r2) q⟩)
    | _ => cases e
  | _ => cases ry <;> cases e
theorem d_add (ha : DE X a f) (hb : DE X b g) : DE X (.BinOp a .Add b pos) (fun ρ => M.bind (f ρ) fun x => M.bind (g ρ) fun y => addD x y) :=
  d_op ((op_add.or op_add_str).or (op_cat.or op_catT)) snd_add ha hb
def i2 (h : Int → Int → Option Int) : D → D → M D
  | .int i, .int j => M.of ((h i j).map D.int)
  | _, _ => M.fail
theorem snd_i2 {K : PySem.W.Frag} {C : Int → Int → Prop} {k : Int → Int → Int} {h : Int → Int → Option Int} (hh : ∀ i j z, h i j = some z → C i j ∧ k i j = z) : SndR K (rI C fun i j => .int (k i j)) (i2 h) := by
  intro G H b x y dx dy d b' Q rx ry fz ob e q
  cases rx with
  | int i =>
    cases ry with
    | int j =>
      obtain ⟨e1, rfl⟩ := M.of_some' e
      cases e2 : h i j with
      | none => rw [e2] at e1; cases e1
      | some z =>
        rw [e2] at e1
        cases e1
        obtain ⟨c, rfl⟩ := hh i j z e2
        exact ⟨i, j, rfl, rfl, c, q _ G H (Nxt.refl fz ob) (.int _)⟩
    | _ => cases e
  | _ => cases ry <;> cases e
theorem snd_i0 {K : PySem.W.Frag} {k : Int → Int → Int} {h : Int → Int → Option Int} (hh : ∀ i j z, h i j = some z → k i j = z) : SndR K (rI0 fun i j => .int (k i j)) (i2 h) := by
  intro G H b x y dx dy d b' Q rx ry fz ob e q
  cases rx with
  | int i =>
    cases ry with
    | int j =>
      obtain ⟨e1, rfl⟩ := M.of_some' e
      cases e2 : h i j with
      | none => rw [e2] at e1; cases e1
      | some z =>
        rw [e2] at e1
        cases e1
        cases hh i j z e2
        exact ⟨i, j, rfl, rfl, q _ G H (Nxt.refl fz ob) (.int _)⟩
    | _ => cases e
  | _ => cases ry <;> cases e
def subD : D → D → M D := i2 fun i j => some (i - j)
theorem d_sub (ha : DE X a f) (hb : DE X b g) : DE X (.BinOp a .Sub b pos) (fun ρ => M.bind (f ρ) fun x => M.bind (g ρ) fun y => subD x y) :=
  d_op op_sub (snd_i0 fun i j z e => Option.some.inj e) ha hb
def modD : D → D → M D := i2 fun i j => if 0 < j then some (i % j) else none
theorem d_mod (ha : DE X a f) (hb : DE X b g) : DE X (.BinOp a .Mod b pos) (fun ρ => M.bind (f ρ) fun x => M.bind (g ρ) fun y => modD x y) :=
  d_op op_mod (snd_i2 fun i j z e => by
    by_cases h : 0 < j
    · rw [if_pos h] at e; exact ⟨h, Option.some.inj e⟩
    · rw [if_neg h] at e; cases e) ha hb
def divD : D → D → M D := i2 fun i j => if 0 < j ∧ j < 1000000000000000000000000000000 then some (i / j) else none
theorem d_div (ha : DE X a f) (hb : DE X b g) : DE X (.BinOp a .FloorDiv b pos) (fun ρ => M.bind (f ρ) fun x => M.bind (g ρ) fun y => divD x y) :=
  d_op op_fdivW (snd_i2 fun i j z e => by
    by_cases h : 0 < j ∧ j < 1000000000000000000000000000000
    · rw [if_pos h] at e; exact ⟨wide_div (b := 100) h.1 (by omega) (by decide) (by decide), Option.some.inj e⟩
    · rw [if_neg h] at e; cases e) ha hb
def okM (i j : Int) : Bool := (decide (-(2 ^ 64) < i) && decide (i < 2 ^ 64)) || (decide (-(2 ^ 64) < j) && decide (j < 2 ^ 64))
theorem okM_c {i j : Int} (h : okM i j = true) : CMul i j := by
  unfold okM at h
  simp only [Bool.or_eq_true, Bool.and_eq_true, decide_eq_true_eq] at h
  exact h
def repL {α : Type} (x : List α) (n : Nat) : List α := (List.replicate n x).flatten
def okRep (x : Nat) (k : Int) : Bool := decide (-(2 ^ 63) ≤ k) && decide (k < 2 ^ 63) && decide (x * k.toNat ≤ sizeLine)
def mulD : D → D → M D
  | .int i, .int j => M.guard (okM i j) (M.ret (.int (i * j)))
  | .str x, .int k => M.guard (okRep x.length k) (M.ret (.str (repL x k.toNat)))
  | .lst x, .int k => M.guard (okRep x.length k) (M.ret (.lst (repL x k.toNat)))
  | _, _ => M.fail
theorem fold_app (x : List Nat) : ∀ (n : Nat) (acc : List Nat), (List.replicate n x.toArray).foldl (· ++ ·) acc.toArray = (acc ++ repL x n).toArray
  | 0, acc => by simp [repL]
  | n + 1, acc => by
    rw [List.replicate_succ, List.foldl_cons]
    have : acc.toArray ++ x.toArray = (acc ++ x).toArray := by simp
    rw [this, fold_app x n (acc ++ x)]
    simp [repL, List.replicate_succ]
theorem repL_one {α : Type} (x : List α) : repL x 1 = x := by simp [repL]
theorem txt_mul (x : List Nat) (k : Int) : Txt.mul ⟨x.toArray⟩ k = ⟨(repL x k.toNat).toArray⟩ := by
  unfold Txt.mul
  by_cases h1 : k < 1
  · rw [if_pos h1]
    have : k.toNat = 0 := by omega
    rw [this]; simp [repL, Str.empty]
  · rw [if_neg h1]
    by_cases h2 : (k == 1 || (⟨x.toArray⟩ : Str).length == 0) = true
    · rw [if_pos h2]
      rw [Bool.or_eq_true] at h2
      rcases h2 with h | h
      · have : k = 1 := by simpa using h
        subst this
        show _ = (⟨(repL x 1).toArray⟩ : Str)
        rw [repL_one]
      · have : x = [] := by
          have h' : (⟨x.toArray⟩ : Str).length = 0 := by simpa using h
          rw [szStr] at h'
          exact List.eq_nil_of_length_eq_zero h'
        subst this
        simp [repL]
    · rw [if_neg h2]
      have := fold_app x k.toNat []
      simp only [List.nil_append] at this
      show (⟨List.foldl (· ++ ·) #[] (List.replicate k.toNat x.toArray)⟩ : Str) = _
      rw [← this]
theorem op_mul_str : OpR X (binaryOp .Mult) (fun x y H Q => ∃ (z : List Nat) (k : Int), x = .str ⟨z.toArray⟩ ∧ y = .int k ∧ okRep z.length k = true ∧ Q (.str ⟨(repL z k.toNat).toArray⟩) H) := by
  intro pins s σ H x y v u Q I rx ry h
  obtain ⟨z, k, rfl, rfl, c, q⟩ := h
  obtain ⟨t, rfl⟩ := rx
  obtain ⟨t', rfl⟩ := ry
  unfold okRep at c
  simp only [Bool.and_eq_true, decide_eq_true_eq] at c
  obtain ⟨⟨c1, c2⟩, c3⟩ := c
  have hs : (sizeLine : Nat) = 16777216 := by decide
  refine PySem.SB.mul ⟨?_, fun h1 h2 => ?_, fun h1 h2 => ?_⟩ fun t' k' => ⟨.str ⟨(repL z k.toNat).toArray⟩, H, I.tok _, ⟨t', by rw [txt_mul]⟩, q⟩
  · rw [decide_eq_false (by omega), decide_eq_false (by omega)]; rfl
  · rw [szStr]
    intro h3
    have hk : 1 ≤ k := by omega
    have e1 : (z.length : Int) * k ≤ sizeLine := by
      have e0 : k = (k.toNat : Int) := by omega
      rw [e0, ← Int.natCast_mul]
      exact Int.ofNat_le.mpr c3
    have h4 : (2 ^ 63 - 1) < ((z.length : Int)) * k := by
      have := Int.lt_mul_of_ediv_lt (by omega : 0 < k) h3
      exact this
    rw [hs] at e1
    have : ((16777216 : Nat) : Int) < 2 ^ 63 - 1 := by decide
    omega
  · rw [szStr]
    unfold Builtin.Str.tooLong
    rw [hs] at c3
    simp
    omega
theorem RpL.flat {K : PySem.W.Frag} {G : Hp} {vs : List V} {ds : List D} (r : RpL K G vs ds) : ∀ n : Nat, RpL K G (repL vs n) (repL ds n)
  | 0 => .nil
  | n + 1 => by
    unfold repL
    rw [List.replicate_succ, List.replicate_succ, List.flatten_cons, List.flatten_cons]
    exact r.append (RpL.flat r n)
theorem snd_mul : SndR X.K (fun x y H Q => (rI CMul (fun i j => .int (i * j)) x y H Q ∨ (∃ (z : List Nat) (k : Int), x = .str ⟨z.toArray⟩ ∧ y = .int k ∧ okRep z.length k = true ∧ Q (.str ⟨(repL z k.toNat).toArray⟩) H)) ∨ rRep x y H Q) mulD := by
  intro G H b x y dx dy d b' Q rx ry fz ob e q
  cases ry with
  | int j =>
    cases rx with
    | int i =>
      obtain ⟨c, e⟩ := M.guard_some e
      cases e
      exact .inl (.inl ⟨i, j, rfl, rfl, okM_c c, q _ G H (Nxt.refl fz ob) (.int _)⟩)
    | str x =>
      obtain ⟨c, e⟩ := M.guard_some e
      cases e
      exact .inl (.inr ⟨x, j, rfl, rfl, c, q _ G H (Nxt.refl fz ob) (.str _)⟩)
    | lst hx r =>
      obtain ⟨c, e⟩ := M.guard_some e
      cases e
      unfold okRep at c
      simp only [Bool.and_eq_true, decide_eq_true_eq] at c
      refine .inr ⟨_, j, _, rfl, rfl, fz _ _ hx, c.1.1, c.1.2, by rw [r.length]; exact c.2, fun p hp => q_newL fz ob hp (r.flat _) q⟩
    | _ => cases e
  | _ => cases rx <;> cases e
theorem d_mul (ha : DE X a f) (hb : DE X b g) : DE X (.BinOp a .Mult b pos) (fun ρ => M.bind (f ρ) fun x => M.bind (g ρ) fun y => mulD x y) :=
  d_op ((op_mul.or op_mul_str).or op_rep) snd_mul ha hb
def negD : D → M D
  | .int i => M.ret (.int (-i))
  | _ => M.fail
theorem d_neg (ha : DE X a f) : DE X (.UnaryOp .USub a pos) (fun ρ => M.bind (f ρ) negD) := by
  refine PEimp (pe_un un_neg ha) ?_
  rintro σ H Q ⟨ρ, G, b, d, b', rs, fz, ob, e, q⟩
  obtain ⟨x, b1, e1, e2⟩ := M.bind_some e
  refine ⟨ρ, G, b, x, b1, rs, fz, ob, e1, fun v G1 H1 n1 r => ?_⟩
  cases r with
  | int i => cases e2; exact ⟨i, rfl, q _ _ _ n1 (.int _)⟩
  | _ => cases e2
def cmpD (h : Int → Int → Bool) : D → D → M D
  | .int i, .int j => M.ret (.bl (h i j))
  | _, _ => M.fail
theorem snd_cmp {K : PySem.W.Frag} {h : Int → Int → Bool} : SndR K (rI0 fun i j => .bl (h i j)) (cmpD h) := by
  intro G H b x y dx dy d b' Q rx ry fz ob e q
  cases rx with
  | int i =>
    cases ry with
    | int j => cases e; exact ⟨i, j, rfl, rfl, q _ G H (Nxt.refl fz ob) (.bl _)⟩
    | _ => cases e
  | _ => cases ry <;> cases e
abbrev ltD : D → D → M D := cmpD fun i j => decide (i < j)
abbrev leD : D → D → M D := cmpD fun i j => decide (i ≤ j)
abbrev gtD : D → D → M D := cmpD fun i j => decide (j < i)
abbrev geD : D → D → M D := cmpD fun i j => decide (j ≤ i)
theorem t_lt (ha : DE X a f) (hb : DE X b g) : DT X (.Compare a [.Lt] [b] pos) (fun ρ => M.bind (f ρ) fun x => M.bind (g ρ) fun y => M.bind (ltD x y) asB) := t_cmp op_lt snd_cmp ha hb (nomark _)
theorem t_gt (ha : DE X a f) (hb : DE X b g) : DT X (.Compare a [.Gt] [b] pos) (fun ρ => M.bind (f ρ) fun x => M.bind (g ρ) fun y => M.bind (gtD x y) asB) := t_cmp op_gt snd_cmp ha hb (nomark _)
theorem t_ge (ha : DE X a f) (hb : DE X b g) : DT X (.Compare a [.GtE] [b] pos) (fun ρ => M.bind (f ρ) fun x => M.bind (g ρ) fun y => M.bind (geD x y) asB) := t_cmp op_ge snd_cmp ha hb (nomark _)
end
end DL
set_option Elab.async false
set_option maxRecDepth 100000
set_option autoImplicit false
set_option linter.unusedVariables false
set_option maxHeartbeats 4000000
namespace DL
open PySem L2 PySem.Spec PyProof.Rows
variable [TAB : TabList]
variable [EFF : Eff]
set_option linter.unusedSectionVars false
mutual
theorem dpF {K : PySem.W.Frag} {G H : Hp} : ∀ {v : V} {d : PyData}, Dp K G v d → SameF G H → Dp K H v d
  | _, _, .non, _ => .non
  | _, _, .bl b, _ => .bl b
  | _, _, .int i, _ => .int i
  | _, _, .str x, _ => .str x
  | _, _, .lst h r, e => .lst (SameF.seq e h) (dpFs r e)
  | _, _, .tup h r, e => .tup (SameF.sqt e h) (dpFs r e)
theorem dpFs {K : PySem.W.Frag} {G H : Hp} : ∀ {vs : List V} {ds : List PyData}, DpAll K G vs ds → SameF G H → DpAll K H vs ds
  | _, _, .nil, _ => .nil
  | _, _, .cons a b, e => .cons (dpF a e) (dpFs b e)
end
theorem _root_.L2.Dp.monoF {K : PySem.W.Frag} {G H : Hp} {v : V} {d : PyData} (h : Dp K G v d) (e : SameF G H) : Dp K H v d := dpF h e
mutual
def toPy : D → Option PyData
  | .non => some .none
  | .bl b => some (.bool b)
  | .int i => some (.int i)
  | .str x => some (.str ⟨x.toArray⟩)
  | .lst xs => match toPyL xs with
    | some l => some (.list l)
    | none => none
  | .tup xs => match toPyL xs with
    | some l => some (.tuple l)
    | none => none
  | .dct _ _ => none
  | .dcT _ _ => none
  | .obj _ _ => none
  | .bag _ => none
  | .scr _ => none
  | .exc _ _ _ _ => none
  | .clo _ _ => none
  | .cel _ => none
def toPyL : List D → Option (List PyData)
  | [] => some []
  | d :: ds => match toPy d with
    | some a => match toPyL ds with
      | some l => some (a :: l)
      | none => none
    | none => none
end
mutual
theorem Rp.dp {K : PySem.W.Frag} {G : Hp} : ∀ {v : V} {d : D} {e : PyData}, Rp K G v d → toPy d = some e → Dp K G v e
  | _, _, _, .non, h => by unfold toPy at h; cases h; exact .non
  | _, _, _, .bl b, h => by unfold toPy at h; cases h; exact .bl b
  | _, _, _, .int i, h => by unfold toPy at h; cases h; exact .int i
  | _, _, _, .str x, h => by unfold toPy at h; cases h; exact .str _
  | _, _, _, .lst (ds := ds) h1 r, h => by
    unfold toPy at h
    cases e : toPyL ds with
    | none => rw [e] at h; cases h
    | some l => rw [e] at h; cases h; exact .lst (SqL.of h1) (RpL.dp r e)
  | _, _, _, .tup (ds := ds) h1 r, h => by
    unfold toPy at h
    cases e : toPyL ds with
    | none => rw [e] at h; cases h
    | some l => rw [e] at h; cases h; exact .tup h1 (RpL.dp r e)
  | _, _, _, .dct _ _ _, h => by unfold toPy at h; cases h
  | _, _, _, .dcT _ _ _, h => by unfold toPy at h; cases h
  | _, _, _, .obj _ _ _ _, h => by unfold toPy at h; cases h
  | _, _, _, .bag _, h => by unfold toPy at h; cases h
  | _, _, _, .scr _, h => by unfold toPy at h; cases h
  | _, _, _, .exc _ _, h => by unfold toPy at h; cases h
  | _, _, _, .clo _ _ _ _, h => by unfold toPy at h; cases h
  | _, _, _, .cel _, h => by unfold toPy at h; cases h
theorem RpL.dp {K : PySem.W.Frag} {G : Hp} : ∀ {vs : List V} {ds : List D} {es : List PyData}, RpL K G vs ds → toPyL ds = some es → DpAll K G vs es
  | _, _, _, .nil, h => by unfold toPyL at h; cases h; exact .nil
  | _, _, _, .cons (d := d) (ds := ds) a b, h => by
    unfold toPyL at h
    cases e1 : toPy d with
    | none => rw [e1] at h; cases h
    | some x =>
      rw [e1] at h
      cases e2 : toPyL ds with
      | none => rw [e2] at h; cases h
      | some l => rw [e2] at h; cases h; exact .cons (Rp.dp a e1) (RpL.dp b e2)
end
def eqDeep (neg : Bool) (x y : D) : M D := match toPy x with
  | some a => match toPy y with
    | some b => M.guard (SeqAt.shaped a && SeqAt.shaped b) (M.ret (.bl (if neg then !PyData.eqv a b else PyData.eqv a b)))
    | none => M.fail
  | none => M.fail
def eqD (neg : Bool) : D → D → M D
  | .int i, .int j => M.ret (.bl (if neg then !decide (i = j) else decide (i = j)))
  | .str i, .str j => M.ret (.bl (if neg then !decide (i = j) else decide (i = j)))
  | .bl i, .bl j => M.ret (.bl (if neg then !decide (i = j) else decide (i = j)))
  | x, y => eqDeep neg x y
theorem dec_S (x y : List Nat) : decide (V.str ⟨x.toArray⟩ = V.str ⟨y.toArray⟩) = decide (x = y) := by
  by_cases h : x = y
  · subst h; simp
  · rw [decide_eq_false h, decide_eq_false]
    intro z
    apply h
    have := V.str.inj z
    have := congrArg Str.cps this
    simpa using this
theorem dec_I (x y : Int) : decide (V.int x = V.int y) = decide (x = y) := by
  by_cases h : x = y
  · subst h; simp
  · rw [decide_eq_false h, decide_eq_false fun z => h (V.int.inj z)]
theorem dec_B (x y : Bool) : decide (V.bl x = V.bl y) = decide (x = y) := by
  by_cases h : x = y
  · subst h; simp
  · rw [decide_eq_false h, decide_eq_false fun z => h (V.bl.inj z)]
theorem eqDeep_some {neg : Bool} {x y d : D} {b b' : Bs} (h : eqDeep neg x y b = some (d, b')) : ∃ e1 e2, toPy x = some e1 ∧ toPy y = some e2 ∧ SeqAt.shaped e1 = true ∧ SeqAt.shaped e2 = true ∧ d = .bl (if neg then !PyData.eqv e1 e2 else PyData.eqv e1 e2) ∧ b = b' := by
  unfold eqDeep at h
  cases e1 : toPy x with
  | none => rw [e1] at h; cases h
  | some a1 =>
    cases e2 : toPy y with
    | none => rw [e1, e2] at h; cases h
    | some a2 =>
      rw [e1, e2] at h
      obtain ⟨c, h⟩ := M.guard_some h
      cases h
      rw [Bool.and_eq_true] at c
      exact ⟨a1, a2, rfl, rfl, c.1, c.2, rfl, rfl⟩
theorem snd_eq {K : PySem.W.Frag} : SndR K (fun x y H Q => rEq x y H Q ∨ rEqD K x y H Q) (eqD false) := by
  intro G H b x y dx dy d b' Q rx ry fz ob e q
  have deep : eqDeep false dx dy b = some (d, b') → rEq x y H Q ∨ rEqD K x y H Q := fun h => by
    obtain ⟨e1, e2, h1, h2, h3, h4, rfl, rfl⟩ := eqDeep_some h
    exact .inr ⟨e1, e2, (rx.dp h1).monoF fz, (ry.dp h2).monoF fz, h3, h4, q _ G H (Nxt.refl fz ob) (.bl _)⟩
  cases rx with
  | int i =>
    cases ry with
    | int j =>
      cases e
      refine .inl ⟨rfl, ?_⟩
      rw [dec_I]; exact q _ G H (Nxt.refl fz ob) (.bl _)
    | _ => exact deep e
  | str i =>
    cases ry with
    | str j =>
      cases e
      refine .inl ⟨rfl, ?_⟩
      rw [dec_S]; exact q _ G H (Nxt.refl fz ob) (.bl _)
    | _ => exact deep e
  | bl i =>
    cases ry with
    | bl j =>
      cases e
      refine .inl ⟨rfl, ?_⟩
      rw [dec_B]; exact q _ G H (Nxt.refl fz ob) (.bl _)
    | _ => exact deep e
  | _ => exact deep e
theorem snd_ne {K : PySem.W.Frag} : SndR K (fun x y H Q => rNe x y H Q ∨ rNeD K x y H Q) (eqD true) := by
  intro G H b x y dx dy d b' Q rx ry fz ob e q
  have deep : eqDeep true dx dy b = some (d, b') → rNe x y H Q ∨ rNeD K x y H Q := fun h => by
    obtain ⟨e1, e2, h1, h2, h3, h4, rfl, rfl⟩ := eqDeep_some h
    exact .inr ⟨e1, e2, (rx.dp h1).monoF fz, (ry.dp h2).monoF fz, h3, h4, q _ G H (Nxt.refl fz ob) (.bl _)⟩
  cases rx with
  | int i =>
    cases ry with
    | int j =>
      cases e
      refine .inl ⟨rfl, ?_⟩
      rw [dec_I]; exact q _ G H (Nxt.refl fz ob) (.bl _)
    | _ => exact deep e
  | str i =>
    cases ry with
    | str j =>
      cases e
      refine .inl ⟨rfl, ?_⟩
      rw [dec_S]; exact q _ G H (Nxt.refl fz ob) (.bl _)
    | _ => exact deep e
  | bl i =>
    cases ry with
    | bl j =>
      cases e
      refine .inl ⟨rfl, ?_⟩
      rw [dec_B]; exact q _ G H (Nxt.refl fz ob) (.bl _)
    | _ => exact deep e
  | _ => exact deep e
section
variable {X : Cx} {a b : Expr} {f g : Env → M D} {pos : Pos}
theorem t_eq (hu : X.A.units + 64 < cLine) (ha : DE X a f) (hb : DE X b g) : DT X (.Compare a [.Eq] [b] pos) (fun ρ => M.bind (f ρ) fun x => M.bind (g ρ) fun y => M.bind (eqD false x y) asB) := t_cmp (op_eq.or (op_eqD hu)) snd_eq ha hb (nomark _)
theorem d_eq (hu : X.A.units + 64 < cLine) (ha : DE X a f) (hb : DE X b g) : DE X (.Compare a [.Eq] [b] pos) (fun ρ => M.bind (f ρ) fun x => M.bind (g ρ) fun y => eqD false x y) := d_cmp (op_eq.or (op_eqD hu)) snd_eq ha hb (nomark _)
theorem t_ne (hu : X.A.units + 64 < cLine) (ha : DE X a f) (hb : DE X b g) : DT X (.Compare a [.NotEq] [b] pos) (fun ρ => M.bind (f ρ) fun x => M.bind (g ρ) fun y => M.bind (eqD true x y) asB) := t_cmp (op_ne.or (op_neD hu)) snd_ne ha hb (nomark _)
def inD (neg : Bool) : D → D → M D
  | .str [c], .str z => M.ret (.bl (if neg then !decide (c ∈ z) else decide (c ∈ z)))
  | _, _ => M.fail
theorem inD_some {neg : Bool} {x y d : D} {b b' : Bs} (h : inD neg x y b = some (d, b')) : ∃ c z, x = .str [c] ∧ y = .str z ∧ d = .bl (if neg then !decide (c ∈ z) else decide (c ∈ z)) ∧ b = b' := by
  unfold inD at h
  split at h
  · cases h; exact ⟨_, _, rfl, rfl, rfl, rfl⟩
  · cases h
theorem snd_in : SndR X.K (fun x y H Q => ∃ (c : Nat) (z : Str), x = .str ⟨#[c]⟩ ∧ y = .str z ∧ Q (.bl (decide (c ∈ z.cps.toList))) H) (inD false) := by
  intro G H b x y dx dy d b' Q rx ry fz ob e q
  obtain ⟨c, z, rfl, rfl, rfl, rfl⟩ := inD_some e
  cases rx
  cases ry
  refine ⟨c, _, rfl, rfl, ?_⟩
  exact q _ G H (Nxt.refl fz ob) (.bl _)
theorem d_in (ha : DE X a f) (hb : DE X b g) (hm : behindInMarks .In b = false := by rfl) : DE X (.Compare a [.In] [b] pos) (fun ρ => M.bind (f ρ) fun x => M.bind (g ρ) fun y => inD false x y) := d_cmp op_in_sign snd_in ha hb hm
def cutL {α : Type} (xs : List α) (lo hi : Option Int) : List α := (xs.drop (HT.sIx xs.length 0 lo)).take (HT.sIx xs.length xs.length hi - HT.sIx xs.length 0 lo)
def tFO (K : PySem.W.Frag) (f : Env → M (Option Int)) : TO := fun σ H Q => ∃ ρ G b d b', RS K G σ ρ ∧ SameF G H ∧ BagOk G H b ∧ f ρ b = some (d, b') ∧ ∀ G' H', Nxt G H b G' H' b' → Q d H'
abbrev DO (X : Cx) (e : Option Expr) (f : Env → M (Option Int)) : Prop := PO X e (tFO X.K f)
theorem POimp {e : Option Expr} {t t' : TO} (h : PO X e t) (i : ∀ σ H Q, t' σ H Q → t σ H Q) : PO X e t' := ⟨fun pins s σ H Q I q => h.run pins s σ H Q I (i σ H Q q)⟩
theorem do_none : DO X none (fun _ => M.ret none) := by
  refine POimp po_none ?_
  rintro σ H Q ⟨ρ, G, b, d, b', rs, fz, ob, e, q⟩
  cases e
  exact q G H (Nxt.refl fz ob)
def asI : D → M (Option Int)
  | .int i => M.ret (some i)
  | _ => M.fail
theorem do_some (ha : DE X a f) : DO X (some a) (fun ρ => M.bind (f ρ) asI) := by
  refine POimp (po_some ha) ?_
  rintro σ H Q ⟨ρ, G, b, d, b', rs, fz, ob, e, q⟩
  obtain ⟨x, b1, e1, e2⟩ := M.bind_some e
  refine ⟨ρ, G, b, x, b1, rs, fz, ob, e1, fun v G1 H1 n1 r => ?_⟩
  cases r with
  | int i => cases e2; exact ⟨i, rfl, q _ _ n1⟩
  | _ => cases e2
def slD (lo hi : Option Int) : D → M D
  | .str x => M.guard (szS x.length) (M.ret (.str (cutL x lo hi)))
  | .lst xs => M.ret (.lst (cutL xs lo hi))
  | .scr ns => M.ret (.lst (cutL (ns.map D.int) lo hi))
  | .tup xs => M.guard (!(decide (HT.sIx xs.length 0 lo = 0) && decide (HT.sIx xs.length xs.length hi = xs.length))) (M.ret (.tup (cutL xs lo hi)))
  | _ => M.fail
theorem RpL.cut {K : PySem.W.Frag} {G : Hp} {vs : List V} {ds : List D} (r : RpL K G vs ds) (lo hi : Option Int) : RpL K G (cutV vs lo hi) (cutL ds lo hi) := by
  unfold cutV cutL
  rw [r.length]
  exact (r.drop _).take _
theorem cutS_L (x : List Nat) (lo hi : Option Int) : cutS ⟨x.toArray⟩ lo hi = ⟨(cutL x lo hi).toArray⟩ := by
  unfold cutS cutL
  rw [szStr]
theorem d_slice {p2 : Pos} {lo hi : Option Expr} {fl fh : Env → M (Option Int)} (ha : DE X a f) (hl : DO X lo fl) (hh : DO X hi fh) :
    DE X (.Subscript a (.Slice lo hi none p2) pos) (fun ρ => M.bind (f ρ) fun x => M.bind (fl ρ) fun l => M.bind (fh ρ) fun h => slD l h x) := by
  refine PEimp (pe_slice (sl_str.or (sl_list.or sl_tup)) ha hl hh) ?_
  rintro σ H Q ⟨ρ, G, b, d, b', rs, fz, ob, e, q⟩
  obtain ⟨x, b1, e1, e⟩ := M.bind_some e
  obtain ⟨l, b2, e2, e⟩ := M.bind_some e
  obtain ⟨h, b3, e3, e⟩ := M.bind_some e
  refine ⟨ρ, G, b, x, b1, rs, fz, ob, e1, fun v G1 H1 n1 r => ?_⟩
  refine ⟨ρ, G1, b1, l, b2, rs.mono n1.gg, n1.fz, n1.bag, e2, fun G2 H2 n2 => ?_⟩
  refine ⟨ρ, G2, b2, h, b3, (rs.mono n1.gg).mono n2.gg, n2.fz, n2.bag, e3, fun G3 H3 n3 => ?_⟩
  have r := (r.mono n2.gg).mono n3.gg
  have q : ∀ v G' H', Nxt G3 H3 b3 G' H' b' → Rp X.K G' v d → Q v H' := fun v G' H' n rr => q v G' H' (((n1.trans n2).trans n3).trans n) rr
  cases r with
  | str x =>
    obtain ⟨c, e⟩ := M.guard_some e
    cases e
    refine .inl ⟨_, rfl, by rw [szStr]; exact of_decide_eq_true c, ?_⟩
    rw [cutS_L]
    exact q _ G3 H3 (Nxt.refl n3.fz n3.bag) (.str _)
  | lst hx rl =>
    cases e
    exact .inr (.inl ⟨_, _, rfl, SqL.of (n3.fz _ _ hx), fun p hp => q_newL n3.fz n3.bag hp (rl.cut l h) q⟩)
  | scr hx =>
    cases e
    exact .inr (.inl ⟨_, _, rfl, SameF.seq n3.fz hx, fun p hp => q_newL n3.fz n3.bag hp ((RpL.ints _).cut l h) q⟩)
  | tup hx rl =>
    obtain ⟨c, e⟩ := M.guard_some e
    cases e
    refine .inr (.inr ⟨_, _, rfl, SameF.sqt n3.fz hx, ?_, fun p hp => q_newT n3.fz n3.bag hp (rl.cut l h) q⟩)
    rw [rl.length]
    rintro ⟨z1, z2⟩
    simp [z1, z2] at c
  | _ => cases e
def revD : D → M D
  | .str x => M.guard (szS x.length) (M.ret (.str x.reverse))
  | .lst x => M.ret (.lst x.reverse)
  | _ => M.fail
theorem RpL.one {K : PySem.W.Frag} {G : Hp} {vs : List V} {d : D} (r : RpL K G vs [d]) : ∃ v, vs = [v] ∧ Rp K G v d := by
  cases r with
  | cons r1 r2 => cases r2; exact ⟨_, rfl, r1⟩
def lenF : List D → M D
  | [.str x] => M.guard (szS x.length) (M.ret (.int x.length))
  | [.lst x] => M.ret (.int x.length)
  | [.tup x] => M.ret (.int x.length)
  | _ => M.fail
theorem snd_len : SndC X.K (fun xs H Q => ∃ x n, xs = [x] ∧ LenV X.K x H n ∧ Q (.int n) H) lenF := by
  intro G H b vs ds d b' Q r fz ob e q
  unfold lenF at e
  split at e
  · obtain ⟨v, rfl, r1⟩ := r.one
    cases r1
    obtain ⟨c, e⟩ := M.guard_some e
    cases e
    refine ⟨_, _, rfl, ⟨?_, rfl⟩, ?_⟩
    · rw [szStr]; exact of_decide_eq_true c
    · rw [szStr]; exact q _ _ _ (Nxt.refl fz ob) (.int _)
  · obtain ⟨v, rfl, r1⟩ := r.one
    cases r1 with
    | lst h rl => cases e; exact ⟨_, _, rfl, .inl ⟨_, SqL.of (fz _ _ h), rfl⟩, by rw [rl.length]; exact q _ _ _ (Nxt.refl fz ob) (.int _)⟩
  · obtain ⟨v, rfl, r1⟩ := r.one
    cases r1 with
    | tup h rl => cases e; exact ⟨_, _, rfl, .inr ⟨_, SameF.sqt fz h, rfl⟩, by rw [rl.length]; exact q _ _ _ (Nxt.refl fz ob) (.int _)⟩
  · cases e
def absF : List D → M D
  | [.int i] => M.ret (.int (if i < 0 then -i else i))
  | _ => M.fail
theorem snd_abs : SndC X.K (fun xs H Q => ∃ i, xs = [.int i] ∧ Q (.int (if i < 0 then -i else i)) H) absF := by
  intro G H b vs ds d b' Q r fz ob e q
  unfold absF at e
  split at e
  · obtain ⟨v, rfl, r1⟩ := r.one
    cases r1
    cases e
    exact ⟨_, rfl, q _ _ _ (Nxt.refl fz ob) (.int _)⟩
  · cases e
def intF : List D → M D
  | [.int i] => M.ret (.int i)
  | [.bl k] => M.ret (.int (if k then 1 else 0))
  | [.str x] => match PySem.intText? ⟨x.toArray⟩ with
    | some n => M.guard (decide (x.length ≤ 640)) (M.ret (.int n))
    | none => M.fail
  | _ => M.fail
theorem CallR.or {c : Value} {r r' : List V → Hp → VK → Prop} (h : CallR X c r) (h' : CallR X c r') : CallR X c (fun xs H Q => r xs H Q ∨ r' xs H Q) := by
  intro pins s σ H xs us Q I rs q
  rcases q with q | q
  · exact h pins s σ H xs us Q I rs q
  · exact h' pins s σ H xs us Q I rs q
theorem snd_int : SndC X.K (fun xs H Q => ((∃ i, xs = [.int i] ∧ Q (.int i) H) ∨ ∃ k, xs = [.bl k] ∧ Q (.int (if k then 1 else 0)) H) ∨ (∃ a n, xs = [.str a] ∧ PySem.intText? a = some n ∧ a.length ≤ 640 ∧ Q (.int n) H)) intF := by
  intro G H b vs ds d b' Q r fz ob e q
  unfold intF at e
  split at e
  · obtain ⟨v, rfl, r1⟩ := r.one
    cases r1
    cases e
    exact .inl (.inl ⟨_, rfl, q _ _ _ (Nxt.refl fz ob) (.int _)⟩)
  · obtain ⟨v, rfl, r1⟩ := r.one
    cases r1
    cases e
    exact .inl (.inr ⟨_, rfl, q _ _ _ (Nxt.refl fz ob) (.int _)⟩)
  · obtain ⟨v, rfl, r1⟩ := r.one
    cases r1
    rename_i x
    cases e1 : PySem.intText? ⟨x.toArray⟩ with
    | none => rw [e1] at e; cases e
    | some n =>
      rw [e1] at e
      obtain ⟨c, e⟩ := M.guard_some e
      cases e
      exact .inr ⟨_, n, rfl, e1, by rw [szStr]; exact of_decide_eq_true c, q _ _ _ (Nxt.refl fz ob) (.int _)⟩
  · cases e
variable {x : Str} {p : Pos} {e : Expr} {fa : Env → M (List D)}
theorem d_len (hg : Gl X "len") (hm : X.mg "len" = none) (ha : DA X [e] fa) (he : starEach [e] X.env = (false, eval e X.env) :: starEach [] X.env := by rfl) : DE X (.Call (.Name "len" p) [e] [] pos) (fun ρ => M.bind (fa ρ) lenF) :=
  d_callB call_len snd_len hg hm PySem.boot_len ha (he := he)
theorem d_abs (hg : Gl X "abs") (hm : X.mg "abs" = none) (ha : DA X [e] fa) (he : starEach [e] X.env = (false, eval e X.env) :: starEach [] X.env := by rfl) : DE X (.Call (.Name "abs" p) [e] [] pos) (fun ρ => M.bind (fa ρ) absF) :=
  d_callB call_abs snd_abs hg hm (by decide +kernel) ha (he := he)
theorem d_cint (hg : Gl X "int") (hm : X.mg "int" = none) (ha : DA X [e] fa) (he : starEach [e] X.env = (false, eval e X.env) :: starEach [] X.env := by rfl) : DE X (.Call (.Name "int" p) [e] [] pos) (fun ρ => M.bind (fa ρ) intF) :=
  d_callTy (CallR.or call_int1 call_int_str) snd_int hg hm (by decide +kernel) ha (he := he)
def asTs : List D → Option (List (List Nat))
  | [] => some []
  | .str x :: r => match asTs r with
    | some l => some (x :: l)
    | none => none
  | _ => none
def joinF (s : D) (l : D) : M D := match s, l with
  | .str a, .lst ds => match asTs ds with
    | some xs => M.guard (decide ((xs.map List.length).sum + xs.length * a.length ≤ 16777216)) (M.ret (D.str (TL.joinL a xs)))
    | none => M.fail
  | _, _ => M.fail
theorem joinF_some {s l d : D} {b b' : Bs} (h : joinF s l b = some (d, b')) : ∃ a ds xs, s = .str a ∧ l = .lst ds ∧ asTs ds = some xs ∧ (xs.map List.length).sum + xs.length * a.length ≤ 16777216 ∧ d = .str (TL.joinL a xs) ∧ b = b' := by
  cases s with
  | str a =>
    cases l with
    | lst ds =>
      have h' : (match asTs ds with
        | some xs => M.guard (decide ((xs.map List.length).sum + xs.length * a.length ≤ 16777216)) (M.ret (D.str (TL.joinL a xs)))
        | none => M.fail) b = some (d, b') := h
      cases e4 : asTs ds with
      | none => rw [e4] at h'; cases h'
      | some xs =>
        rw [e4] at h'
        obtain ⟨c, e3⟩ := M.guard_some h'
        cases e3
        exact ⟨a, ds, xs, rfl, rfl, e4, of_decide_eq_true c, rfl, rfl⟩
    | _ => cases h
  | _ => cases h
theorem RpL.texts {K : PySem.W.Frag} {G : Hp} : ∀ {vs : List V} {ds : List D} {xs : List (List Nat)}, RpL K G vs ds → asTs ds = some xs → vs = (xs.map fun x => (⟨x.toArray⟩ : Str)).map V.str
  | _, _, _, .nil, h => by cases h; rfl
  | _, _, _, .cons (d := d) (ds := ds) a r, h => by
    cases a with
    | str x =>
      unfold asTs at h
      cases e : asTs ds with
      | none => rw [e] at h; cases h
      | some l =>
        rw [e] at h
        cases h
        rw [RpL.texts r e]
        rfl
    | _ => cases h
theorem join_tl (a : List Nat) (xs : List (List Nat)) : Txt.join ⟨a.toArray⟩ (xs.map fun x => (⟨x.toArray⟩ : Str)) = ⟨(TL.joinL a xs).toArray⟩ := by
  exact SX.join_S a xs
theorem d_join {apos : Pos} (ha : DE X a f) (hb : DE X b g) (hs : starEach [b] X.env = [(false, eval b X.env)] := by rfl) (hbase : attributeBase a "join" X.env (eval a X.env) = eval a X.env := by rfl) (hline : (apos.endLine == pos.line) = true := by rfl) :
    DE X (.Call (.Attribute a "join" apos) [b] [] pos) (fun ρ => M.bind (f ρ) fun x => M.bind (g ρ) fun y => joinF x y) := by
  refine PEimp (pe_join ha hb hs hbase hline) ?_
  rintro σ H Q ⟨ρ, G, b, d, b', rs, fz, ob, e, q⟩
  obtain ⟨x, b1, e1, e⟩ := M.bind_some e
  obtain ⟨y, b2, e2, e3⟩ := M.bind_some e
  refine ⟨ρ, G, b, x, b1, rs, fz, ob, e1, fun v G1 H1 n1 r1 => ?_⟩
  cases r1 with
  | str a =>
    refine ⟨⟨_, rfl⟩, ρ, G1, b1, y, b2, rs.mono n1.gg, n1.fz, n1.bag, e2, fun v2 G2 H2 n2 r2 => ?_⟩
    obtain ⟨a0, ds, xs, z1, rfl, e4, c, rfl, rfl⟩ := joinF_some e3
    cases z1
    cases r2 with
    | lst h rl =>
      have hv := rl.texts e4
      subst hv
      refine ⟨_, _, _, rfl, rfl, .inl (SqL.of (n2.fz _ _ h)), ?_, ?_⟩
      · have ee : (List.map (fun (z : Str) => z.length) (xs.map fun x => (⟨x.toArray⟩ : Str))) = xs.map List.length := by
          rw [List.map_map]
          apply List.map_congr_left
          intro z _
          exact szStr z
        rw [ee, szStr, List.length_map]
        exact c
      · rw [join_tl]
        exact q _ _ _ (n1.trans n2) (.str _)
  | _ => obtain ⟨_, _, _, z, _⟩ := joinF_some e3; cases z
end
end DL
set_option Elab.async false
set_option maxRecDepth 100000
set_option autoImplicit false
set_option linter.unusedVariables false
set_option maxHeartbeats 4000000
namespace DL
open PySem L2 PySem.Spec PyProof.Rows
variable [TAB : TabList]
set_option linter.unusedSectionVars false
def spD (K : PySem.W.Frag) (n : Nat) (F : List D → M D) : Sp := fun vs H Q _ => ∃ G b ds d b', RpL K G vs ds ∧ ds.length = n ∧ SameF G H ∧ BagOk G H b ∧ F ds b = some (d, b') ∧
  ∀ v G' H', Nxt G H b G' H' b' → Rp K G' v d → Q v H'
def spN (K : PySem.W.Frag) (n : Nat) (F : List D → M (List D)) : Sp := fun vs H Q _ => ∃ G b ds xs b', RpL K G vs ds ∧ ds.length = n ∧ SameF G H ∧ BagOk G H b ∧ F ds b = some (xs, b') ∧
  ∀ p ws G' H', Nxt G H b G' H' b' → H p = none → G' p = none → H' p = some (.lst ws) → RpL K G' ws xs → Q (.ref p) H'
def startD (m : Nat) (ds : List D) : Env2 := ds.map (fun d => some (.val d)) ++ List.replicate (m - ds.length) none
def runD (m : Nat) (F : Env2 → M Out) (ds : List D) : M D := M.bind (F (startD m ds)) fun o => match o with
  | .rt d => M.ret d
  | .rn xs => M.ret (.lst xs)
  | .nx _ => M.ret .non
  | _ => M.fail
def runN (m : Nat) (F : Env2 → M Out) (ds : List D) : M (List D) := M.bind (F (startD m ds)) fun o => match o with
  | .rn xs => M.ret xs
  | _ => M.fail
theorem SI.start [EFF : Eff] {K : PySem.W.Frag} {N : List Str} {G H : Hp} {b : Bs} {vs : List V} {ds : List D} (r : RpL K G vs ds) (fz : SameF G H) (ob : BagOk G H b) : SI K ⟨G, H, b⟩ (L2.start N vs) (startD N.length ds) G H b := by
  have hl := r.length
  have old : ∀ (i : Nat) (s : Slot), (startD N.length ds)[i]? = some (some s) → ∃ d, ds[i]? = some d ∧ s = .val d := fun i s h => by
    unfold startD at h
    by_cases hi : i < ds.length
    · rw [List.getElem?_append_left (by simpa using hi), List.getElem?_map] at h
      rw [List.getElem?_eq_getElem hi] at h ⊢
      cases h
      exact ⟨_, rfl, rfl⟩
    · rw [List.getElem?_append_right (by simpa using hi)] at h
      by_cases h2 : i - (ds.map fun d => some (Slot.val d)).length < N.length - ds.length
      · rw [List.getElem?_replicate_of_lt h2] at h; cases h
      · rw [List.getElem?_eq_none (by simpa using h2)] at h; cases h
  refine ⟨fz, fun _ _ h => h, fun _ _ _ h => h, fun _ _ h _ _ => h, ob, b.like_refl, ?_, fun i d h => ?_, fun _ => [], fun i s o h1 h2 => ?_, fun i a ha => (nomatch ha), fun i => List.nodup_nil, fun i j a ha => (nomatch ha)⟩
  · unfold startD L2.start
    simp [hl]
  · obtain ⟨d', h1, h2⟩ := old i _ h
    cases h2
    obtain ⟨v, h3, h4⟩ := r.get h1
    refine ⟨v, ?_, h4⟩
    unfold L2.start
    have hi : i < vs.length := (List.getElem?_eq_some_iff.mp h3).1
    rw [List.getElem?_append_left (by simpa using hi), List.getElem?_map, h3]
    rfl
  · obtain ⟨d', e1, e2⟩ := old i _ h1
    rw [e2] at h2
    cases h2
theorem run_d {K : PySem.W.Frag} {N : List Str} {n : Nat} {Fs : Env2 → M Out} {vs : List V} {H : Hp} {Q : VK} {E : XK} (h : spD K n (runD N.length Fs) vs H Q E) : tS K Fs { nx := fun _ H' => Q .non H', rt := Q } (L2.start N vs) H := by
  obtain ⟨G, b, ds, d, b', r, hn, fz, ob, e, q⟩ := h
  obtain ⟨o, b1, e1, e2⟩ := M.bind_some e
  refine ⟨⟨G, H, b⟩, _, G, b, o, b1, SI.start r fz ob, e1, ?_⟩
  cases o with
  | rt d => cases e2; exact fun v G' H' n r => q v G' H' n r
  | rn xs =>
    cases e2
    intro p ws G' H' n hp gp hh r
    · have sg : Same G' (upd G' p (.lst ws)) := fun a o h => by rw [upd_ne (ne_of_none h gp)]; exact h
      refine q (.ref p) (upd G' p (.lst ws)) H' (.mk' (fun a o h => sg a o (n.gg a o h)) (n.fz.frz hh) (NxtB.keep n) (fun a o h hn => ?_) ?_ n.like) (.lst upd_same (r.mono sg))
      · rw [upd_ne (ne_of_none h hp)]; exact n.new a o h hn
      · exact n.bag.frz (by rw [← Bs.like_at n.like]; exact bag_ne ob hp) gp
  | nx ρ => cases e2; exact fun σ' G' H' I => q .non G' H' I.nxt .non
  | bk ρ => cases e2
  | ct ρ => cases e2
theorem run_n {K : PySem.W.Frag} {N : List Str} {n : Nat} {Fs : Env2 → M Out} {vs : List V} {H : Hp} {Q : VK} {E : XK} (h : spN K n (runN N.length Fs) vs H Q E) : tS K Fs { nx := fun _ H' => Q .non H', rt := Q } (L2.start N vs) H := by
  obtain ⟨G, b, ds, xs, b', r, hn, fz, ob, e, q⟩ := h
  obtain ⟨o, b1, e1, e2⟩ := M.bind_some e
  refine ⟨⟨G, H, b⟩, _, G, b, o, b1, SI.start r fz ob, e1, ?_⟩
  cases o with
  | rn xs => cases e2; exact fun p ws G' H' n hp gp hh r => q p ws G' H' n hp gp hh r
  | rt d => cases e2
  | nx ρ => cases e2
  | bk ρ => cases e2
  | ct ρ => cases e2
structure FnG (P : Program) (w : World) (K : PySem.W.Frag) (mg : Str → Option Value) (base : Heap) (k : Nat) (f : Addr) (fd : FuncData) (ps : List Str) (sp : Sp) : Prop where
  len : ∀ vs H Q E, sp vs H Q E → vs.length = ps.length
  run : ∀ (A : Around) (outer : List PySem.Env) (s : Shared) (H : Hp) (args : Args) (us : List Value) (vs : List V) (Q : VK), Room k A → A.guards = some [] →
    Env0 P w K mg base A outer s H → BindsTo s fd args (ps.zip us) → Vals vs us → sp vs H Q E0 → codeAny (model P w) A (.call (.ref f) args) (CR CX0 outer P w H s Q E0) s
section
variable {P : Program} {w : World} {K : PySem.W.Frag} {mg : Str → Option Value} {base : Heap}
theorem FnG.of {k : Nat} {f : Addr} {fd : FuncData} {ps : List Str} {sp : Sp} (F : FnOk P w K mg base CX0 k f fd ps sp) : FnG P w K mg base k f fd ps sp :=
  ⟨F.len, fun A outer s H args us vs Q hr _ e0 hb hv hs => F.run A outer s H args us vs Q E0 hr e0 hb hv hs⟩
theorem fn_g {x qual : Str} {st : Stmt} {f : Addr} {fd : FuncData} {N ps : List Str} {k : Nat} {sp : Sp} (F : Fun K x qual st f fd) (S : FnScope N ps (defScope st)) (len : ∀ vs H Q E, sp vs H Q E → vs.length = ps.length)
    (hbody : ∀ (cdv : Value) (A : Around) (outer : List PySem.Env) (s : Shared) (H : Hp) (vs : List V) (Q : VK), Room k (A.deeper (envOfC qual (defScope st) s.heap.objs.size f cdv)) → A.guards = some [] → sp vs H Q E0 →
      ∃ t, PSs (cxOf CX0 P w K mg base N qual (defScope st) f cdv A outer s H E0).nox (defBody st) t ∧ t { nx := fun _ H' => Q .non H', rt := Q } (L2.start N vs) H) : FnG P w K mg base (k + 1) f fd ps sp := by
  obtain ⟨oc, od, kV, doc, pm, an, cdv, ct, osl, rfl, lk, hcd⟩ := F.ex
  refine ⟨len, fun A outer s H args us vs Q hr hgd e0 hb r hsp => ?_⟩
  have hl := len _ _ _ _ hsp
  have bk := fun b o (e : base.get? b = some o) => (e0.bs b o e).1
  have KX : K.In s.heap := e0.mod.kin.keeps bk
  have lim : s.heap.NoLimit := e0.mod.nolimit.keeps bk
  refine codeAny_call_function hr.depth (KX _ _ lk) rfl S.co S.gen rfl (PySem.W.codeRec_of KX hcd) (hb _ _ _ _ ?_)
  refine wpAny_newFunctionEnv_cells S.kind (fun y hy => ?_) fun env he s1 x => ?_
  · rcases S.par y.1 (List.of_mem_zip (show (y.1, y.2) ∈ _ from hy)).1 with q | q
    · exact .inl q
    · exact .inr ⟨q, PySem.W.cellsFrom_some _ _ _ (.inl q)⟩
  subst he
  refine ⟨lim.keeps x.toInCall.keep, codeAny_func ?_⟩
  obtain ⟨t, ht, hq⟩ := hbody cdv A outer s H vs Q (hr.deeper _) hgd hsp
  have ht := ht.nox
  have I : Inv (cxOf CX0 P w K mg base N qual (defScope st) f cdv A outer s H E0) [] (L2.start N vs) H s1 := inv_start S hr.hd e0 hl r x
  refine wpAny_mono (ht.run [] s1 (L2.start N vs) H _ I hq) (fun fl s' hs => ?_) fun e s' hs => hs
  cases fl with
  | ret u => obtain ⟨v, σ', H', J, rv, q⟩ := hs; exact ⟨v, H', J.os, J.bare, J.base, J.hok, rv, q⟩
  | next => obtain ⟨σ', H', J, q⟩ := hs; exact ⟨.non, H', J.os, J.bare, J.base, J.hok, rfl, q⟩
  | brk => obtain ⟨_, _, _, q⟩ := hs; exact False.elim q
  | cont => obtain ⟨_, _, _, q⟩ := hs; exact False.elim q
theorem spD_len {n : Nat} {F : List D → M D} {ps : List Str} (hn : n = ps.length) : ∀ vs H Q E, spD K n F vs H Q E → vs.length = ps.length := by
  rintro vs H Q E ⟨G, b, ds, d, b', r, h, _⟩
  rw [r.length, h, hn]
theorem spN_len {n : Nat} {F : List D → M (List D)} {ps : List Str} (hn : n = ps.length) : ∀ vs H Q E, spN K n F vs H Q E → vs.length = ps.length := by
  rintro vs H Q E ⟨G, b, ds, d, b', r, h, _⟩
  rw [r.length, h, hn]
variable {x qual : Str} {st : Stmt} {f : Addr} {fd : FuncData} {N ps : List Str} {k : Nat} {Fs : Env2 → M Out}
theorem fnD (F : Fun K x qual st f fd) (S : FnScope N ps (defScope st)) (hb : ∀ (cdv : Value) (A : Around) (outer : List PySem.Env) (s : Shared) (H : Hp) (E : XK), Room k (A.deeper (envOfC qual (defScope st) s.heap.objs.size f cdv)) →
      DSs (cxOf CX0 P w K mg base N qual (defScope st) f cdv A outer s H E).nox (defBody st) Fs) : FnOk P w K mg base CX0 (k + 1) f fd ps (spD K ps.length (runD N.length Fs)) :=
  F.ok S (spD_len rfl) fun cdv A outer s H vs Q E hr h => ⟨_, hb cdv A outer s H E hr, run_d h⟩
theorem fnN (F : Fun K x qual st f fd) (S : FnScope N ps (defScope st)) (hb : ∀ (cdv : Value) (A : Around) (outer : List PySem.Env) (s : Shared) (H : Hp) (E : XK), Room k (A.deeper (envOfC qual (defScope st) s.heap.objs.size f cdv)) →
      DSs (cxOf CX0 P w K mg base N qual (defScope st) f cdv A outer s H E).nox (defBody st) Fs) : FnOk P w K mg base CX0 (k + 1) f fd ps (spN K ps.length (runN N.length Fs)) :=
  F.ok S (spN_len rfl) fun cdv A outer s H vs Q E hr h => ⟨_, hb cdv A outer s H E hr, run_n h⟩
theorem fnGD (F : Fun K x qual st f fd) (S : FnScope N ps (defScope st)) (hb : ∀ (cdv : Value) (A : Around) (outer : List PySem.Env) (s : Shared) (H : Hp), Room k (A.deeper (envOfC qual (defScope st) s.heap.objs.size f cdv)) → A.guards = some [] →
      DSs (cxOf CX0 P w K mg base N qual (defScope st) f cdv A outer s H E0).nox (defBody st) Fs) : FnG P w K mg base (k + 1) f fd ps (spD K ps.length (runD N.length Fs)) :=
  fn_g F S (spD_len rfl) fun cdv A outer s H vs Q hr hg h => ⟨_, hb cdv A outer s H hr hg, run_d h⟩
end
section
variable {X : Cx} {k : Nat} {f : Addr} {fd : FuncData} {ps : List Str} {sp : Sp} {x : Str} {p pos : Pos} {e : Expr} {es : List Expr} {t : TA} {n : Nat} {Fn : List D → M D} {Fl : List D → M (List D)} {fa : Env → M (List D)}
theorem pe_callG (F : FnG X.prog X.w X.K X.mg X.base k f fd ps sp) (hr : Room k X.A) (hgd : X.A.guards = some []) (hg : Gl X x) (hm : X.mg x = some (.ref f)) (hk : PySem.W.keepIn X.K (.ref f) = true) (hb : Binds X.K fd ps [])
    (ha : PA X (e :: es) t) (hdb : (x == ("__debug__" : Str)) = false := by decide) (he : starEach (e :: es) X.env = (false, eval e X.env) :: starEach es X.env := by rfl) (hpl : (backTo pos (starEach es X.env)).any (·.1) = false := by rfl) :
    PE X (.Call (.Name x p) (e :: es) [] pos) (tCall sp [] E0 t) := by
  refine ⟨fun pins s σ H Q I h => wpAny_Call_Name_kw (ld_glob I hg hm ?_ hdb)⟩
  refine PySem.W.callWith_K (h₀ := X.base) I.ok.mod.kin hk (thn (ha.run pos pins s σ H _ I h) fun us s1 ⟨vs, H1, I1, r, q⟩ => ⟨I1.kIn, ?_⟩) he hpl
  have q : sp vs H1 Q E0 := by
    have q' : sp (vs ++ []) H1 Q E0 := q
    rw [List.append_nil] at q'
    exact q'
  have hl : (us ++ []).length = ps.length := by rw [List.append_nil, ← r.length]; exact F.len _ _ _ _ q
  have hb1 := hb s1 us I1.kIn hl
  rw [List.append_nil] at hb1
  refine wpAny_call (codeAny_mono (F.run X.A X.stack s1 H1 ⟨us, []⟩ us vs Q hr hgd I1.env0 hb1 r q) fun rr s' hq => ?_)
  cases rr with
  | error e => exact False.elim hq
  | ok fl =>
    cases fl with
    | ret u => exact I1.after hq
    | next => exact False.elim hq
    | brk => exact False.elim hq
    | cont => exact False.elim hq
theorem call_f {K : PySem.W.Frag} (hn : ∀ ρ b ds b', fa ρ b = some (ds, b') → ds.length = n) : ∀ σ H Q, tF K (fun ρ => M.bind (fa ρ) Fn) σ H Q → tCall (spD K n Fn) [] E0 (tFA K fa) σ H Q := by
  rintro σ H Q ⟨ρ, G, b, d, b', rs, fz, ob, e, q⟩
  obtain ⟨ds, b1, e1, e2⟩ := M.bind_some e
  refine ⟨ρ, G, b, ds, b1, rs, fz, ob, e1, fun vs G1 H1 n1 r1 => ?_⟩
  exact ⟨G1, b1, ds, d, b', by rw [List.append_nil]; exact r1, hn _ _ _ _ e1, n1.fz, n1.bag, e2, fun v G2 H2 n2 r2 => q v G2 H2 (n1.trans n2) r2⟩
theorem callN_f {K : PySem.W.Frag} (hn : ∀ ρ b ds b', fa ρ b = some (ds, b') → ds.length = n) : ∀ σ H Q, tN K (fun ρ => M.bind (fa ρ) Fl) σ H Q → tCall (spN K n Fl) [] E0 (tFA K fa) σ H Q := by
  rintro σ H Q ⟨ρ, G, b, d, b', rs, fz, ob, e, q⟩
  obtain ⟨ds, b1, e1, e2⟩ := M.bind_some e
  refine ⟨ρ, G, b, ds, b1, rs, fz, ob, e1, fun vs G1 H1 n1 r1 => ?_⟩
  exact ⟨G1, b1, ds, d, b', by rw [List.append_nil]; exact r1, hn _ _ _ _ e1, n1.fz, n1.bag, e2, fun p ws G2 H2 n2 hp gp hh r2 => q p ws G2 H2 (n1.trans n2) (n1.free hp) gp hh r2⟩
def ArN (fa : Env → M (List D)) (n : Nat) : Prop := ∀ ρ b ds b', fa ρ b = some (ds, b') → ds.length = n
theorem ar_nil : ArN (fun _ => M.ret []) 0 := fun ρ b ds b' h => by cases h; rfl
theorem ar_cons {f : Env → M D} {g : Env → M (List D)} {n : Nat} (h : ArN g n) : ArN (fun ρ => M.bind (f ρ) fun x => M.bind (g ρ) fun xs => M.ret (x :: xs)) (n + 1) := fun ρ b ds b' e => by
  obtain ⟨y, b1, _, e⟩ := M.bind_some e
  obtain ⟨l, b2, e2, e3⟩ := M.bind_some e
  cases e3
  simp [h _ _ _ _ e2]
theorem d_call (F : FnOk X.prog X.w X.K X.mg X.base CX0 k f fd ps (spD X.K n Fn)) (hr : Room k X.A) (hg : Gl X x) (hm : X.mg x = some (.ref f)) (hk : PySem.W.keepIn X.K (.ref f) = true) (hb : Binds X.K fd ps []) (ha : DA X (e :: es) fa) (hn : ArN fa n)
    (hdb : (x == ("__debug__" : Str)) = false := by decide) (he : starEach (e :: es) X.env = (false, eval e X.env) :: starEach es X.env := by rfl) (hpl : (backTo pos (starEach es X.env)).any (·.1) = false := by rfl) :
    DE X (.Call (.Name x p) (e :: es) [] pos) (fun ρ => M.bind (fa ρ) Fn) := PEimp (pe_call F hr hg hm hk hb .nil (fun _ _ _ _ _ _ _ h => h.elim) ha hdb he hpl) (call_f hn)
theorem dn_call (F : FnOk X.prog X.w X.K X.mg X.base CX0 k f fd ps (spN X.K n Fl)) (hr : Room k X.A) (hg : Gl X x) (hm : X.mg x = some (.ref f)) (hk : PySem.W.keepIn X.K (.ref f) = true) (hb : Binds X.K fd ps []) (ha : DA X (e :: es) fa) (hn : ArN fa n)
    (hdb : (x == ("__debug__" : Str)) = false := by decide) (he : starEach (e :: es) X.env = (false, eval e X.env) :: starEach es X.env := by rfl) (hpl : (backTo pos (starEach es X.env)).any (·.1) = false := by rfl) :
    DN X (.Call (.Name x p) (e :: es) [] pos) (fun ρ => M.bind (fa ρ) Fl) := PEimp (pe_call F hr hg hm hk hb .nil (fun _ _ _ _ _ _ _ h => h.elim) ha hdb he hpl) (callN_f hn)
theorem d_callG (F : FnG X.prog X.w X.K X.mg X.base k f fd ps (spD X.K n Fn)) (hr : Room k X.A) (hgd : X.A.guards = some []) (hg : Gl X x) (hm : X.mg x = some (.ref f)) (hk : PySem.W.keepIn X.K (.ref f) = true) (hb : Binds X.K fd ps []) (ha : DA X (e :: es) fa) (hn : ArN fa n)
    (hdb : (x == ("__debug__" : Str)) = false := by decide) (he : starEach (e :: es) X.env = (false, eval e X.env) :: starEach es X.env := by rfl) (hpl : (backTo pos (starEach es X.env)).any (·.1) = false := by rfl) :
    DE X (.Call (.Name x p) (e :: es) [] pos) (fun ρ => M.bind (fa ρ) Fn) := PEimp (pe_callG F hr hgd hg hm hk hb ha hdb he hpl) (call_f hn)
end
section
variable {X : Cx}
theorem call_reprD (hg : X.A.guards = some []) (hu : X.A.units + 70 < cLine) : CallR X (.builtin "repr") (fun xs H Q => ∃ x d, xs = [x] ∧ Dp X.K H x d ∧ d.showable = true ∧ SeqAt.shaped d = true ∧ d.shown.length ≤ sizeLine ∧ Q (.str d.shown) H) := by
  intro pins s σ H xs us Q I r h
  obtain ⟨x, d, rfl, hd, h1, h2, h3, q⟩ := h
  obtain ⟨u, rfl, ru⟩ := vals1 r
  obtain ⟨as, rd⟩ := Dp.reads I d x u hd ru
  have h2' : (d.canLay0 && decide (d.depth ≤ 64)) = true := h2
  simp only [Bool.and_eq_true, decide_eq_true_eq] at h2'
  cases hd with
  | non => cases ru; exact PySem.P.repr_of_none ⟨.str _, H, I.tok _, ⟨_, rfl⟩, q⟩
  | bl b => cases ru; exact PySem.P.repr_of_bool ⟨.str _, H, I.tok _, ⟨_, rfl⟩, q⟩
  | int i => obtain ⟨t, rfl⟩ := ru; exact PySem.P.repr_of_int (by simpa [PyData.showable] using h1) ⟨.str _, H, I.tok _, ⟨_, rfl⟩, q⟩
  | str z => obtain ⟨t, rfl⟩ := ru; exact PySem.P.repr_of_str ⟨.str _, H, I.tok _, ⟨_, rfl⟩, q⟩ h3
  | lst _ _ =>
    cases ru
    exact repr_of_reads' rd h1 (PyData.noDict_hsm (PyData.hasDict_of_canLay _ h2'.1)) hg (by omega) (fun _ _ e => e) (fun h' t tk hk => ⟨.str _, H, I.kept hk, ⟨_, rfl⟩, q⟩) h3
  | tup _ _ =>
    cases ru
    exact repr_of_reads' rd h1 (PyData.noDict_hsm (PyData.hasDict_of_canLay _ h2'.1)) hg (by omega) (fun _ _ e => e) (fun h' t tk hk => ⟨.str _, H, I.kept hk, ⟨_, rfl⟩, q⟩) h3
end
end DL
set_option Elab.async false
set_option maxRecDepth 100000
set_option autoImplicit false
set_option linter.unusedVariables false
set_option maxHeartbeats 4000000
namespace DL
open PySem L2 PySem.Spec PyProof.Rows
variable [TAB : TabList]
variable [EFF : Eff]
set_option linter.unusedSectionVars false
def okA (d : D) : Bool := match toPy d with
  | some e => e.showable && SeqAt.shaped e && decide (e.shown.length ≤ sizeLine)
  | none => false
def reprF : List D → M D
  | [x] => match toPy x with
    | some e => M.guard (e.showable && SeqAt.shaped e && decide (e.shown.length ≤ sizeLine)) (M.ret (.str e.shown.cps.toList))
    | none => M.fail
  | _ => M.fail
theorem eqDeep_same {d : D} (h : okA d = true) : eqDeep false d d = M.ret (.bl true) := by
  unfold okA at h
  unfold eqDeep
  cases e : toPy d with
  | none => rw [e] at h; cases h
  | some p =>
    rw [e] at h
    simp only [Bool.and_eq_true, decide_eq_true_eq] at h
    have h2 : (p.canLay0 && decide (p.depth ≤ 64)) = true := h.1.2
    rw [Bool.and_eq_true] at h2
    show M.guard (SeqAt.shaped p && SeqAt.shaped p) (M.ret (D.bl (PyData.eqv p p))) = _
    rw [h.1.2, SeqAt.eqv_refl p h2.1]
    rfl
theorem eqD_same {d : D} (h : okA d = true) : eqD false d d = M.ret (.bl true) := by
  cases d with
  | int i => simp [eqD]
  | str i => simp [eqD]
  | bl i => simp [eqD]
  | _ => exact eqDeep_same h
theorem reprF_ok {d : D} (h : okA d = true) : ∃ x, reprF [d] = M.ret (.str x) := by
  unfold okA at h
  unfold reprF
  cases e : toPy d with
  | none => rw [e] at h; cases h
  | some p =>
    rw [e] at h
    refine ⟨p.shown.cps.toList, ?_⟩
    show (match toPy d with
      | some e => M.guard (e.showable && SeqAt.shaped e && decide (e.shown.length ≤ sizeLine)) (M.ret (D.str e.shown.cps.toList))
      | none => M.fail) = _
    rw [e]
    exact M.guard_of h
def Okd (k w : Nat) (d : D) : Prop := ∃ e, toPy d = some e ∧ e.showable = true ∧ e.canLay0 = true ∧ e.depth ≤ k ∧ e.shown.length ≤ w
theorem Okd.ok {k w : Nat} {d : D} (h : Okd k w d) (hk : k ≤ 64) (hw : w ≤ sizeLine) : okA d = true := by
  obtain ⟨e, h1, h2, h3, h4, h5⟩ := h
  unfold okA
  rw [h1]
  show (e.showable && (e.canLay0 && decide (e.depth ≤ 64)) && decide (e.shown.length ≤ sizeLine)) = true
  rw [h2, h3, decide_eq_true (by omega : e.depth ≤ 64), decide_eq_true (by omega : e.shown.length ≤ sizeLine)]
  rfl
theorem Okd.str {x : List Nat} (h : x.all (fun c => decide (c < 1114112)) = true) : Okd 0 (10 * x.length + 8) (.str x) := by
  have h3 : PyData.canLay0 (.str ⟨x.toArray⟩) = true := by
    show (⟨x.toArray⟩ : Str).cps.all (fun c => decide (c < 0x110000)) = true
    simpa using h
  refine ⟨_, by unfold toPy; rfl, by simp [PyData.showable], h3, by simp [PyData.depth], ?_⟩
  have := PyData.shown_le 8 (Nat.le_refl _) (.str ⟨x.toArray⟩) (PyData.leavesShort_of_canLay0 8 _ h3 (by simp [PyData.intsShort]))
  have hw : PyData.weight (.str ⟨x.toArray⟩) = x.length := by simp [PyData.weight]
  rw [hw] at this
  exact this
theorem Okd.int {i : Int} (h : i.natAbs < 10 ^ 12) : Okd 0 13 (.int i) := by
  refine ⟨.int i, by unfold toPy; rfl, ?_, by simp [PyData.canLay0], by simp [PyData.depth], PyData.shown_int_le h⟩
  simp only [PyData.showable, decide_eq_true_eq]
  by_cases h0 : i.natAbs = 0
  · rw [h0]; decide
  · have : i.natAbs < 2 ^ 40 := Nat.lt_of_lt_of_le h (by decide)
    have := (Nat.log2_lt h0).mpr this
    omega
theorem Okd.bl (b : Bool) : Okd 0 5 (.bl b) := ⟨.bool b, by unfold toPy; rfl, by simp [PyData.showable], by simp [PyData.canLay0], by simp [PyData.depth], by cases b <;> decide +kernel⟩
theorem Okd.non : Okd 0 5 .non := ⟨.none, by unfold toPy; rfl, by simp [PyData.showable], by simp [PyData.canLay0], by simp [PyData.depth], by decide +kernel⟩
theorem Okd.mono {k k' w w' : Nat} {d : D} (h : Okd k w d) (hk : k ≤ k') (hw : w ≤ w') : Okd k' w' d := by
  obtain ⟨e, h1, h2, h3, h4, h5⟩ := h
  exact ⟨e, h1, h2, h3, Nat.le_trans h4 hk, Nat.le_trans h5 hw⟩
theorem Okd.all {k w : Nat} : ∀ {ds : List D}, (∀ d ∈ ds, Okd k w d) → ∃ es, toPyL ds = some es ∧ PyData.showableAll es = true ∧ PyData.canLayAll0 es = true ∧ PyData.depthAll es ≤ k ∧ ((PyData.shownAll es).map (·.length)).sum ≤ ds.length * w ∧ (PyData.shownAll es).length = ds.length
  | [], _ => ⟨[], by unfold toPyL; rfl, by simp [PyData.showableAll], by simp [PyData.canLayAll0], by simp [PyData.depthAll], by simp [PyData.shownAll], by simp [PyData.shownAll]⟩
  | d :: ds, h => by
    obtain ⟨e, h1, h2, h3, h4, h5⟩ := h d (by simp)
    obtain ⟨es, g1, g2, g3, g4, g5, g6⟩ := Okd.all (ds := ds) fun d' hd => h d' (by simp [hd])
    refine ⟨e :: es, by unfold toPyL; rw [h1, g1], by simp [PyData.showableAll, h2, g2], by simp [PyData.canLayAll0, h3, g3], by simp only [PyData.depthAll]; omega, ?_, by simp [PyData.shownAll, g6]⟩
    simp only [PyData.shownAll, List.map_cons, List.sum_cons, List.length_cons]
    rw [Nat.succ_mul]
    omega
theorem Okd.lst {k w : Nat} {ds : List D} (h : ∀ d ∈ ds, Okd k w d) : Okd (k + 1) (ds.length * (w + 2) + 3) (.lst ds) := by
  obtain ⟨es, g1, g2, g3, g4, g5, g6⟩ := Okd.all h
  refine ⟨.list es, by unfold toPy; rw [g1], by simp [PyData.showable, g2], by simp [PyData.canLay0, g3], by simp only [PyData.depth]; omega, ?_⟩
  simp only [PyData.shown]
  have := listText_len_le (PyData.shownAll es)
  rw [g6] at this
  rw [Nat.mul_add]
  omega
theorem Okd.tup {k w : Nat} {ds : List D} (h : ∀ d ∈ ds, Okd k w d) : Okd (k + 1) (ds.length * (w + 2) + 3) (.tup ds) := by
  obtain ⟨es, g1, g2, g3, g4, g5, g6⟩ := Okd.all h
  refine ⟨.tuple es, by unfold toPy; rw [g1], by simp [PyData.showable, g2], by simp [PyData.canLay0, g3], by simp only [PyData.depth]; omega, ?_⟩
  simp only [PyData.shown]
  have := tupleText_len_le (PyData.shownAll es)
  rw [g6] at this
  rw [Nat.mul_add]
  omega
theorem SI.bagset {K : PySem.W.Frag} {E : En} {σ : L2.St} {ρ : Env2} {G H : Hp} {g g' : Bg} (I : SI K E σ ρ G H (some g)) (h1 : g.p = g'.p) (h2 : g.q = g'.q) (h3 : g.cs = g'.cs ∧ g.st = g'.st) :
    SI K E σ ρ G (upd H g.p (.lst [.int g'.z0, .int g'.z1, .int g'.z2, .ref g'.q])) (some g') := by
  obtain ⟨⟨o1, o2, o3, o4⟩, ot⟩ := I.bag
  have eb : E.b.hit g.p := by rw [Bs.like_at I.like]; exact .inl rfl
  refine ⟨fun a o h => ?_, I.g0, I.new, fun a o h hb hg => ?_, ⟨⟨by rw [← h1]; exact o1, by rw [← h1, upd_same], by rw [← h2, ← h3.1]; exact o3, by rw [← h3.2]; exact o4.ext (fun _ _ h => h) (fun _ _ h => h) fun a k z => upd_ne (ne_of_none z o1)⟩, fun p hp => ⟨(ot p hp).1, TabS.mut (ot p hp).2 ?_ (nc_of o2)⟩⟩, ?_, I.len, I.val, ?_⟩
  · rw [upd_ne (ne_of_none h o1)]; exact I.fz a o h
  · rw [upd_ne fun z => hb (by rw [z]; exact eb)]; exact I.keep a o h hb hg
  · obtain ⟨_, ps, z, _⟩ := ot p hp
    exact ne_of z o2 (fun z => by cases z)
  · exact Bs.like_trans I.like ⟨h1, h2, h3.1, fun _ => h3.2⟩
  · obtain ⟨fp, w⟩ := I.own
    have ne : ∀ i a, a ∈ fp i → a ≠ g.p := fun i a ha z => (w.ok i a ha).2.2.1 (by rw [z]; exact .inl rfl)
    refine ⟨fp, fun i s o k1 k2 => ?_, fun i a ha => ?_, w.nd, w.dj⟩
    · obtain ⟨v, k3, k4⟩ := w.at_ i s o k1 k2
      exact ⟨v, k3, k4.mono (fun _ _ h => h) fun a ha => upd_ne (ne i a ha)⟩
    · obtain ⟨k1, k2, k3, k4⟩ := w.ok i a ha
      refine ⟨k1, k2, ?_, by rw [upd_ne (ne i a ha)]; exact k4⟩
      rintro (z | z)
      · apply k3
        refine .inl ?_
        show some g.p = some a
        rw [h1]; exact z
      · exact k3 (.inr z)
def putB (k : Int) (n : Int) (g : Bg) : Option Bg := if k = 0 then some { g with z0 := n } else if k = 1 then some { g with z1 := n } else if k = 2 then some { g with z2 := n } else none
theorem putB_some {k n : Int} {g g' : Bg} (h : putB k n g = some g') : g.p = g'.p ∧ g.q = g'.q ∧ (g.cs = g'.cs ∧ g.st = g'.st) ∧ ∃ j, ixN 4 k = some j ∧ [V.int g'.z0, .int g'.z1, .int g'.z2, .ref g'.q] = [V.int g.z0, .int g.z1, .int g.z2, .ref g.q].set j (.int n) := by
  unfold putB at h
  by_cases h0 : k = 0
  · rw [if_pos h0] at h; cases h; subst h0; exact ⟨rfl, rfl, ⟨rfl, rfl⟩, 0, rfl, rfl⟩
  · rw [if_neg h0] at h
    by_cases h1 : k = 1
    · rw [if_pos h1] at h; cases h; subst h1; exact ⟨rfl, rfl, ⟨rfl, rfl⟩, 1, rfl, rfl⟩
    · rw [if_neg h1] at h
      by_cases h2 : k = 2
      · rw [if_pos h2] at h; cases h; subst h2; exact ⟨rfl, rfl, ⟨rfl, rfl⟩, 2, rfl, rfl⟩
      · rw [if_neg h2] at h; cases h
def bagPut (j : Nat) (k : Int) (d : D) (ρ : Env2) : M Out := fun b => match ρ[j]?, d, b with
  | some (some (.val (.bag p))), .int n, some g => if g.p = p then (putB k n g).map fun g' => (.nx ρ, some g') else none
  | _, _, _ => none
theorem bagPut_some {j : Nat} {k : Int} {d : D} {ρ : Env2} {b b' : Bs} {o : Out} (h : bagPut j k d ρ b = some (o, b')) : ∃ n g g', ρ[j]? = some (some (.val (.bag g.p))) ∧ d = .int n ∧ b = some g ∧ b' = some g' ∧ o = .nx ρ ∧ putB k n g = some g' := by
  unfold bagPut at h
  split at h
  · rename_i p n g e1
    by_cases hp : g.p = p
    · rw [if_pos hp] at h
      cases e : putB k n g with
      | none => rw [e] at h; cases h
      | some g' => rw [e] at h; cases h; exact ⟨n, g, g', by rw [hp]; exact e1, rfl, rfl, rfl, rfl, e⟩
    · rw [if_neg hp] at h; cases h
  · cases h
def bagSetM (j : Nat) (k : Int) (ms : List Nat) (f : Env → M D) (ρ : Env2) : M Out := M.bind (f (view ms ρ)) fun d => bagPut j k d ρ
section
variable {X : Cx} {pos : Pos}
theorem s_bagset (j : Nat) (ms : List Nat) {k : Int} {x : Str} {e : Expr} {f : Env → M D} {p1 p2 p3 : Pos} {kk : Nat} (he : DE X e f) (hN : X.N[j]? = some x := by rfl) (hv : Vis X.env.scope x := by first | exact Or.inl rfl | exact Or.inr (Or.inl rfl) | exact Or.inr (Or.inr rfl))
    (hd : (x == ("__debug__" : Str)) = false := by decide) (hcd : (x == ("__classdict__" : Str)) = false := by decide)
    (hs : swapsWithSole [.Subscript (.Name x p1) (.Constant (.int k) kk p2) p3] e pos.line X.env = pure false := by rfl) (hw : swappedStores [.Subscript (.Name x p1) (.Constant (.int k) kk p2) p3] e X.env = pure none := by rfl) :
    DS X (.Assign [.Subscript (.Name x p1) (.Constant (.int k) kk p2) p3] e pos) (bagSetM j k ms f) := by
  refine PSimp (ps_asg he (pg_sub (pe_var hN hv hd hcd) pe_int set_list) hs hw) ?_
  rintro D σ H ⟨E, ρ, G, b, o, b', I, e, q⟩
  obtain ⟨d, b1, e1, e2⟩ := M.bind_some e
  obtain ⟨n, g, g', hj, rfl, rfl, rfl, rfl, hp⟩ := bagPut_some e2
  refine ⟨_, _, b, _, _, I.rs ms, I.gp2 ms, I.gpb ms, e1, fun v G1 H1 n1 r => ?_⟩
  cases r
  have I2 := I.flat n1
  obtain ⟨v, h1, h2⟩ := I2.val j _ hj
  cases h2
  obtain ⟨l1, l2, l3, jj, hix, hset⟩ := putB_some hp
  refine ⟨_, h1, g.p, _, k, jj, rfl, rfl, I2.bag.1.2.1, hix, ?_⟩
  have I3 := I2.bagset l1 l2 l3
  rw [hset] at I3
  exact q _ _ _ I3
def rGetL (K : PySem.W.Frag) : V → V → Hp → VK → Prop := fun o i H Q => ∃ (p : Addr) (xs : List V) (k : Int) (v : V), o = .ref p ∧ i = .int k ∧ 0 ≤ k ∧ SqL K H p xs ∧ xs[k.toNat]? = some v ∧ Q v H
theorem get_list : PGet X (rGetL X.K) := by
  intro pins s σ H o i ov iv Q I ro ri h
  obtain ⟨p, xs, k, v, rfl, rfl, h0, hq, hx, q⟩ := h
  cases ro
  obtain ⟨t, rfl⟩ := ri
  obtain ⟨its, r, pl, hz⟩ := I.list hq
  obtain ⟨w, ew, rw'⟩ := r.get hx
  have hl : k.toNat < xs.length := (List.getElem?_eq_some_iff.mp hx).1
  have hn := line63
  exact wpAny_getItem_list pl.isList h0 (by omega) (by simpa using ew) ⟨v, H, I, rw', q⟩
def bagAugM (j : Nat) (k : Int) (ms : List Nat) (f : Env → M D) (ρ : Env2) : M Out := M.bind (f (view ms ρ)) fun d => fun b => match d, b with
  | .int n, some g => bagPut j k (.int ((if k = 0 then g.z0 else if k = 1 then g.z1 else g.z2) + n)) ρ (some g)
  | _, _ => none
theorem s_bagaug (j : Nat) (ms : List Nat) {k n : Int} {x : Str} {p1 p2 p3 p4 : Pos} {kk kn : Nat} (hk : k = 0 ∨ k = 1 ∨ k = 2) (hN : X.N[j]? = some x := by rfl) (hv : Vis X.env.scope x := by first | exact Or.inl rfl | exact Or.inr (Or.inl rfl) | exact Or.inr (Or.inr rfl))
    (hd : (x == ("__debug__" : Str)) = false := by decide) (hcd : (x == ("__classdict__" : Str)) = false := by decide) :
    DS X (.AugAssign (.Subscript (.Name x p1) (.Constant (.int k) kk p2) p3) .Add (.Constant (.int n) kn p4) pos) (bagAugM j k ms fun _ => M.ret (.int n)) := by
  refine PSimp (ps_augS (pe_var hN hv hd hcd) pe_int get_list pe_int ip_add set_list) ?_
  rintro D σ H ⟨E, ρ, G, b, o, b', I, e, q⟩
  obtain ⟨d, b1, e1, e2⟩ := M.bind_some e
  cases e1
  cases b with
  | none => cases e2
  | some g =>
    obtain ⟨m, g0, g', hj, e0, e3, rfl, rfl, hp⟩ := bagPut_some e2
    cases e0
    cases e3
    obtain ⟨v, h1, h2⟩ := I.val j _ hj
    cases h2
    obtain ⟨l1, l2, l3, jj, hix, hset⟩ := putB_some hp
    refine ⟨_, h1, g.p, [.int g.z0, .int g.z1, .int g.z2, .ref g.q], k, .int (if k = 0 then g.z0 else if k = 1 then g.z1 else g.z2), rfl, rfl, ?_, SqL.of I.bag.1.2.1, ?_, _, n, rfl, rfl, g.p, _, k, jj, rfl, rfl, I.bag.1.2.1, hix, ?_⟩
    · rcases hk with rfl | rfl | rfl <;> decide
    · rcases hk with rfl | rfl | rfl <;> rfl
    · have I3 := I.bagset l1 l2 l3
      rw [hset] at I3
      exact q _ _ _ I3
end
def okB (p : Addr) (g : Bg) : Prop := g.p = p ∧ 0 ≤ g.z2
def Tot {α : Type} (p : Addr) (m : M α) (P : α → Prop) : Prop := ∀ g, okB p g → ∃ a g', m (some g) = some (a, some g') ∧ (okB p g' ∧ g'.st = g.st) ∧ P a
theorem Tot.ret {α : Type} {p : Addr} {a : α} {P : α → Prop} (h : P a) : Tot p (M.ret a) P := fun g hg => ⟨a, g, rfl, ⟨hg, rfl⟩, h⟩
theorem Tot.bind {α β : Type} {p : Addr} {m : M α} {f : α → M β} {P : α → Prop} {Q : β → Prop} (h : Tot p m P) (k : ∀ a, P a → Tot p (f a) Q) : Tot p (M.bind m f) Q := fun g hg => by
  obtain ⟨a, g1, e1, h1, p1⟩ := h g hg
  obtain ⟨c, g2, e2, h2, p2⟩ := k a p1 g1 h1.1
  exact ⟨c, g2, by rw [M.bind_eq e1]; exact e2, ⟨h2.1, h2.2.trans h1.2⟩, p2⟩
theorem Tot.mono {α : Type} {p : Addr} {m : M α} {P Q : α → Prop} (h : Tot p m P) (k : ∀ a, P a → Q a) : Tot p m Q := fun g hg => by
  obtain ⟨a, g1, e1, h1, p1⟩ := h g hg
  exact ⟨a, g1, e1, h1, k a p1⟩
def TotS {α : Type} (p : Addr) (st : List Cell) (m : M α) (P : α → List Cell → Prop) : Prop := ∀ g, okB p g → g.st = st → ∃ a g', m (some g) = some (a, some g') ∧ okB p g' ∧ P a g'.st
theorem TotS.ret {α : Type} {p : Addr} {st : List Cell} {a : α} {P : α → List Cell → Prop} (h : P a st) : TotS p st (M.ret a) P := fun g hg e => ⟨a, g, rfl, hg, by rw [e]; exact h⟩
theorem TotS.bind {α β : Type} {p : Addr} {st : List Cell} {m : M α} {f : α → M β} {P : α → List Cell → Prop} {Q : β → List Cell → Prop} (h : TotS p st m P) (k : ∀ a st', P a st' → TotS p st' (f a) Q) : TotS p st (M.bind m f) Q := fun g hg e => by
  obtain ⟨a, g1, e1, h1, p1⟩ := h g hg e
  obtain ⟨c, g2, e2, h2, p2⟩ := k a _ p1 g1 h1 rfl
  exact ⟨c, g2, by rw [M.bind_eq e1]; exact e2, h2, p2⟩
theorem TotS.mono {α : Type} {p : Addr} {st : List Cell} {m : M α} {P Q : α → List Cell → Prop} (h : TotS p st m P) (k : ∀ a st', P a st' → Q a st') : TotS p st m Q := fun g hg e => by
  obtain ⟨a, g1, e1, h1, p1⟩ := h g hg e
  exact ⟨a, g1, e1, h1, k a _ p1⟩
theorem Tot.s {α : Type} {p : Addr} {st : List Cell} {m : M α} {P : α → Prop} (h : Tot p m P) : TotS p st m fun a st' => st' = st ∧ P a := fun g hg e => by
  obtain ⟨a, g1, e1, h1, p1⟩ := h g hg
  exact ⟨a, g1, e1, h1.1, h1.2.trans e, p1⟩
theorem TotS.tot {α : Type} {p : Addr} {m : M α} {P : α → Prop} (h : ∀ st, TotS p st m fun a st' => st' = st ∧ P a) : Tot p m P := fun g hg => by
  obtain ⟨a, g1, e1, h1, e2, p1⟩ := h g.st g hg rfl
  exact ⟨a, g1, e1, ⟨h1, e2⟩, p1⟩
end DL
set_option Elab.async false
set_option maxRecDepth 100000
set_option autoImplicit false
set_option linter.unusedVariables false
set_option maxHeartbeats 4000000
namespace DL
open PySem L2 PySem.Spec PyProof.Rows
variable [TAB : TabList]
variable [EFF : Eff]
set_option linter.unusedSectionVars false
def spLaw (K : PySem.W.Frag) : Sp := fun vs H Q _ => ∃ (a : Addr) (ns : List Int), vs = [.ref a] ∧ SqL K H a (ns.map V.int) ∧ ns.length ≤ 63 ∧ (∀ p ∈ TAB.T, LamX.TabS H p.1 p.2) ∧ ∀ H', Q (.bl true) H'
noncomputable def noTab (H : Hp) : Hp := fun a =>
  haveI := Classical.propDecidable ((∃ q, (a, q) ∈ TAB.T) ∨ ∃ k, H a = some (ghost k))
  if (∃ q, (a, q) ∈ TAB.T) ∨ ∃ k, H a = some (ghost k) then none else H a
theorem noTab_in {H : Hp} {p : Addr × Str} (h : p ∈ TAB.T) : noTab H p.1 = none := by
  unfold noTab
  exact if_pos (.inl ⟨p.2, h⟩)
theorem noTab_same {H : Hp} : SameF (noTab H) H := fun a o h => by
  haveI := Classical.propDecidable ((∃ q, (a, q) ∈ TAB.T) ∨ ∃ k, H a = some (ghost k))
  unfold noTab at h
  by_cases c : (∃ q, (a, q) ∈ TAB.T) ∨ ∃ k, H a = some (ghost k)
  · rw [if_pos c] at h; cases h
  · rw [if_neg c] at h; exact frOk_of h
theorem noTab_gh {H : Hp} (a : Addr) (k : Nat) : noTab H a ≠ some (ghost k) := fun h => by
  haveI := Classical.propDecidable ((∃ q, (a, q) ∈ TAB.T) ∨ ∃ k, H a = some (ghost k))
  unfold noTab at h
  by_cases c : (∃ q, (a, q) ∈ TAB.T) ∨ ∃ k, H a = some (ghost k)
  · rw [if_pos c] at h; cases h
  · rw [if_neg c] at h; exact c (.inr ⟨k, h⟩)
theorem noTab_of {H : Hp} (ht : ∀ p ∈ TAB.T, LamX.TabS H p.1 p.2) {a : Addr} {o : HO} (h : H a = some o) (n : ∀ ps, o ≠ .tbl ps) (ng : ∀ k, o ≠ ghost k := by intro k z; cases z) : noTab H a = some o := by
  unfold noTab
  rw [if_neg]
  · exact h
  · rintro (⟨q, c⟩ | ⟨k, c⟩)
    · obtain ⟨ps, z, _⟩ := ht _ c
      have z : H a = some (.tbl ps) := z
      rw [h] at z
      exact n _ (Option.some.inj z)
    · rw [h] at c
      exact ng k (Option.some.inj c)
theorem noTab_sq {K : PySem.W.Frag} {H : Hp} (ht : ∀ p ∈ TAB.T, LamX.TabS H p.1 p.2) {a : Addr} {xs : List V} (h : SqL K H a xs) : SqL K (noTab H) a xs := by
  rcases h with (h | ⟨o, h⟩) | h
  · exact .inl (.inl (noTab_of ht h fun ps z => by cases z))
  · exact .inl (.inr ⟨o, noTab_of ht h fun ps z => by cases z⟩)
  · exact .inr h
def env0 (n : Nat) (p : Addr) : Env2 := none :: some (.val (.bag p)) :: List.replicate n none
theorem ints_of {K : PySem.W.Frag} {G : Hp} : ∀ {vs : List V} {cs : List Int}, RpL K G vs (cs.map D.int) → vs = cs.map V.int
  | _, [], .nil => rfl
  | _, c :: cs, .cons a r => by
    cases a
    rw [ints_of (cs := cs) r]
    rfl
end DL
set_option Elab.async false
set_option maxRecDepth 100000
set_option autoImplicit false
set_option linter.unusedVariables false
set_option maxHeartbeats 4000000
namespace DL
open PySem L2 PySem.Spec PyProof.Rows
variable [TAB : TabList]
variable [EFF : Eff]
set_option linter.unusedSectionVars false
def e2 (h : D → D → M D) (f g : Env → M D) : Env → M D := fun ρ => M.bind (f ρ) fun x => M.bind (g ρ) fun y => h x y
def t2 (h : D → D → M D) (f g : Env → M D) : Env → M Bool := fun ρ => M.bind (f ρ) fun x => M.bind (g ρ) fun y => M.bind (h x y) asB
def e1 (h : D → M D) (f : Env → M D) : Env → M D := fun ρ => M.bind (f ρ) h
def cst (d : D) : Env → M D := fun _ => M.ret d
def aN : Env → M (List D) := fun _ => M.ret []
def aC (f : Env → M D) (g : Env → M (List D)) : Env → M (List D) := fun ρ => M.bind (f ρ) fun x => M.bind (g ρ) fun xs => M.ret (x :: xs)
def eCall (h : List D → M D) (f : Env → M (List D)) : Env → M D := fun ρ => M.bind (f ρ) h
def nCall (h : List D → M (List D)) (f : Env → M (List D)) : Env → M (List D) := fun ρ => M.bind (f ρ) h
def eN (f : Env → M (List D)) : Env → M D := fun ρ => M.bind (f ρ) fun xs => M.ret (.lst xs)
def nLst (g : Env → M (List D)) : Env → M (List D) := fun ρ => M.bind (g ρ) fun xs => M.guard (szL xs) (M.ret xs)
def eTup (g : Env → M (List D)) : Env → M D := fun ρ => M.bind (g ρ) fun xs => M.guard (szL xs) (M.ret (.tup xs))
def tVal (f : Env → M D) : Env → M Bool := fun ρ => M.bind (f ρ) truD
def tNotM (f : Env → M Bool) : Env → M Bool := fun ρ => M.bind (f ρ) fun k => M.ret (!k)
def tAndM (f g : Env → M Bool) : Env → M Bool := fun ρ => M.bind (f ρ) fun k => if k = true then g ρ else M.ret false
def tOrM (f g : Env → M Bool) : Env → M Bool := fun ρ => M.bind (f ρ) fun k => if k = true then M.ret true else g ρ
def eAnd (f g : Env → M D) : Env → M D := fun ρ => M.bind (f ρ) fun x => M.bind (asB x) fun k => if k = true then g ρ else M.ret (.bl false)
def eNot (f : Env → M D) : Env → M D := fun ρ => M.bind (f ρ) fun x => M.bind (asB x) fun k => M.ret (.bl (!k))
def eIf (t : Env → M Bool) (f g : Env → M D) : Env → M D := fun ρ => M.bind (t ρ) fun k => if k = true then f ρ else g ρ
def iAny (f : Env → M D) : Env → M (List D) := fun ρ => M.bind (f ρ) itemsD
def iRg1 (f : Env → M (List D)) : Env → M (List D) := fun ρ => M.bind (f ρ) rng1
def iRg2 (f : Env → M (List D)) : Env → M (List D) := fun ρ => M.bind (f ρ) rng2
def nLc (vs : List Nat) (gi : Env → M (List D)) (bs : D → Option (List (Nat × D))) (c : Env → M Bool) (e : Env → M D) : Env → M (List D) := fun ρ => M.bind (gi ρ) fun xs => M.bind (compM bs c e (wipeD ρ vs) xs) fun ys => M.guard (szL ys) (M.ret ys)
def cT : Env → M Bool := fun _ => M.ret true
def oN : Env → M (Option Int) := fun _ => M.ret none
def oS (f : Env → M D) : Env → M (Option Int) := fun ρ => M.bind (f ρ) asI
def eSl (f : Env → M D) (fl fh : Env → M (Option Int)) : Env → M D := fun ρ => M.bind (f ρ) fun x => M.bind (fl ρ) fun l => M.bind (fh ρ) fun h => slD l h x
def sNil : Env2 → M Out := fun ρ => M.ret (.nx ρ)
structure FnAt (K : PySem.W.Frag) (mg : Str → Option Value) (x : Str) (st : Stmt) (ps : List Str) (f : Addr) (fd : FuncData) : Prop where
  fn : Fun K x x st f fd
  bd : Binds K fd ps []
  gl : mg x = some (.ref f)
section
variable {X : Cx} {pos : Pos}
def unpM (bs : D → Option (List (Nat × D))) (ms : List Nat) (f : Env → M D) (ρ : Env2) : M Out := M.bind (f (view ms ρ)) fun d => match bs d with
  | some l => M.ret (.nx (setAll2 (keepIf d.flat ms ρ) l))
  | none => M.fail
theorem s_unp {bs : D → Option (List (Nat × D))} (ms : List Nat) {tg e : Expr} {f : Env → M D} {g : TG} {is : List Nat} (he : DE X e f) (hg : PG X tg g) (ht : TgOk X.K g bs is) (hs : swapsWithSole [tg] e pos.line X.env = pure false := by rfl) (hw : swappedStores [tg] e X.env = pure none := by rfl) (h1 : (assignEach [tg] X.env).map (·.2) = [assign tg X.env] := by rfl) :
    DS X (.Assign [tg] e pos) (unpM bs ms f) := by
  refine PSimp (ps_asg he hg hs hw h1) ?_
  rintro D σ H ⟨E, ρ, G, b, o, b', I, e, q⟩
  obtain ⟨d, b1, e1, e2⟩ := M.bind_some e
  cases eb : bs d with
  | none => rw [eb] at e2; cases e2
  | some l =>
    rw [eb] at e2
    cases e2
    refine ⟨_, _, b, d, b', I.rs ms, I.gp2 ms, I.gpb ms, e1, fun v G1 H1 n1 r => ?_⟩
    obtain ⟨G2, I2, r2⟩ := I.after n1 r
    obtain ⟨lv, pl, il, gq⟩ := ht G2 v d l r2 eb
    exact gq H1 σ _ I2.fz (q _ G2 H1 (SI.setAll pl I2))
end
end DL
set_option Elab.async false
set_option maxRecDepth 100000
set_option autoImplicit false
set_option linter.unusedVariables false
set_option maxHeartbeats 4000000
namespace DL
open PySem L2
theorem view_eq (ms : List Nat) (ρ : Env2) : view ms ρ = viewAt ms 0 ρ := rfl
theorem viewAt_nil (ms : List Nat) (i : Nat) : viewAt ms i [] = [] := rfl
theorem viewAt_cons (ms : List Nat) (i : Nat) (s : Option Slot) (r : Env2) : viewAt ms i (s :: r) = (if ms.contains i then s.map Slot.see else none) :: viewAt ms (i + 1) r := rfl
theorem frz_eq (ms : List Nat) (ρ : Env2) : frz ms ρ = frzAt ms 0 ρ := rfl
theorem frzAt_nil (ms : List Nat) (i : Nat) : frzAt ms i [] = [] := rfl
theorem frzAt_cons (ms : List Nat) (i : Nat) (s : Option Slot) (r : Env2) : frzAt ms i (s :: r) = (if ms.contains i then s.map (fun s => Slot.val s.see) else s) :: frzAt ms (i + 1) r := rfl
theorem see_val (d : D) : (Slot.val d).see = d := rfl
theorem see_own (xs : List D) : (Slot.own xs).see = .lst xs := rfl
theorem keepIf_t (ms : List Nat) (ρ : Env2) : keepIf true ms ρ = ρ := rfl
theorem keepIf_f (ms : List Nat) (ρ : Env2) : keepIf false ms ρ = frz ms ρ := rfl
theorem flat_int (i : Int) : (D.int i).flat = true := rfl
theorem flat_str (i : List Nat) : (D.str i).flat = true := rfl
theorem flat_bl (i : Bool) : (D.bl i).flat = true := rfl
theorem flat_non : D.non.flat = true := rfl
theorem flat_bag (p : Addr) : (D.bag p).flat = true := rfl
theorem flat_lst (i : List D) : (D.lst i).flat = false := rfl
theorem flat_tup (i : List D) : (D.tup i).flat = false := rfl
theorem flat_obj (C : Nat) (i : List D) : (D.obj C i).flat = false := rfl
theorem rd_0 (d : D) (r : Env) : rdEnv 0 (some d :: r) = M.ret d := rfl
theorem rd_1 (o : Option D) (r : Env) : rdEnv 1 (o :: r) = rdEnv 0 r := rfl
theorem rd_2 (o : Option D) (r : Env) : rdEnv 2 (o :: r) = rdEnv 1 r := rfl
theorem rd_3 (o : Option D) (r : Env) : rdEnv 3 (o :: r) = rdEnv 2 r := rfl
theorem rd_4 (o : Option D) (r : Env) : rdEnv 4 (o :: r) = rdEnv 3 r := rfl
theorem rd_5 (o : Option D) (r : Env) : rdEnv 5 (o :: r) = rdEnv 4 r := rfl
theorem rd_6 (o : Option D) (r : Env) : rdEnv 6 (o :: r) = rdEnv 5 r := rfl
theorem rd_7 (o : Option D) (r : Env) : rdEnv 7 (o :: r) = rdEnv 6 r := rfl
theorem rd_8 (o : Option D) (r : Env) : rdEnv 8 (o :: r) = rdEnv 7 r := rfl
theorem rd_9 (o : Option D) (r : Env) : rdEnv 9 (o :: r) = rdEnv 8 r := rfl
theorem lenF_str {t : List Nat} (h : t.length ≤ 16777216) : lenF [.str t] = M.ret (.int t.length) := M.guard_of (decide_eq_true h)
theorem lenF_lst (t : List D) : lenF [.lst t] = M.ret (.int t.length) := rfl
theorem lenF_tup (t : List D) : lenF [.tup t] = M.ret (.int t.length) := rfl
theorem intF_int (i : Int) : intF [.int i] = M.ret (.int i) := rfl
theorem intF_bl (i : Bool) : intF [.bl i] = M.ret (.int (if i then 1 else 0)) := rfl
theorem absF_int (i : Int) : absF [.int i] = M.ret (.int (if i < 0 then -i else i)) := rfl
theorem modD_int {i j : Int} (h : 0 < j) : modD (.int i) (.int j) = M.ret (.int (i % j)) := by
  show M.of (Option.map D.int (if 0 < j then some (i % j) else none)) = _
  rw [if_pos h]; rfl
theorem divD_int {i j : Int} (h : 0 < j) (h2 : j < 1000000000000000000000000000000) : divD (.int i) (.int j) = M.ret (.int (i / j)) := by
  show M.of (Option.map D.int (if 0 < j ∧ j < 1000000000000000000000000000000 then some (i / j) else none)) = _
  rw [if_pos ⟨h, h2⟩]; rfl
theorem subD_int (i j : Int) : subD (.int i) (.int j) = M.ret (.int (i - j)) := rfl
theorem addD_int (i j : Int) : addD (.int i) (.int j) = M.ret (.int (i + j)) := rfl
theorem addD_str {x y : List Nat} (h : x.length + y.length ≤ 16777216) : addD (.str x) (.str y) = M.ret (.str (x ++ y)) := M.guard_of (decide_eq_true h)
theorem addD_lst {x y : List D} (h : x.length + y.length ≤ 16777216) : addD (.lst x) (.lst y) = M.ret (.lst (x ++ y)) := M.guard_of (decide_eq_true h)
theorem mulD_int {i j : Int} (h : okM i j = true) : mulD (.int i) (.int j) = M.ret (.int (i * j)) := M.guard_of h
theorem okM_l {i j : Int} (h1 : -18446744073709551616 < i) (h2 : i < 18446744073709551616) : okM i j = true := by
  unfold okM
  rw [Bool.or_eq_true, Bool.and_eq_true]
  exact .inl ⟨decide_eq_true h1, decide_eq_true h2⟩
theorem okM_r {i j : Int} (h1 : -18446744073709551616 < j) (h2 : j < 18446744073709551616) : okM i j = true := by
  unfold okM
  rw [Bool.or_eq_true, Bool.and_eq_true, Bool.and_eq_true]
  exact .inr ⟨decide_eq_true h1, decide_eq_true h2⟩
theorem negD_int (i : Int) : negD (.int i) = M.ret (.int (-i)) := rfl
theorem asI_int (i : Int) : asI (.int i) = M.ret (some i) := rfl
theorem asB_bl (b : Bool) : asB (.bl b) = M.ret b := rfl
theorem truD_bl (b : Bool) : truD (.bl b) = M.ret b := rfl
theorem slD_str {x : List Nat} {l h : Option Int} (hz : x.length ≤ 16777216) : slD l h (.str x) = M.ret (.str (cutL x l h)) := M.guard_of (decide_eq_true hz)
theorem slD_lst (x : List D) (l h : Option Int) : slD l h (.lst x) = M.ret (.lst (cutL x l h)) := rfl
theorem slD_scr (x : List Int) (l h : Option Int) : slD l h (.scr x) = M.ret (.lst (cutL (x.map D.int) l h)) := rfl
theorem revD_str {x : List Nat} (hz : x.length ≤ 16777216) : revD (.str x) = M.ret (.str x.reverse) := M.guard_of (decide_eq_true hz)
theorem revD_lst (x : List D) : revD (.lst x) = M.ret (.lst x.reverse) := rfl
theorem ltD_int (i j : Int) : ltD (.int i) (.int j) = M.ret (.bl (decide (i < j))) := rfl
theorem leD_int (i j : Int) : leD (.int i) (.int j) = M.ret (.bl (decide (i ≤ j))) := rfl
theorem gtD_int (i j : Int) : gtD (.int i) (.int j) = M.ret (.bl (decide (j < i))) := rfl
theorem geD_int (i j : Int) : geD (.int i) (.int j) = M.ret (.bl (decide (j ≤ i))) := rfl
theorem eqD_int (i j : Int) : eqD false (.int i) (.int j) = M.ret (.bl (decide (i = j))) := rfl
theorem eqD_str (i j : List Nat) : eqD false (.str i) (.str j) = M.ret (.bl (decide (i = j))) := rfl
theorem neD_int (i j : Int) : eqD true (.int i) (.int j) = M.ret (.bl (!decide (i = j))) := rfl
theorem neD_str (i j : List Nat) : eqD true (.str i) (.str j) = M.ret (.bl (!decide (i = j))) := rfl
theorem inD_str (c : Nat) (z : List Nat) : inD false (.str [c]) (.str z) = M.ret (.bl (decide (c ∈ z))) := rfl
theorem notInD_str (c : Nat) (z : List Nat) : inD true (.str [c]) (.str z) = M.ret (.bl (!decide (c ∈ z))) := rfl
theorem atI_lt {α : Type} {xs : List α} {i : Int} (h0 : 0 ≤ i) (h1 : i < xs.length) : atI xs i = xs[i.toNat]? := by
  have e : ((i.toNat : Nat) : Int) = i := by omega
  have hl : i.toNat < xs.length := by omega
  have h := atI_nat (xs := xs) (j := i.toNat) (v := xs[i.toNat]) (by simp [hl])
  rw [e] at h
  rw [h, List.getElem?_eq_getElem hl]
theorem ixD_str {x : List Nat} {i : Int} (hz : x.length ≤ 16777216) (h0 : 0 ≤ i) (h1 : i < x.length) : ixD (.str x) (.int i) = M.ret (.str [x.getD i.toNat 0]) := by
  have hl : i.toNat < x.length := by omega
  show M.guard (szS x.length) (M.of ((atI x i).map fun c => D.str [c])) = _
  rw [M.guard_of (show szS x.length = true from decide_eq_true hz), atI_lt h0 h1, List.getElem?_eq_getElem hl]
  simp [List.getD, List.getElem?_eq_getElem hl]
theorem ixD_lst {x : List D} {i : Int} {d : D} (h : atI x i = some d) : ixD (.lst x) (.int i) = M.ret d := by
  show M.of (atI x i) = _
  rw [h]; rfl
theorem rng1_int {j : Int} (h : -4611686018427387904 ≤ j) (h2 : j < 4611686018427387904) : rng1 [.int j] = M.ret ((List.range j.toNat).map fun k => .int (0 + (k : Nat))) := by
  refine M.guard_of ?_
  unfold okR
  rw [Bool.and_eq_true]
  exact ⟨decide_eq_true h, decide_eq_true h2⟩
theorem rng2_int {i j : Int} (h : -4611686018427387904 ≤ i) (h2 : i < 4611686018427387904) (h3 : -4611686018427387904 ≤ j) (h4 : j < 4611686018427387904) : rng2 [.int i, .int j] = M.ret ((List.range (j - i).toNat).map fun k => .int (i + (k : Nat))) := by
  refine M.guard_of ?_
  unfold okR
  rw [Bool.and_eq_true, Bool.and_eq_true, Bool.and_eq_true]
  exact ⟨⟨decide_eq_true h, decide_eq_true h2⟩, decide_eq_true h3, decide_eq_true h4⟩
theorem itemsD_lst (xs : List D) : itemsD (.lst xs) = M.ret xs := rfl
theorem itemsD_tup (xs : List D) : itemsD (.tup xs) = M.ret xs := rfl
theorem itemsD_str (x : List Nat) : itemsD (.str x) = M.ret (x.map fun c => .str [c]) := rfl
theorem szL_ok {xs : List D} (h : xs.length ≤ 16777216) {α : Type} {m : M α} : M.guard (szL xs) m = m := M.guard_of (decide_eq_true h)
theorem asTs_map (xs : List (List Nat)) : asTs (xs.map D.str) = some xs := by
  induction xs with
  | nil => rfl
  | cons x xs ih => show (match asTs (xs.map D.str) with | some l => some (x :: l) | none => none) = _; rw [ih]
theorem joinL_nil : ∀ xs : List (List Nat), TL.joinL [] xs = xs.flatten
  | [] => rfl
  | [x] => by simp [TL.joinL]
  | x :: y :: r => by
    show x ++ ([] ++ TL.joinL [] (y :: r)) = _
    rw [joinL_nil (y :: r)]; simp
theorem joinF_map {xs : List (List Nat)} (h : (xs.map List.length).sum ≤ 16777216) : joinF (.str []) (.lst (xs.map D.str)) = M.ret (.str xs.flatten) := by
  show (match asTs (xs.map D.str) with
    | some xs => M.guard (decide ((xs.map List.length).sum + xs.length * ([] : List Nat).length ≤ 16777216)) (M.ret (D.str (TL.joinL [] xs)))
    | none => M.fail) = _
  rw [asTs_map]
  show M.guard _ _ = _
  rw [M.guard_of (decide_eq_true (by simpa using h)), joinL_nil]
theorem joinF_one {α : Type} {xs : List α} {f : α → Nat} (h : xs.length ≤ 16777216) : joinF (.str []) (.lst (xs.map fun a => D.str [f a])) = M.ret (.str (xs.map f)) := by
  have e : (xs.map fun a => D.str [f a]) = (xs.map fun a => [f a]).map D.str := by simp
  rw [e, joinF_map]
  · congr 2
    induction xs with
    | nil => rfl
    | cons a r ih => simp [ih (Nat.le_trans (Nat.le_succ _) h)]
  · have : ∀ ys : List α, ((ys.map fun a => [f a]).map List.length).sum = ys.length := by
      intro ys
      induction ys with
      | nil => rfl
      | cons a r ih => rw [List.map_cons, List.map_cons, List.sum_cons, ih]; simp; omega
    rw [this xs]; exact h
theorem compM_mapI {α : Type} {bs : D → Option (List (Nat × D))} {c : Env → M Bool} {e : Env → M D} {ρ : Env} {inj : α → D} {l : α → List (Nat × D)} {y : α → D} : ∀ {xs : List α}, (∀ a ∈ xs, bs (inj a) = some (l a) ∧ c (setAllD ρ (l a)) = M.ret true ∧ e (setAllD ρ (l a)) = M.ret (y a)) → compM bs c e ρ (xs.map inj) = M.ret (xs.map y)
  | [], _ => rfl
  | x :: xs, h => by
    obtain ⟨h1, h2, h3⟩ := h x (by simp)
    rw [List.map_cons]
    unfold compM
    rw [h1]
    show M.bind _ _ = _
    rw [h2, M.ret_bind, if_pos rfl, h3, M.ret_bind, compM_mapI (xs := xs) fun x hx => h x (by simp [hx])]
    rfl
theorem compM_filterI {α : Type} {bs : D → Option (List (Nat × D))} {c : Env → M Bool} {e : Env → M D} {ρ : Env} {inj : α → D} {l : α → List (Nat × D)} {k : α → Bool} {y : α → D} : ∀ {xs : List α}, (∀ a ∈ xs, bs (inj a) = some (l a) ∧ c (setAllD ρ (l a)) = M.ret (k a) ∧ e (setAllD ρ (l a)) = M.ret (y a)) → compM bs c e ρ (xs.map inj) = M.ret ((xs.filter k).map y)
  | [], _ => rfl
  | x :: xs, h => by
    obtain ⟨h1, h2, h3⟩ := h x (by simp)
    rw [List.map_cons]
    unfold compM
    rw [h1]
    show M.bind _ _ = _
    have ih := compM_filterI (xs := xs) (fun x hx => h x (by simp [hx]))
    rw [h2, M.ret_bind]
    cases hk : k x with
    | true => rw [if_pos rfl, h3, M.ret_bind, ih, List.filter_cons_of_pos hk]; rfl
    | false => rw [if_neg Bool.false_ne_true, ih, List.filter_cons_of_neg (by simp [hk])]
theorem cut_all {α : Type} (xs : List α) {k : Int} (h : (xs.length : Int) ≤ k) : cutL xs none (some k) = xs := by
  unfold cutL
  have e : HT.sIx xs.length xs.length (some k) = xs.length := by
    show (if k < 0 then _ else min k.toNat xs.length) = _
    rw [if_neg (by omega)]; omega
  rw [e]
  simp [HT.sIx]
theorem cut_to {α : Type} (xs : List α) {k : Int} (h : 0 ≤ k) : cutL xs none (some k) = xs.take k.toNat := by
  unfold cutL
  have e : HT.sIx xs.length xs.length (some k) = min k.toNat xs.length := by
    show (if k < 0 then _ else min k.toNat xs.length) = _
    rw [if_neg (by omega)]
  rw [e]
  have e0 : HT.sIx xs.length 0 none = 0 := rfl
  rw [e0, List.drop_zero, Nat.sub_zero, ← List.take_take, List.take_length]
theorem cut_from {α : Type} (xs : List α) {k : Int} (h : 0 ≤ k) : cutL xs (some k) none = xs.drop k.toNat := by
  unfold cutL
  have e : HT.sIx xs.length 0 (some k) = min k.toNat xs.length := by
    show (if k < 0 then _ else min k.toNat xs.length) = _
    rw [if_neg (by omega)]
  have e1 : HT.sIx xs.length xs.length none = xs.length := rfl
  rw [e, e1, List.take_of_length_le (by simp)]
  by_cases hk : k.toNat ≤ xs.length
  · rw [Nat.min_eq_left hk]
  · rw [Nat.min_eq_right (by omega), List.drop_of_length_le (Nat.le_refl _), List.drop_of_length_le (by omega)]
theorem compM_tot {p : Addr} {bs : D → Option (List (Nat × D))} {c : Env → M Bool} {e : Env → M D} {ρ : Env} {P : D → Prop} : ∀ {xs : List D}, (∀ x ∈ xs, ∃ l, bs x = some l ∧ c (setAllD ρ l) = M.ret true ∧ Tot p (e (setAllD ρ l)) P) → Tot p (compM bs c e ρ xs) fun ys => ys.length = xs.length ∧ ∀ y ∈ ys, P y
  | [], _ => Tot.ret ⟨rfl, fun _ h => nomatch h⟩
  | x :: xs, h => by
    obtain ⟨l, h1, h2, h3⟩ := h x (by simp)
    unfold compM
    rw [h1]
    show Tot p (M.bind _ _) _
    rw [h2, M.ret_bind, if_pos rfl]
    refine h3.bind fun y hy => (compM_tot (xs := xs) fun x hx => h x (by simp [hx])).bind fun ys hys => Tot.ret ⟨by simp [hys.1], fun z hz => ?_⟩
    rcases List.mem_cons.mp hz with rfl | hz
    · exact hy
    · exact hys.2 z hz
end DL
set_option Elab.async false
set_option maxRecDepth 100000
set_option autoImplicit false
set_option linter.unusedVariables false
set_option maxHeartbeats 4000000
namespace DL
open PySem L2 PySem.Spec PyProof.Rows
variable [TAB : TabList]
variable [EFF : Eff]
set_option linter.unusedSectionVars false
structure ClsAt (K : PySem.W.Frag) (mg : Str → Option Value) (c : Nat) (C : Addr) : Prop where
  ns : PySem.W.nsIn K mainGlobals (clsName c) = some (some (.ref C))
  gl : mg (clsName c) = some (.ref C)
  cl : SlX.SCls K C
def isC (c : Nat) : D → Bool
  | .obj k _ => k == c
  | _ => false
theorem isC_rp {K : PySem.W.Frag} {mg : Str → Option Value} {G : Hp} {v : V} {d : D} {c : Nat} {C : Addr} (T : ClsAt K mg c C) (h : isC c d = true) (r : Rp K G v d) : ∃ a dx vs fs, d = .obj c fs ∧ v = .ref a ∧ SlX.Slt G a C dx (vs.map some) ∧ RpL K G vs fs := by
  cases r with
  | @obj c' a C' dx vs ds h0 h1 h2 h3 =>
    have e : c' = c := by simpa [isC] using h
    subst e
    rw [T.ns] at h0
    cases h0
    exact ⟨a, dx, vs, ds, rfl, rfl, .inr ⟨h1, h2⟩, h3⟩
  | _ => cases h
theorem slt_mono {G H : Hp} {a C dx : Addr} {vs : List (Option V)} (s : SameF G H) (h : SlX.Slt G a C dx vs) : SlX.Slt H a C dx vs := by
  rcases h with ⟨h1, h2⟩ | ⟨h1, h2⟩
  · exact .inl ⟨s _ _ h1, h2⟩
  · exact .inr ⟨s _ _ h1, s _ _ h2⟩
def slotD (c i : Nat) : D → M D
  | .obj k fs => M.guard (k == c) (M.of fs[i]?)
  | _ => M.fail
def propD (c : Nat) (F : List D → M D) (x : D) : M D := M.guard (isC c x) (F [x])
def eMeth (c : Nat) (F : List D → M D) (f : Env → M D) (fa : Env → M (List D)) : Env → M D := fun ρ => M.bind (f ρ) fun x => M.guard (isC c x) (M.bind (fa ρ) fun ds => F (x :: ds))
section
variable {X : Cx} {c : Nat} {C : Addr} {e o : Expr} {es : List Expr} {f : Env → M D} {fa : Env → M (List D)} {pos apos : Pos} {fld m : Str} {k : Nat} {g : Addr} {fd : FuncData} {ps : List Str} {n : Nat} {Fn : List D → M D} {Fl : List D → M (List D)}
theorem d_slot {p : Addr} {i : Nat} (T : ClsAt X.K X.mg c C) (t : SlX.Slot1 X.K C fld p i) (he : DE X e f) (hb : attributeBase e fld X.env (eval e X.env) = eval e X.env := by rfl) : DE X (.Attribute e fld pos) (e1 (slotD c i) f) := by
  refine PEimp (SlX.pe_sl he hb) ?_
  rintro σ H Q ⟨ρ, G, b, d, b', rs, fz, ob, e, q⟩
  obtain ⟨x, b1, e1, e2⟩ := M.bind_some e
  refine ⟨ρ, G, b, x, b1, rs, fz, ob, e1, fun v G1 H1 n1 r => ?_⟩
  have hc : isC c x = true := by
    cases x <;> first | (cases e2; done) | skip
    rename_i k fs
    obtain ⟨h, _⟩ := M.guard_some e2
    exact h
  obtain ⟨a, dx, vs, fs, rfl, rfl, hs, rl⟩ := isC_rp T hc r
  obtain ⟨_, e3⟩ := M.guard_some e2
  cases ef : fs[i]? with
  | none => rw [ef] at e3; cases e3
  | some y =>
    rw [ef] at e3
    cases e3
    obtain ⟨u, h1, h2⟩ := rl.get ef
    exact ⟨a, C, dx, p, _, i, u, rfl, slt_mono n1.fz hs, T.cl, t, by rw [List.getElem?_map, h1]; rfl, q u G1 H1 n1 h2⟩
structure PropAt (K : PySem.W.Frag) (C : Addr) (fld : Str) (p g : Addr) : Prop where
  at_ : PySem.W.findIn K (.ref C) fld = some (some (.ref p))
  get : PySem.W.specialIn K (.ref p) "__get__" = some (some (.builtin "property.__get__"))
  tk : PySem.W.takesIn K (.ref p) = some true
  rc : ∃ rest, PySem.W.recIn K p "property" = some (.ref g :: rest)
theorem raw0 {P : Program} {w : World} {K : PySem.W.Frag} {mg : Str → Option Value} {base : Heap} {sp : Sp} (F : FnOk P w K mg base CX0 k g fd ps sp) (hb : Binds K fd ps []) : FnR P w K mg base CX0 k g (fun vs H Q E => sp (vs ++ []) H Q E) := F.raw hb .nil
theorem d_prop {p : Addr} (T : ClsAt X.K X.mg c C) (t : PropAt X.K C fld p g) (F : FnOk X.prog X.w X.K X.mg X.base CX0 k g fd ps (spD X.K 1 Fn)) (hb : Binds X.K fd ps []) (hr : Room (k + 1) X.A) (he : DE X e f) (hab : attributeBase e fld X.env (eval e X.env) = eval e X.env := by rfl) :
    DE X (.Attribute e fld pos) (e1 (propD c Fn) f) := by
  refine PEimp (SlX.pe_propSl (E := E0) he T.cl t.at_ t.get t.tk t.rc (raw0 F hb) hr (fun _ _ _ _ h => h) hab) ?_
  rintro σ H Q ⟨ρ, G, b, d, b', rs, fz, ob, e, q⟩
  obtain ⟨x, b1, e1, e2⟩ := M.bind_some e
  obtain ⟨hc, e3⟩ := M.guard_some e2
  refine ⟨ρ, G, b, x, b1, rs, fz, ob, e1, fun v G1 H1 n1 r => ?_⟩
  obtain ⟨a, dx, vs, fs, rfl, rfl, hs, rl⟩ := isC_rp T hc r
  exact ⟨a, dx, _, rfl, slt_mono n1.fz hs, G1, b1, [.obj c fs], d, b', .cons r .nil, rfl, n1.fz, n1.bag, e3, fun v G2 H2 n2 r2 => q v G2 H2 (n1.trans n2) r2⟩
def propN (c : Nat) (F : List D → M (List D)) (x : D) : M (List D) := M.guard (isC c x) (F [x])
theorem s_fail {st : Stmt} : DS X st (fun _ => M.fail) := ⟨fun pins s σ H Dn I ⟨E, ρ, G, b, o, b', _, e, _⟩ => by cases e⟩
end
def spI (K : PySem.W.Frag) (n : Nat) (C : Addr) (F : List D → M (List D)) : Sp := fun vs H Q _ => ∃ x dx ws G b ds fs b', vs = .ref x :: ws ∧ H x = some (.ins C dx []) ∧ H dx = some (.own x) ∧ dx ≠ x ∧ G x = none ∧ G dx = none ∧ ¬ b.hit x ∧ ¬ b.hit dx ∧
  RpL K G ws ds ∧ ds.length = n ∧ SameF G H ∧ BagOk G H b ∧ F ds b = some (fs, b') ∧ ∀ us G' H', Nxt G H b G' H' b' → RpL K G' us fs → Q .non (SlX.slH H' x C dx (us.map some))
theorem slH_same {H : Hp} {x C dx : Addr} {vs : List (Option V)} (hx : H x = none) (hd : H dx = none) : Same H (SlX.slH H x C dx vs) := fun a o h => by
  rw [SlX.slH_ne (ne_of_none h hx) (ne_of_none h hd)]
  exact h
theorem Nxt.made {G H G' H' : Hp} {b b' : Bs} {x C dx : Addr} {vs : List (Option V)} (n : Nxt G H b G' H' b') (ob : BagOk G H b) (hx : H x = none) (hd : H dx = none) (gx : G' x = none) (gd : G' dx = none) (cx : ∀ c q, H' x ≠ some (LamX.CodeO c q)) (cd : ∀ c q, H' dx ≠ some (LamX.CodeO c q)) : Nxt G H b (SlX.slH G' x C dx vs) (SlX.slH H' x C dx vs) b' := by
  have nx : ¬ b'.hit x := by rw [← Bs.like_at n.like]; exact bag_ne ob hx
  have nd : ¬ b'.hit dx := by rw [← Bs.like_at n.like]; exact bag_ne ob hd
  have sg : Same G' (SlX.slH G' x C dx vs) := slH_same gx gd
  refine .mk' (fun a o h => sg a o (n.gg a o h)) (fun a o h => ?_) (fun a o h hb => ?_) (fun a o h hn => ?_) ?_ n.like
  · by_cases h1 : a = x
    · rw [h1] at h ⊢
      unfold SlX.slH at h ⊢
      rw [upd_same] at h ⊢
      exact frOk_of h
    · by_cases h2 : a = dx
      · unfold SlX.slH at h ⊢
        rw [upd_ne h1, h2, upd_same] at h
        rw [upd_ne h1, h2, upd_same]
        exact frOk_of h
      · rw [SlX.slH_ne h1 h2] at h ⊢
        exact n.fz a o h
  · rw [SlX.slH_ne (ne_of_none h hx) (ne_of_none h hd)]
    exact n.keep a o h hb
  · rw [SlX.slH_ne (ne_of_none h hx) (ne_of_none h hd)]
    exact n.new a o h hn
  · have ne : ∀ a, b'.hit a → a ≠ x ∧ a ≠ dx := fun a z => ⟨fun e => nx (by rw [← e]; exact z), fun e => nd (by rw [← e]; exact z)⟩
    refine ⟨n.bag.1.ext (fun a z => ?_) sg (fun a z => SlX.slH_ne (ne a (.inl z)).1 (ne a (.inl z)).2) (fun a k z => ?_) (fun a k z => ?_), fun p hp => ?_⟩
    · rw [SlX.slH_ne (ne a (.inl z)).1 (ne a (.inl z)).2]; exact n.bag.hitG (.inl z)
    · by_cases h1 : a = x
      · rw [h1] at z; unfold SlX.slH at z; rw [upd_same] at z; cases z
      · by_cases h2 : a = dx
        · unfold SlX.slH at z; rw [upd_ne h1, h2, upd_same] at z; cases z
        · rw [SlX.slH_ne h1 h2] at z; exact z
    · exact SlX.slH_ne (ne_of_none z gx) (ne_of_none z gd)
    · obtain ⟨k1, k2⟩ := n.bag.2 p hp
      obtain ⟨ne1, ne2⟩ := ne p.1 (.inr ⟨p.2, hp⟩)
      refine ⟨by rw [SlX.slH_ne ne1 ne2]; exact k1, ?_⟩
      by_cases e : x = dx
      · subst e
        unfold SlX.slH
        rw [upd_upd]
        exact TabS.mut k2 ne1 cx
      · exact TabS.mut (TabS.mut k2 ne2 cd) ne1 fun c q => by rw [upd_ne e]; exact cx c q
def eMake (c : Nat) (F : List D → M (List D)) (fa : Env → M (List D)) : Env → M D := fun ρ => M.bind (fa ρ) fun ds => M.bind (F ds) fun fs => M.ret (.obj c fs)
section
variable {X : Cx} {c : Nat} {C : Addr} {e o : Expr} {es : List Expr} {f : Env → M D} {fa : Env → M (List D)} {p pos : Pos} {x : Str} {k : Nat} {g : Addr} {fd : FuncData} {ps : List Str} {n : Nat} {Fi : List D → M (List D)}
theorem make_f (T : ClsAt X.K X.mg c C) (hn : ArN fa n) : ∀ σ H Q, tF X.K (eMake c Fi fa) σ H Q → tMake C (spI X.K n C Fi) [] E0 (tFA X.K fa) σ H Q := by
  rintro σ H Q ⟨ρ, G, b, d, b', rs, fz, ob, e, q⟩
  obtain ⟨ds, b1, e1, e2⟩ := M.bind_some e
  obtain ⟨fs, b2, e3, e4⟩ := M.bind_some e2
  cases e4
  refine ⟨ρ, G, b, ds, b1, rs, fz, ob, e1, fun ws G1 H1 n1 r1 => ?_⟩
  intro x dx hx hd ne
  have m1 : Nxt G1 H1 b1 G1 (upd H1 dx (.own x)) b1 := Nxt.newH n1.fz n1.bag hd
  have hx1 : upd H1 dx (.own x) x = none := by rw [upd_ne (Ne.symm ne)]; exact hx
  have m2 : Nxt G1 H1 b1 G1 (upd (upd H1 dx (.own x)) x (.ins C dx [])) b1 := m1.trans (Nxt.newH m1.fz m1.bag hx1)
  have gx : G1 x = none := gnone n1.fz hx
  have gd : G1 dx = none := gnone n1.fz hd
  refine ⟨x, dx, ws, G1, b1, ds, fs, b', by rw [List.append_nil], upd_same, by rw [upd_ne ne, upd_same], ne, gx, gd, bag_ne n1.bag hx, bag_ne n1.bag hd, r1, hn _ _ _ _ e1, m2.fz, m2.bag, e3, fun us G2 H2 n2 r2 => ⟨rfl, ?_⟩⟩
  have g2x : G2 x = none := n2.new x _ upd_same gx
  have g2d : G2 dx = none := n2.new dx (.own x) (by rw [upd_ne ne, upd_same]) gd
  have n3 : Nxt G1 H1 b1 G2 H2 b' := m2.trans n2
  refine q (.ref x) _ _ (n1.trans (n3.made n1.bag hx hd g2x g2d (nc_of (n2.keep x _ upd_same (bag_ne n1.bag hx))) (nc_of (n2.keep dx (.own x) (by rw [upd_ne ne, upd_same]) (bag_ne n1.bag hd))))) (.obj T.ns (C := C) (dx := dx) (vs := us) ?_ ?_ (r2.mono (slH_same g2x g2d)))
  · unfold SlX.slH
    exact upd_same
  · unfold SlX.slH
    rw [upd_ne ne, upd_same]
theorem d_make (T : ClsAt X.K X.mg c C) (hm : Mk X.K C g) (F : FnOk X.prog X.w X.K X.mg X.base CX0 k g fd ps (spI X.K n C Fi)) (hb : Binds X.K fd ps []) (hr : Room (k + 1) X.A) (hg : Gl X x) (hx : X.mg x = some (.ref C)) (ha : DA X (e :: es) fa) (hn : ArN fa n)
    (hdb : (x == ("__debug__" : Str)) = false := by decide) (he : starEach (e :: es) X.env = (false, eval e X.env) :: starEach es X.env := by rfl) (hpl : (backTo pos (starEach es X.env)).any (·.1) = false := by rfl) :
    DE X (.Call (.Name x p) (e :: es) [] pos) (eMake c Fi fa) := PEimp (pe_make hm F hr hg hx hb .nil pass0 ha hdb he hpl) (make_f T hn)
end
def selfOf (ρ : Env2) : Option Addr := match ρ[0]? with
  | some (some (Slot.val (D.bag x))) => some x
  | _ => none
theorem selfOf_some {ρ : Env2} {x : Addr} (h : selfOf ρ = some x) : ρ[0]? = some (some (.val (.bag x))) := by
  unfold selfOf at h
  split at h
  · cases h; assumption
  · cases h
def tI (K : PySem.W.Frag) (C : Addr) (F : Env2 → M (List D)) : TS := fun Dn σ H => ∃ E ρ G b fs b' x dx, SI K E σ ρ G H b ∧ E.H x = some (.ins C dx []) ∧ E.H dx = some (.own x) ∧ dx ≠ x ∧ ¬ E.b.hit x ∧ ¬ E.b.hit dx ∧ E.G x = none ∧ E.G dx = none ∧ selfOf ρ = some x ∧ F ρ b = some (fs, b') ∧
  ∀ σ' us G' H', NxtB EFF.x E.G E.H E.b G' H' b' → RpL K G' us fs → Dn.nx σ' (SlX.slH H' x C dx (us.map some))
abbrev DI0 (X : Cx) (C : Addr) (st : List Stmt) (F : Env2 → M (List D)) : Prop := PSs X st (tI X.K C F)
def iSeq (F1 : Env2 → M Out) (F2 : Env2 → M (List D)) (ρ : Env2) : M (List D) := M.bind (F1 ρ) fun o => match o with
  | .nx ρ1 => M.guard (decide (selfOf ρ1 = selfOf ρ)) (F2 ρ1)
  | _ => M.fail
section
variable {X : Cx} {C : Addr} {st : Stmt} {rest : List Stmt} {F : Env2 → M Out} {F2 : Env2 → M (List D)} {pos : Pos}
theorem i_cons (h : DS X st F) (h2 : DI0 X C rest F2) : DI0 X C (st :: rest) (iSeq F F2) := by
  refine PSsimp (pss_cons h h2) ?_
  rintro D σ H ⟨E, ρ, G, b, fs, b', x, dx, I, h1, h2, h3, h4, h5, h6, h7, h8, e, q⟩
  obtain ⟨o, b1, e1, e2⟩ := M.bind_some e
  refine ⟨E, ρ, G, b, o, b1, I, e1, ?_⟩
  cases o with
  | nx ρ1 =>
    obtain ⟨hs, e3⟩ := M.guard_some e2
    exact fun σ' G' H' I' => ⟨E, ρ1, G', b1, fs, b', x, dx, I', h1, h2, h3, h4, h5, h6, h7, by rw [of_decide_eq_true hs]; exact h8, e3, q⟩
  | _ => cases e2
def gSl (K : PySem.W.Frag) (ta : TE) (f : Str) : TG := fun y σ H Q => ta σ H fun x H2 => ∃ a C dx p vs i, x = .ref a ∧ SlX.Slt H2 a C dx vs ∧ SlX.SCls K C ∧ SlX.Slot1 K C f p i ∧ Q σ (SlX.slH H2 a C dx (SlX.putS i y vs))
theorem pg_sl {o : Expr} {f : Str} {ta : TE} (ha : PE X o ta) : PG X (.Attribute o f pos) (gSl X.K ta f) := by
  refine ⟨fun pins s σ H y u Q I ry h => ?_⟩
  rw [assign_Attribute]
  refine wpAny_bind (wpAny_holding (thn (ha.run pins s σ H _ I h) fun ov s2 ⟨x, H2, I2, rx, a, C, dx, p, vs, i, ex, hsl, c, t, q2⟩ => ?_))
  subst ex
  obtain rfl : ov = Value.ref a := rx
  refine wpAny_bind (wpAny_standAt ?_)
  refine wpAny_bind (wpAny_holding (SlX.setslot_ok I2 hsl c t ry fun s3 I3 => ?_))
  exact wpAny_release ⟨σ, _, I3, q2⟩
def two2s : D → M (List D)
  | .tup [x, y] => M.ret [y, x]
  | _ => M.fail
theorem i_twoS {f0 f1 : Str} {p0 p1 : Addr} {x : Str} {e : Expr} {f : Env → M D} {q0 q1 pn0 pn1 pt : Pos} {kt : Nat} (ms : List Nat) (hc : X.calm = true) (cl : SlX.SCls X.K C) (t0 : SlX.Slot1 X.K C f0 p0 1) (t1 : SlX.Slot1 X.K C f1 p1 0) (hN : X.N[0]? = some x) (hv : Vis X.env.scope x)
    (he : DE X e f) (hd : (x == ("__debug__" : Str)) = false := by decide) (hcd : (x == ("__classdict__" : Str)) = false := by decide)
    (hs : swapsWithSole [.Tuple [.Attribute (.Name x pn0) f0 q0, .Attribute (.Name x pn1) f1 q1] kt pt] e pos.line X.env = pure false := by rfl) (hw : swappedStores [.Tuple [.Attribute (.Name x pn0) f0 q0, .Attribute (.Name x pn1) f1 q1] kt pt] e X.env = pure none := by rfl)
    (h1 : (assignEach [.Tuple [.Attribute (.Name x pn0) f0 q0, .Attribute (.Name x pn1) f1 q1] kt pt] X.env).map (·.2) = [assign (.Tuple [.Attribute (.Name x pn0) f0 q0, .Attribute (.Name x pn1) f1 q1] kt pt) X.env] := by rfl) :
    DI0 X C [.Assign [.Tuple [.Attribute (.Name x pn0) f0 q0, .Attribute (.Name x pn1) f1 q1] kt pt] e pos] (fun ρ => M.bind (f (view ms ρ)) two2s) := by
  refine PSsimp (pss_one (ps_asg he (pg_tup hc (pgs_cons (pg_sl (pe_var hN hv hd hcd)) (pgs_cons (pg_sl (pe_var hN hv hd hcd)) pgs_nil))) hs hw h1)) ?_
  rintro Dn σ H ⟨E, ρ, G, b, fs, b', x, dx, I, k1, k2, k3, k4, k5, k6, k7, k8, e, q⟩
  obtain ⟨d, b1, e1, e2⟩ := M.bind_some e
  refine ⟨_, _, b, d, b1, I.rs ms, I.gp2 ms, I.gpb ms, e1, fun v G1 H1 n1 r => ?_⟩
  obtain ⟨G2, I2, r2⟩ := I.after n1 r
  have hsf := selfOf_some k8
  cases r2 with
  | @tup t vs ds hq rl =>
    cases rl with
    | nil => cases e2
    | @cons v0 _ d0 _ r0 rl =>
      cases rl with
      | nil => cases e2
      | @cons v1 _ d1 _ r1 rl =>
        cases rl with
        | cons _ _ => cases e2
        | nil =>
          cases e2
          obtain ⟨sv, hsv, hrv⟩ := I.val 0 _ hsf
          cases hrv
          have hx := I2.keep x _ k1 k4 (fun _ k z => by rw [k6] at z; cases z)
          refine ⟨t, [v0, v1], rfl, SameF.sqt I2.fz hq, rfl, v0, [v1], rfl, .ref x, hsv, x, C, dx, p0, [], 1, rfl, .inl ⟨hx, rfl⟩, cl, t0, v1, [], rfl, .ref x, hsv, x, C, dx, p1, _, 0, rfl, SlX.slH_slt k3, cl, t1, rfl, ?_⟩
          rw [SlX.slH_twice k3]
          exact q σ [v1, v0] G2 H1 I2.nxt (.cons r1 (.cons r0 .nil))
  | _ => cases e2
end
end DL
set_option Elab.async false
set_option maxRecDepth 100000
set_option autoImplicit false
set_option linter.unusedVariables false
set_option maxHeartbeats 4000000
namespace DL
open PySem L2 PySem.Spec PyProof.Rows
variable [TAB : TabList]
variable [EFF : Eff]
set_option linter.unusedSectionVars false
def Ites (x : Str) : It := ⟨fun i _ => i < x.cps.size, fun i H v H' => ∃ T c, v = .ref T ∧ H T = none ∧ H' = upd H T (.tup [.int (i : Nat), .str ⟨#[c]⟩]) ∧ x.cps[i]? = some c, fun i _ => x.cps.size ≤ i⟩
def isTy (ty : String) : Prop := ty = "str_ascii_iterator" ∨ ty = "str_iterator"
theorem draws_ty {prog : Program} {w : World} {A : Around} (hh : A.handled = none) (it : Addr) (x : Str) (t : Tok) {ty : String} (hty : isTy ty) :
    Draws prog w A it [it] x.cps.size (fun i v => ∃ c u, x.cps[i]? = some c ∧ v = .str ⟨#[c]⟩ u) (fun i h => h.IsStrIter it ty x t i) := by
  rcases hty with e | e
  · rw [e]; exact Draws.strAscii hh it x t
  · rw [e]; exact Draws.strWide hh it x t
theorem nextS_end {prog : Program} {w : World} {A : Around} {E : Value → Shared → Prop} {s : Shared} {it : Addr} {x : Str} {t : Tok} {ty : String} {i : Nat} {Q : Value → Shared → Prop} (hty : isTy ty) (hh : A.handled = none) (hst : s.heap.IsStrIter it ty x t i) (hx : x.cps[i]? = none)
    (hE : ∀ h' e, Heap.ExtBut it s.heap h' → (∃ o, h'.get? e = some o ∧ o.cls = .type "StopIteration") → E (.ref e) { s with heap := h' }) : wpAny (model prog w) A (Builtin.SmallTypes.nextOf (.ref it)) Q E s := by
  rcases hty with rfl | rfl
  · exact wpAny_nextOf_ascii_end hh hst hx hE
  · exact wpAny_nextOf_wide_end hh hst hx hE
theorem enumS_end {prog : Program} {w : World} {A : Around} {E : Value → Shared → Prop} {s : Shared} {e it : Addr} {x : Str} {t : Tok} {ty : String} {i : Nat} {j : Int} {old : Value} {Q : Option Value → Shared → Prop} (hty : isTy ty) (hh : A.handled = none)
    (he : IsEnum s.heap e it j old) (hst : s.heap.IsStrIter it ty x t i) (hx : x.cps[i]? = none) (hQ : ∀ h', Heap.ExtBut it s.heap h' → Q none { s with heap := h' }) : wpAny (model prog w) A (pyNext (.ref e)) Q E s := by
  have hT : s.TypeIs (.ref e) "enumerate" := ⟨_, he, rfl⟩
  unfold pyNext
  refine wpAny_bind (wpAny_attempt (wpAny_callSpecial?_slot (name := Str.ofString "__next__") hT F.slot_enumerate_next
    (wpAny_call_entry F.slot_enumerate_next hT F.entry_enumerate_next ?_ (F.args_enumerate_next_1 _))))
  show wpAny _ _ (field (.ref e) 2 >>= _) _ _ _
  refine wpAny_bind (wpAny_field he rfl (x := .ref it) rfl ?_)
  refine wpAny_bind (nextS_end hty hh hst hx fun h' z he' hx' => ?_)
  obtain ⟨o, ho, hc⟩ := hx'
  refine wpAny_bind (wpAny_isInstance (T := "StopIteration") (b := true) ⟨o, ho, hc⟩ isSubtype_stop ?_)
  exact wpAny_pure (hQ _ he')
theorem turn_enumS {P : Program} {w : World} {K : PySem.W.Frag} {elts : List Expr} {kk : Nat} {tpos : Pos} (x : Str) (t : Tok) (ty : String) (hty : isTy ty) (e it : Addr) :
    Turn P w K (.Tuple elts kk tpos) (Ites x) [e, it] e (fun i h => (∃ old, IsEnum h e it ((i : Nat) : Int) old) ∧ h.IsStrIter it ty x t i ∧ e ≠ it) where
  mem := by simp
  obj := fun i h st b hb => by
    obtain ⟨⟨old, he⟩, ⟨o, ho, hc, hd⟩, _⟩ := st
    have e' : b = e ∨ b = it := by simpa using hb
    rcases e' with z | z
    · rw [z]; exact ⟨_, he, fun v q => nomatch q⟩
    · rw [z]; exact ⟨o, ho, fun v q => by rw [hd] at q; cases q⟩
  keep := fun i h h' st k => let ⟨⟨old, he⟩, ⟨o, ho, r⟩, hne⟩ := st; ⟨⟨old, k e (by simp) _ he⟩, ⟨o, k it (by simp) o ho, r⟩, hne⟩
  item := by
    intro X hP hw hK hc i pins s σ H E I hf st hg
    subst hP hw hK
    obtain ⟨⟨old, he⟩, hit, hne⟩ := st
    have hel : e < s.heap.objs.size := Heap.lt_size he
    have hil : it < s.heap.objs.size := by obtain ⟨_, q, _⟩ := hit; exact Heap.lt_size q
    have hh : X.A.in1.handled = none := I.ok.hd hc
    refine wpAny_pyNext_enum_itemD (draws_ty hh it x t hty) he hit hg hne (by simpa using hne) fun u h' tk hp ho hit' hT hsz hk => ?_
    obtain ⟨c, tu, hcx, rfl⟩ := hp
    refine ⟨_, rfl, wpAny_letOwnedTupleGo_enum (s := { s with heap := h', toks := tk + 1 }) ho fun h'' he' sb => ?_⟩
    have hT2 : h''.get? s.heap.objs.size = some { cls := .type "tuple", data := .seq #[.int i tk, .str ⟨#[c]⟩ tu] } := (sb.2 _ (Nat.ne_of_gt hel)).trans hT
    have new : ObjOk X.prog X.w (upd H s.heap.objs.size (.tup [.int (i : Nat), .str ⟨#[c]⟩])) h'' s.heap.objs.size (.tup [.int (i : Nat), .str ⟨#[c]⟩]) :=
      ⟨by show 2 ≤ sizeLine; decide, [.int i tk, .str ⟨#[c]⟩ tu], .cons ⟨_, rfl⟩ (.cons ⟨_, rfl⟩ .nil), ⟨_, hT2, rfl, _, rfl⟩⟩
    have I1 : Inv X pins σ (upd H s.heap.objs.size (.tup [.int (i : Nat), .str ⟨#[c]⟩])) { s with heap := h'', toks := tk + 1 } :=
      I.turnedNew (ch := [e, it]) (fun b ob hb q => (sb.2 b (fun z => hb (by simp [z]))).trans (hk b ob (fun z => hb (by simp [z])) (fun z => hb (by simp [z])) q)) hf (Nat.le_refl _) new
    refine ⟨.ref s.heap.objs.size, _, I1, rfl, ⟨_, c, rfl, I.hok.fresh (Nat.le_refl _), rfl, hcx⟩, ⟨⟨.str ⟨#[c]⟩ tu, ?_⟩, ?_, hne⟩, fun b hb => ?_⟩
    · have e1 : ((i + 1 : Nat) : Int) = (i : Int) + 1 := by omega
      rw [e1]; exact he'
    · obtain ⟨o, q, r⟩ := hit'
      exact ⟨o, (sb.2 it (Ne.symm hne)).trans q, r⟩
    · have hb' : b < s.heap.objs.size := by
        have e' : b = e ∨ b = it := by simpa using hb
        rcases e' with z | z
        · rw [z]; exact hel
        · rw [z]; exact hil
      rw [upd_ne (Nat.ne_of_lt hb')]
      exact (hf b hb).1
  done := by
    intro X hP hw hK hc i pins s σ H E I hf st hg
    subst hP hw hK
    obtain ⟨⟨old, he⟩, hit, hne⟩ := st
    obtain ⟨f0, f1, f2, f3, f4, f5⟩ := hf it (by simp)
    exact enumS_end hty (I.ok.hd hc) he hit (Array.getElem?_eq_none hg) fun h' eb => ⟨rfl, I.turned (t' := s.toks) (fun b o hb q => eb b o hb q) f0 f1 f3 f4 f5⟩
  self := fun A i s Q E st h => let ⟨⟨_, he⟩, _⟩ := st; wpAny_pyIter_enum he h
def iEnumS (ta : TA) : TI := fun σ H R => ta σ H fun vs H1 => ∃ x, vs = [.str x] ∧ R (Ites x) H1
theorem pi_enumS {X : Cx} {e : Expr} {ta : TA} {p pos tpos : Pos} {elts : List Expr} {kk : Nat} (hg : Gl X "enumerate") (hm : X.mg "enumerate" = none) (ha : PA X [e] ta) (hs : starEach [e] X.env = [(false, eval e X.env)] := by rfl) :
    PI X (.Tuple elts kk tpos) (.Call (.Name "enumerate" p) [e] [] pos) (iEnumS ta) := by
  refine ⟨fun pins s σ H R I h => ?_⟩
  refine Call_ (ld_blt I hg hm boot_enumerate (PyProof.Rows.callWith_type1 (thn (ha.run pos pins s σ H _ I h) fun us s1 ⟨vs, H1, I1, r1, q1⟩ => ?_) hs rfl))
  obtain ⟨x, ex, q⟩ := q1
  subst ex
  cases r1 with
  | cons r rr =>
    cases rr
    obtain ⟨t, rfl⟩ := r
    have hty : isTy (strIterType x) := by
      unfold strIterType
      split
      · exact .inl rfl
      · exact .inr rfl
    refine call_enumerate_str fun h' he hit hsz hk => wpAny_pyIter_enum he ?_
    have I2 : Inv X pins σ H1 { s1 with heap := h' } := I1.kept (t' := s1.toks) hk
    refine ⟨s1.heap.objs.size + 1, [s1.heap.objs.size + 1, s1.heap.objs.size], _, _, H1, rfl, I2, turn_enumS x t _ hty (s1.heap.objs.size + 1) s1.heap.objs.size, ⟨⟨.none, he⟩, hit, Nat.succ_ne_self _⟩, fun b hb => ?_, q⟩
    have e' : b = s1.heap.objs.size + 1 ∨ b = s1.heap.objs.size := by simpa using hb
    have hle : s1.heap.objs.size ≤ b := by
      rcases e' with z | z
      · rw [z]; exact Nat.le_add_right _ _
      · rw [z]; exact Nat.le_refl _
    exact I1.fpOk hle (I1.hok.fresh hle)
def pairsD (ds : List D) : List D := (List.range ds.length).zipWith (fun (i : Nat) d => .tup [.int (i : Int), d]) ds
theorem pairsD_len (ds : List D) : (pairsD ds).length = ds.length := by simp [pairsD]
theorem pairsD_get {ds : List D} {i : Nat} {d : D} (h : (pairsD ds)[i]? = some d) : ∃ y, ds[i]? = some y ∧ d = .tup [.int (i : Nat), y] := by
  unfold pairsD at h
  rw [List.getElem?_zipWith] at h
  cases e : ds[i]? with
  | none => rw [e] at h; split at h <;> simp_all
  | some y =>
    have hi : i < ds.length := (List.getElem?_eq_some_iff.mp e).1
    rw [e, List.getElem?_range hi] at h
    cases h
    exact ⟨y, rfl, rfl⟩
theorem yl_enumS {K : PySem.W.Frag} {G : Hp} (x : List Nat) : Yl K G (Ites ⟨x.toArray⟩) (pairsD (x.map fun c => .str [c])) := by
  intro i G1 H1 b s1 s2 ob
  refine ⟨fun d hd => ?_, fun hl => ?_⟩
  · obtain ⟨y, h1, rfl⟩ := pairsD_get hd
    rw [List.getElem?_map] at h1
    cases e : x[i]? with
    | none => rw [e] at h1; cases h1
    | some c =>
      rw [e] at h1
      cases h1
      refine ⟨(by
        have := (List.getElem?_eq_some_iff.mp e).1
        show i < x.toArray.size
        simpa using this), ?_⟩
      rintro v H' ⟨T, c', rfl, hT, rfl, hc⟩
      have : c' = c := by
        have hc' : x[i]? = some c' := by simpa using hc
        rw [e] at hc'; exact (Option.some.inj hc').symm
      subst this
      refine ⟨upd G1 T _, Nxt.newF s2 ob hT, .tup (SqT.of upd_same) (.cons (.int _) (.cons (.str [c']) .nil))⟩
  · rw [pairsD_len] at hl
    simpa [Ites] using hl
theorem yl_enum {K : PySem.W.Frag} {G : Hp} {a : Addr} {vs : List V} {ds : List D} (h : G a = some (.lst vs)) (r : RpL K G vs ds) : Yl K G (Ite K a) (pairsD ds) := by
  intro i G1 H1 b s1 s2 ob
  have hq : SqL K H1 a vs := SqL.of (s2 _ _ (s1 _ _ h))
  refine ⟨fun d hd => ?_, fun hl => ⟨vs, hq, by rw [r.length]; rw [pairsD_len] at hl; exact hl⟩⟩
  obtain ⟨y, h1, rfl⟩ := pairsD_get hd
  obtain ⟨v, h2, h3⟩ := r.get h1
  refine ⟨⟨vs, v, hq, h2⟩, ?_⟩
  rintro x H' ⟨T, z, rfl, hT, rfl, hx⟩
  have e := hx vs hq
  rw [h2] at e
  cases e
  have n := Nxt.newF (o := .tup [.int (i : Nat), v]) s2 ob hT
  exact ⟨_, n, .tup (SqT.of upd_same) (.cons (.int _) (.cons ((h3.mono s1).mono n.gg) .nil))⟩
def enumD : List D → M (List D)
  | [.lst xs] => M.ret (pairsD xs)
  | [.str x] => M.ret (pairsD (x.map fun c => .str [c]))
  | _ => M.fail
theorem di_enum {X : Cx} {e : Expr} {f : Env → M (List D)} {p pos tpos : Pos} {elts : List Expr} {kk : Nat} (hg : Gl X "enumerate") (hm : X.mg "enumerate" = none) (ha : DA X [e] f) (hs : starEach [e] X.env = [(false, eval e X.env)] := by rfl) :
    DI X (.Tuple elts kk tpos) (.Call (.Name "enumerate" p) [e] [] pos) (fun ρ => M.bind (f ρ) enumD) := by
  have pl := pi_enum (elts := elts) (kk := kk) (tpos := tpos) (p := p) (pos := pos) hg hm ha hs
  have px := pi_enumS (elts := elts) (kk := kk) (tpos := tpos) (p := p) (pos := pos) hg hm ha hs
  refine ⟨fun pins s σ H R I q0 => ?_⟩
  obtain ⟨ρ, G, b, ds, b', rs, fz, ob, e, q⟩ := q0
  obtain ⟨xs, b1, e1, e2⟩ := M.bind_some e
  unfold enumD at e2
  split at e2
  · cases e2
    refine pl.run pins s σ H R I ⟨ρ, G, b, _, b', rs, fz, ob, e1, fun vs G' H' n r => ?_⟩
    obtain ⟨v, rfl, r1⟩ := r.one
    cases r1 with
    | lst h1 h2 => exact ⟨_, _, rfl, SqL.of (n.fz _ _ h1), q _ G' H' n (yl_enum h1 h2)⟩
  · cases e2
    refine px.run pins s σ H R I ⟨ρ, G, b, _, b', rs, fz, ob, e1, fun vs G' H' n r => ?_⟩
    obtain ⟨v, rfl, r1⟩ := r.one
    cases r1 with
    | str => exact ⟨_, rfl, q _ G' H' n (yl_enumS _)⟩
  · cases e2
def iEnumM (f : Env → M (List D)) : Env → M (List D) := fun ρ => M.bind (f ρ) enumD
end DL
set_option Elab.async false
set_option maxRecDepth 100000
set_option autoImplicit false
set_option linter.unusedVariables false
set_option maxHeartbeats 4000000
namespace DL
open PySem L2 PySem.Spec PyProof.Rows
variable [TAB : TabList]
variable [EFF : Eff]
set_option linter.unusedSectionVars false
def tyD : D → Option String
  | .non => some "NoneType" | .bl _ => some "bool" | .int _ => some "int" | .str _ => some "str" | .lst _ => some "list" | .tup _ => some "tuple" | .dct _ _ => some "dict" | _ => none
def isT (t T : String) : Bool := t == T || (t == "bool" && T == "int")
theorem tyD_of {K : PySem.W.Frag} {G H : Hp} {v : V} {d : D} {t : String} (r : Rp K G v d) (s : SameF G H) (h : tyD d = some t) : TyX K H v (.type t) := by
  cases r with
  | non => cases h; exact .base .non
  | bl b => cases h; exact .base (.bl b)
  | int i => cases h; exact .base (.int i)
  | str x => cases h; exact .base (.str _)
  | lst h1 h2 => cases h; exact .base (.lst (s _ _ h1))
  | tup h1 h2 =>
    cases h
    rcases SameF.sqt s h1 with (h1 | ⟨o, h1⟩) | ⟨o, its, n, h1, h2, _⟩
    · exact .base (.tup h1)
    · exact .fTuple h1
    · exact .kTuple h1 h2
  | dct h1 h2 h3 =>
    cases h
    rcases SameF.rd s h1 with h1 | ⟨o, h1⟩
    · exact .base (.dK h1)
    · exact .fDict h1
  | _ => cases h
def isiD (T : String) (d : D) : M D := match tyD d with
  | some t => M.ret (.bl (isT t T))
  | none => M.fail
def tys : List String := ["NoneType", "bool", "int", "str", "list", "tuple", "dict"]
theorem kit_isT {K : PySem.W.Frag} : ∀ t ∈ tys, ∀ T ∈ tys, PySem.W.kitOne K (.type t) (.type T) = some (isT t T) := by
  intro t ht T hT
  simp only [tys, List.mem_cons, List.not_mem_nil, or_false] at ht hT
  rcases ht with rfl | rfl | rfl | rfl | rfl | rfl | rfl <;> rcases hT with rfl | rfl | rfl | rfl | rfl | rfl | rfl <;> rfl
theorem tyD_mem {d : D} {t : String} (h : tyD d = some t) : t ∈ tys := by
  cases d <;> cases h <;> decide
section
variable {X : Cx} {e : Expr} {f : Env → M D} {p p2 pos : Pos}
theorem d_isi {T : String} {x : Str} (hT : T ∈ tys) (hg : Gl X "isinstance") (hm : X.mg "isinstance" = none) (hgt : Gl X x) (hmt : X.mg x = none) (hvt : bootBuiltins x = some (.type T)) (he : DE X e f) (hnt : x ≠ "__name__" := by decide) (hdt : (x == ("__debug__" : Str)) = false := by decide)
    (hs : starEach [e, .Name x p2] X.env = (false, eval e X.env) :: starEach [.Name x p2] X.env := by rfl) (hs2 : starEach [.Name x p2] X.env = (false, eval (.Name x p2) X.env) :: starEach [] X.env := by rfl)
    (hpl : (backTo pos (starEach [.Name x p2] X.env)).any (·.1) = false := by rfl) :
    DE X (.Call (.Name "isinstance" p) [e, .Name x p2] [] pos) (e1 (isiD T) f) := by
  have pt : PE X (.Name x p2) (tC (.ty T)) := ⟨fun _ _ _ H _ I h => ld_blt I hgt hmt hvt ⟨.ty T, H, I, rfl, h⟩ hnt hdt⟩
  refine PEimp (pe_callB call_isi hg hm (by decide +kernel) (pa_cons he (pa_cons pt pa_nil hs2) hs) (he := hs) (hpl := hpl)) ?_
  rintro σ H Q ⟨ρ, G, b, d, b', rs, fz, ob, e, q⟩
  obtain ⟨x, b1, e1, e2⟩ := M.bind_some e
  refine ⟨ρ, G, b, x, b1, rs, fz, ob, e1, fun v G1 H1 n1 r => ?_⟩
  unfold isiD at e2
  cases et : tyD x with
  | none => rw [et] at e2; cases e2
  | some t =>
    rw [et] at e2
    cases e2
    exact ⟨v, .ty T, .type t, .type T, _, rfl, .ty T, tyD_of r n1.fz et, kit_isT t (tyD_mem et) T hT, q _ G1 H1 n1 (.bl _)⟩
def blsD : List D → Option (List Bool)
  | [] => some []
  | .bl b :: r => (blsD r).map (b :: ·)
  | _ => none
theorem blsD_of {K : PySem.W.Frag} {G : Hp} : ∀ {vs : List V} {ds : List D} {bs : List Bool}, RpL K G vs ds → blsD ds = some bs → vs = bs.map V.bl
  | _, _, _, .nil, h => by cases h; rfl
  | _, _, bs, .cons (d := d) (ds := ds) r rl, h => by
    cases r with
    | bl b =>
      obtain ⟨bs', h1, rfl⟩ := Option.map_eq_some_iff.mp (show (blsD ds).map (b :: ·) = some bs from h)
      rw [blsD_of rl h1]; rfl
    | _ => cases h
def allF : List D → M D
  | [.lst xs] => match blsD xs with
    | some bs => M.ret (.bl (bs.all id))
    | none => M.fail
  | _ => M.fail
theorem snd_all : SndC X.K (rAll X.K) allF := by
  intro G H b vs ds d b' Q r fz ob e q
  unfold allF at e
  split at e
  · rename_i xs
    obtain ⟨v, rfl, r1⟩ := r.one
    cases r1 with
    | lst h1 h2 =>
      cases hb : blsD xs with
      | none => rw [hb] at e; cases e
      | some bs =>
        rw [hb] at e
        cases e
        cases blsD_of h2 hb
        exact ⟨_, bs, rfl, SqL.of (fz _ _ h1), q _ _ _ (Nxt.refl fz ob) (.bl _)⟩
  · cases e
variable {fa : Env → M (List D)}
theorem d_all (hc : X.calm = true) (hg : Gl X "all") (hm : X.mg "all" = none) (ha : DA X [e] fa) (he : starEach [e] X.env = (false, eval e X.env) :: starEach [] X.env := by rfl) : DE X (.Call (.Name "all" p) [e] [] pos) (fun ρ => M.bind (fa ρ) allF) :=
  d_callB (cr_all hc) snd_all hg hm (by decide +kernel) ha (he := he)
def strF : List D → M D
  | [.int i] => M.guard (decide (i.natAbs.log2 < 1920)) (M.ret (.str ((toString i : Str).cps.toList)))
  | _ => M.fail
theorem snd_str : SndC X.K (fun xs H Q => ∃ i, xs = [.int i] ∧ i.natAbs.log2 < 1920 ∧ Q (.str (toString i)) H) strF := by
  intro G H b vs ds d b' Q r fz ob e q
  unfold strF at e
  split at e
  · obtain ⟨v, rfl, r1⟩ := r.one
    cases r1
    obtain ⟨c, e⟩ := M.guard_some e
    cases e
    refine ⟨_, rfl, of_decide_eq_true c, q _ _ _ (Nxt.refl fz ob) ?_⟩
    exact .str _
  · cases e
theorem d_cstr (hg : Gl X "str") (hm : X.mg "str" = none) (ha : DA X [e] fa) (he : starEach [e] X.env = (false, eval e X.env) :: starEach [] X.env := by rfl) : DE X (.Call (.Name "str" p) [e] [] pos) (fun ρ => M.bind (fa ρ) strF) :=
  d_callTy call_str_int snd_str hg hm (by decide +kernel) ha (he := he)
def eChain (h h' : D → D → M D) (f g k : Env → M D) : Env → M D := fun ρ => M.bind (f ρ) fun x => M.bind (g ρ) fun y => M.bind (h x y) fun z => M.bind (asB z) fun t => if t = true then M.bind (k ρ) (h' y) else M.ret (.bl false)
theorem chain_f {K : PySem.W.Frag} {r r' : R2} {h h' : D → D → M D} {f g k : Env → M D} (hs : SndR K r h) (hs' : SndR K r' h') : ∀ σ H Q, tF K (eChain h h' f g k) σ H Q → tChain r r' (tF K f) (tF K g) (tF K k) σ H Q := by
  rintro σ H Q ⟨ρ, G, b, d, b', rs, fz, ob, e, q⟩
  obtain ⟨x, b1, e1, e⟩ := M.bind_some e
  obtain ⟨y, b2, e2, e⟩ := M.bind_some e
  obtain ⟨z, b3, e3, e⟩ := M.bind_some e
  obtain ⟨t, b4, e4, e⟩ := M.bind_some e
  obtain ⟨rfl, rfl⟩ := asB_some e4
  refine ⟨ρ, G, b, x, b1, rs, fz, ob, e1, fun v1 G1 H1 n1 r1 => ?_⟩
  refine ⟨ρ, G1, b1, y, b2, rs.mono n1.gg, n1.fz, n1.bag, e2, fun v2 G2 H2 n2 r2 => ?_⟩
  refine hs G2 H2 b2 v1 v2 x y _ b3 _ (r1.mono n2.gg) r2 n2.fz n2.bag e3 fun v3 G3 H3 n3 r3 => ?_
  cases r3
  refine ⟨t, rfl, ?_⟩
  cases t with
  | false =>
    cases e
    exact q _ G3 H3 ((n1.trans n2).trans n3) (.bl _)
  | true =>
    obtain ⟨w, b5, e5, e6⟩ := M.bind_some e
    refine ⟨ρ, G3, b3, w, b5, rs.mono ((n1.trans n2).trans n3).gg, n3.fz, n3.bag, e5, fun v5 G5 H5 n5 r5 => ?_⟩
    exact hs' G5 H5 b5 v2 v5 y w d b' Q (r2.mono (n3.trans n5).gg) r5 n5.fz n5.bag e6 fun v G' H' n6 r6 => q v G' H' ((((n1.trans n2).trans n3).trans n5).trans n6) r6
theorem t_chain {op op' : CmpOp} {r r' : R2} {h h' : D → D → M D} {a b c : Expr} {f g k : Env → M D} (ho : OpR X (compareOp op) r) (ho' : OpR X (compareOp op') r') (hs : SndR X.K r h) (hs' : SndR X.K r' h') (ha : DE X a f) (hb : DE X b g) (hc : DE X c k)
    (hm : lastMarks [op, op'] [b, c] = false := by with_unfolding_all rfl) : DT X (.Compare a [op, op'] [b, c] pos) (fun ρ => M.bind (eChain h h' f g k ρ) asB) := by
  refine PTimp (pt_chain ho ho' ha hb hc hm) ?_
  rintro σ H Q ⟨ρ, G, b, d, b', rs, fz, ob, e, q⟩
  obtain ⟨z, b1, e1, e2⟩ := M.bind_some e
  refine chain_f hs hs' σ H _ ⟨ρ, G, b, z, b1, rs, fz, ob, e1, fun v G1 H1 n1 r1 => ?_⟩
  obtain ⟨rfl, rfl⟩ := asB_some e2
  cases r1
  exact ⟨_, rfl, q G1 H1 n1⟩
end
end DL
set_option Elab.async false
set_option maxRecDepth 100000
set_option autoImplicit false
set_option linter.unusedVariables false
set_option maxHeartbeats 4000000
namespace DL
open PySem L2 PySem.Spec PyProof.Rows PySem.Calls PySem.NumText
variable [TAB : TabList]
variable [EFF : Eff]
set_option linter.unusedSectionVars false
structure BinOk (x : PySem.Str) (n : Int) : Prop where
  s : (numSeenOf x).length ≤ 640
  r : (int_private% "readNumeral") 0 2 (numSeenOf x) = (int_private% "Numeral.value") n
  a : ((numSeenOf x).length == (numTextOf x).length) = true
theorem gives_bin {x : PySem.Str} {u t : Tok} {n : Int} (hk : BinOk x n) : Gives (Builtin.«int.__new__» ⟨[.type "int", .str x u, .int 2 t], []⟩) (.int n) :=
  .of_wp fun M A E s Q hQ => by
    obtain ⟨hp, g, d, tk, os⟩ := s
    have f1 := F.conv_sub_int
    have f2 := F.madeHere_int
    have f6 : typeOf (.str x u) = pure (.type "str") := rfl
    repeat (any_goals (first
      | assumption
      | ((with_reducible show wpAny _ _ ((int_private% "intFromText") _ _ _) _ _ _); refine Hx.wp_textB hk.s hk.r hk.a ?_)
      | wp_step))
    all_goals first | exact ⟨_, rfl, hQ⟩ | skip
theorem call_bin {prog : Program} {w : World} {A : Around} {E : Value → Shared → Prop} {s : Shared} {Q : Value → Shared → Prop} {x : PySem.Str} {u t : Tok} {n : Int} (hk : BinOk x n)
    (hQ : Q (.int n s.toks) { s with toks := s.toks + 1 }) : wpAny (model prog w) A (call (.type "int") [.str x u, .int 2 t]) Q E s :=
  callType_new F.called_int F.newNe_int (Hx.typeCall_int_2 _ _) (Hx.newCall_int_2 _ _) (fun obj => F.initArgs_range_2 obj _ _) F.entry_int_new (gives_bin hk).meets (show (Made.int n).post _ s from ⟨rfl, hQ⟩)
theorem RpL.two {K : PySem.W.Frag} {G : Hp} {vs : List V} {d e : D} (r : RpL K G vs [d, e]) : ∃ v w, vs = [v, w] ∧ Rp K G v d ∧ Rp K G w e := by
  cases r with
  | cons a r => obtain ⟨w, rfl, b⟩ := r.one; exact ⟨_, _, rfl, a, b⟩
theorem bin00 : BinOk ⟨#[48, 48]⟩ 0 := ⟨by decide +kernel, (readNumeral_eq 0 2 _).trans (by kernel_rfl), by decide +kernel⟩
theorem bin01 : BinOk ⟨#[48, 49]⟩ 1 := ⟨by decide +kernel, (readNumeral_eq 0 2 _).trans (by kernel_rfl), by decide +kernel⟩
theorem bin10 : BinOk ⟨#[49, 48]⟩ 2 := ⟨by decide +kernel, (readNumeral_eq 0 2 _).trans (by kernel_rfl), by decide +kernel⟩
theorem bin11 : BinOk ⟨#[49, 49]⟩ 3 := ⟨by decide +kernel, (readNumeral_eq 0 2 _).trans (by kernel_rfl), by decide +kernel⟩
def isBin (c : Nat) : Bool := c == 48 || c == 49
def binF : List D → M D
  | [.str [a, c], .int i] => M.guard (i == 2 && (isBin a && isBin c)) (M.ret (.int (((a - 48) * 2 + (c - 48) : Nat) : Int)))
  | _ => M.fail
theorem snd_bin {X : Cx} : CallR X (.type "int") (fun xs H Q => ∃ x n, xs = [.str x, .int 2] ∧ BinOk x n ∧ Q (.int n) H) := by
  intro pins s σ H xs us Q I r h
  obtain ⟨x, n, rfl, hk, q⟩ := h
  obtain ⟨u, w', rfl, r1, r2⟩ := vals2 r
  obtain ⟨t1, rfl⟩ := r1
  obtain ⟨t2, rfl⟩ := r2
  exact call_bin hk ⟨.int n, H, I.tok _, ⟨_, rfl⟩, q⟩
theorem snd_bin2 {X : Cx} : SndC X.K (fun xs H Q => ∃ x n, xs = [.str x, .int 2] ∧ BinOk x n ∧ Q (.int n) H) binF := by
  intro G H b vs ds d b' Q r fz ob e q
  unfold binF at e
  split at e
  · rename_i a c i
    obtain ⟨v, v2, rfl, r1, r2⟩ := r.two
    cases r1
    cases r2
    obtain ⟨h, e⟩ := M.guard_some e
    cases e
    simp only [Bool.and_eq_true, isBin, Bool.or_eq_true, beq_iff_eq] at h
    obtain ⟨rfl, ha, hc⟩ := h
    have q := q _ _ _ (Nxt.refl fz ob) (.int _)
    rcases ha with rfl | rfl <;> rcases hc with rfl | rfl
    · exact ⟨_, _, rfl, bin00, q⟩
    · exact ⟨_, _, rfl, bin01, q⟩
    · exact ⟨_, _, rfl, bin10, q⟩
    · exact ⟨_, _, rfl, bin11, q⟩
  · cases e
theorem d_int2 {X : Cx} {a c : Expr} {p pos : Pos} {fa : Env → M (List D)} (hg : Gl X "int") (hm : X.mg "int" = none) (ha : DA X [a, c] fa) (he : starEach [a, c] X.env = (false, eval a X.env) :: starEach [c] X.env := by rfl) (hpl : (backTo pos (starEach [c] X.env)).any (·.1) = false := by rfl) :
    DE X (.Call (.Name "int" p) [a, c] [] pos) (fun ρ => M.bind (fa ρ) binF) := d_callTy snd_bin snd_bin2 hg hm (by decide +kernel) ha (he := he) (hpl := hpl)
end DL
set_option Elab.async false
set_option maxRecDepth 100000
set_option autoImplicit false
set_option linter.unusedVariables false
set_option maxHeartbeats 4000000
namespace DL
open PySem L2 PySem.Spec PyProof.Rows
variable [TAB : TabList]
set_option linter.unusedSectionVars false
theorem d_gstr {X : Cx} {x : Str} {pos : Pos} (l : List Nat) (hg : Gl X x) (h : ∃ t, X.mg x = some (.str ⟨l.toArray⟩ t)) (hd : (x == ("__debug__" : Str)) = false := by decide) : DE X (.Name x pos) (cst (.str l)) := by
  obtain ⟨t, h⟩ := h
  exact d_c (v := .str ⟨l.toArray⟩) (pe_glob hg h ⟨t, rfl⟩ hd) fun _ => .str l
theorem d_gint {X : Cx} {x : Str} {pos : Pos} (i : Int) (hg : Gl X x) (h : ∃ t, X.mg x = some (.int i t)) (hd : (x == ("__debug__" : Str)) = false := by decide) : DE X (.Name x pos) (cst (.int i)) := by
  obtain ⟨t, h⟩ := h
  exact d_c (v := .int i) (pe_glob hg h ⟨t, rfl⟩ hd) fun _ => .int i
def inCls (s : Stmt) (j : Nat) : Stmt := match s with
  | .ClassDef _ _ _ body _ _ _ _ _ _ _ => body.getD j (.Pass ⟨0, 0, 0, 0⟩)
  | _ => .Pass ⟨0, 0, 0, 0⟩
structure MethAt (K : PySem.W.Frag) (C : Addr) (x qual : Str) (st : Stmt) (ps : List Str) (f : Addr) (fd : FuncData) : Prop where
  fn : Fun K x qual st f fd
  bd : Binds K fd ps []
  me : Meth K C x f
structure GetAt (K : PySem.W.Frag) (C p : Addr) (x qual : Str) (st : Stmt) (ps : List Str) (f : Addr) (fd : FuncData) : Prop where
  fn : Fun K x qual st f fd
  bd : Binds K fd ps []
  pr : PropAt K C x p f
structure FunV (K : PySem.W.Frag) (x qual : Str) (st : Stmt) (f : Addr) (fd : FuncData) : Prop where
  ex : ∃ (oc : Value) (od : Option Addr) (dV kV doc pm : Value) (an : Option Addr) (cdv ct : Value) (osl : Array (Option Value)),
    fd = PySem.W.fnOf x qual (defArgs st) (defBody st) (defScope st) dV kV doc pm an cdv ct ∧ K.lookup f = some ⟨oc, od, .func fd, osl⟩ ∧ PySem.W.codeIn K cdv qual = true
  kp : PySem.W.keepIn K (.ref f) = true
theorem funV_mk {K : PySem.W.Frag} {x qual : Str} {st : Stmt} {f : Addr} {oc : Value} {od an : Option Addr} {osl : Array (Option Value)} {dV kV doc pm cdv ct : Value} (l : K.lookup f = some ⟨oc, od, .func (PySem.W.fnOf x qual (defArgs st) (defBody st) (defScope st) dV kV doc pm an cdv ct), osl⟩)
    (c : PySem.W.codeIn K cdv qual = true) (k : PySem.W.keepIn K (.ref f) = true) : FunV K x qual st f (PySem.W.fnOf x qual (defArgs st) (defBody st) (defScope st) dV kV doc pm an cdv ct) := ⟨⟨oc, od, dV, kV, doc, pm, an, cdv, ct, osl, rfl, l, c⟩, k⟩
structure InitAt (K : PySem.W.Frag) (C : Addr) (qual : Str) (st : Stmt) (ps : List Str) (f : Addr) (fd : FuncData) : Prop where
  fn : FunV K "__init__" qual st f fd
  bd : Binds K fd ps []
  im : Mk K C f
section
variable {P : Program} {w : World} {K : PySem.W.Frag} {mg : Str → Option Value} {base : Heap} {x qual : Str} {st : Stmt} {f C : Addr} {fd : FuncData} {N ps : List Str} {k n : Nat} {Fs : Env2 → M (List D)} {Fi : List D → M (List D)}
theorem FunV.ok {sp : Sp} (F : FunV K x qual st f fd) (S : FnScope N ps (defScope st)) (len : ∀ vs H Q E, sp vs H Q E → vs.length = ps.length)
    (hbody : ∀ (cdv : Value) (A : Around) (outer : List PySem.Env) (s : Shared) (H : Hp) (vs : List V) (Q : VK) (E : XK), Room k (A.deeper (envOfC qual (defScope st) s.heap.objs.size f cdv)) → sp vs H Q E →
      ∃ t, PSs (cxOf CX0 P w K mg base N qual (defScope st) f cdv A outer s H E).nox (defBody st) t ∧ t { nx := fun _ H' => Q .non H', rt := Q } (L2.start N vs) H) : FnOk P w K mg base CX0 (k + 1) f fd ps sp := by
  obtain ⟨oc, od, dV, kV, doc, pm, an, cdv, ct, osl, rfl, lk, hcd⟩ := F.ex
  refine fn_of lk hcd S len fun A outer s H vs Q E hr hsp => ?_
  obtain ⟨t, h, q⟩ := hbody cdv A outer s H vs Q E hr hsp
  exact ⟨t, h.nox, q⟩
theorem fnI (F : FunV K x qual st f fd) (S : FnScope N ps (defScope st)) (hn : ps.length = n + 1) (hF : ∀ x ds b r, ds.length = n → Fi ds b = some r → Fs (startD N.length (.bag x :: ds)) b = some r)
    (hb : ∀ (cdv : Value) (A : Around) (outer : List PySem.Env) (s : Shared) (H : Hp) (E : XK), Room k (A.deeper (envOfC qual (defScope st) s.heap.objs.size f cdv)) → DI0 (cxOf CX0 P w K mg base N qual (defScope st) f cdv A outer s H E).nox C (defBody st) Fs) :
    FnOk P w K mg base CX0 (k + 1) f fd ps (spI K n C Fi) := by
  refine F.ok S ?_ fun cdv A outer s H vs Q E hr h => ⟨_, hb cdv A outer s H E hr, ?_⟩
  · rintro vs H Q E ⟨x, dx, ws, G, b, ds, fs, b', rfl, _, _, _, _, _, _, _, r, hl, _⟩
    rw [List.length_cons, r.length, hl, hn]
  · obtain ⟨x, dx, ws, G, b, ds, fs, b', rfl, k1, k2, k3, k4, k5, k6, k7, r, hl, fz, ob, e, q⟩ := h
    exact ⟨⟨G, H, b⟩, _, G, b, fs, b', x, dx, SI.start (.cons (.bag x) r) fz ob, k1, k2, k3, k6, k7, k4, k5, rfl, hF x ds b _ hl e, fun σ' us G' H' n r => q us G' H' n r⟩
end
theorem bindsV {K : PySem.W.Frag} {fd : FuncData} {ps : List Str} {T : Addr} {o : Obj} {its : List Value} {n : Nat} (lT : K.lookup T = some o) (oT : o.data = .seq its.toArray n)
    (h : ∀ us : List Value, us.length = ps.length → ∃ k, bindArgs fd ⟨us, []⟩ = seqItems? (.ref T) >>= k ∧ k (some its.toArray) = pure (ps.zip us)) : Binds K fd ps [] := by
  intro s us X hlen
  rw [List.append_nil] at hlen ⊢
  obtain ⟨k, e1, e2⟩ := h us hlen
  refine BindsTo.of_looks fun M => ?_
  rw [e1]
  exact looks_items X lT oT (PySem.W.Looks.of_pure e2)
def tBl (f : Env → M D) : Env → M Bool := fun ρ => M.bind (f ρ) asB
def iTwoS (ms : List Nat) (f : Env → M D) : Env2 → M (List D) := fun ρ => M.bind (f (view ms ρ)) two2s
def okTab (t : List Nat) : Bool := t.length == 4 && t.all isBin
def ruleI : List D → M (List D)
  | [.str t, .int r] => M.guard (okTab t && (decide (0 ≤ r) && decide (r ≤ 2))) (M.ret [.int r, .str t])
  | _ => M.fail
end DL
set_option Elab.async false
set_option maxRecDepth 100000
set_option autoImplicit false
set_option linter.unusedVariables false
set_option maxHeartbeats 4000000
namespace DL
open PySem L2
variable [TAB : TabList]
variable [EFF : Eff]
set_option linter.unusedSectionVars false
def isNonD : D → Bool
  | .non => true
  | _ => false
def isD (neg : Bool) : D → D → M D
  | x, .non => M.ret (.bl (if neg then !isNonD x else isNonD x))
  | _, _ => M.fail
theorem Rp.isNon {K : PySem.W.Frag} {G : Hp} {v : V} {d : D} (r : Rp K G v d) : decide (v = .non) = isNonD d := by
  cases r <;> first | rfl | exact decide_eq_false (fun z => by cases z)
theorem snd_is {K : PySem.W.Frag} : SndR K (fun x y H Q => y = .non ∧ Q (.bl (decide (x = .non))) H) (isD false) := by
  intro G H b x y dx dy d b' Q rx ry f o e q
  cases ry with
  | non =>
    cases e
    rw [rx.isNon]
    exact ⟨rfl, q _ G H (Nxt.refl f o) (.bl _)⟩
  | _ => cases e
theorem snd_isnt {K : PySem.W.Frag} : SndR K (fun x y H Q => y = .non ∧ Q (.bl (!decide (x = .non))) H) (isD true) := by
  intro G H b x y dx dy d b' Q rx ry f o e q
  cases ry with
  | non =>
    cases e
    rw [rx.isNon]
    exact ⟨rfl, q _ G H (Nxt.refl f o) (.bl _)⟩
  | _ => cases e
section
variable {X : Cx} {a b : Expr} {f g : Env → M D} {pos : Pos}
theorem t_is (ha : DE X a f) (hb : DE X b g) (hm : behindInMarks .Is b = false := by rfl) : DT X (.Compare a [.Is] [b] pos) (t2 (isD false) f g) := t_cmp op_isN snd_is ha hb hm
theorem t_isnt (ha : DE X a f) (hb : DE X b g) (hm : behindInMarks .IsNot b = false := by rfl) : DT X (.Compare a [.IsNot] [b] pos) (t2 (isD true) f g) := t_cmp op_notN snd_isnt ha hb hm
def flatD : D → Bool
  | .non => true
  | .bl _ => true
  | .int _ => true
  | .str _ => true
  | _ => false
def eqF : D → D → Bool
  | .non, .non => true
  | .bl a, .bl b => a == b
  | .bl a, .int b => (if a then 1 else 0) == b
  | .int a, .bl b => a == (if b then 1 else 0)
  | .int a, .int b => a == b
  | .str a, .str b => a == b
  | _, _ => false
def inE (neg : Bool) : D → D → M D
  | .str [c], .str z => M.ret (.bl (if neg then !decide (c ∈ z) else decide (c ∈ z)))
  | x, .lst xs => M.guard (flatD x && xs.all flatD) (M.ret (.bl (if neg then !xs.any (fun y => eqF y x) else xs.any (fun y => eqF y x))))
  | x, .tup xs => M.guard (flatD x && xs.all flatD) (M.ret (.bl (if neg then !xs.any (fun y => eqF y x) else xs.any (fun y => eqF y x))))
  | _, _ => M.fail
theorem Rp.flatV {K : PySem.W.Frag} {G : Hp} {v : V} {d : D} (r : Rp K G v d) (h : flatD d = true) : L2.flatV v = true := by
  cases r <;> first | rfl | cases h
theorem str_beq (a b : List Nat) : ((⟨a.toArray⟩ : Str) == ⟨b.toArray⟩) = (a == b) := by
  rw [Bool.eq_iff_iff, beq_iff_eq, beq_iff_eq]
  refine ⟨fun h => ?_, fun h => by rw [h]⟩
  have := congrArg (fun z : Str => z.cps.toList) h
  simpa using this
theorem eqV_str (a b : List Nat) : L2.eqV (V.str ⟨a.toArray⟩) (V.str ⟨b.toArray⟩) = eqF (.str a) (.str b) := str_beq a b
theorem Rp.eqV {K : PySem.W.Frag} {G : Hp} {v w : V} {d e : D} (r : Rp K G v d) (r2 : Rp K G w e) (h : flatD d = true) (h2 : flatD e = true) : L2.eqV v w = eqF d e := by
  cases r <;> cases r2 <;> first | exact eqV_str _ _ | rfl | (exfalso; cases h; done) | (exfalso; cases h2; done)
theorem RpL.flats {K : PySem.W.Frag} {G : Hp} : ∀ {vs : List V} {ds : List D}, RpL K G vs ds → ds.all flatD = true → vs.all L2.flatV = true
  | _, _, .nil, _ => rfl
  | _, _, .cons a r, h => by
    rw [List.all_cons, Bool.and_eq_true] at h
    rw [List.all_cons, a.flatV h.1, RpL.flats r h.2]; rfl
theorem RpL.inV {K : PySem.W.Frag} {G : Hp} {w : V} {e : D} (re : Rp K G w e) (he : flatD e = true) : ∀ {vs : List V} {ds : List D}, RpL K G vs ds → ds.all flatD = true → L2.inV w vs = ds.any (fun y => eqF y e)
  | _, _, .nil, _ => rfl
  | _, _, .cons a r, h => by
    rw [List.all_cons, Bool.and_eq_true] at h
    show (L2.eqV _ w || L2.inV w _) = _
    rw [List.any_cons, a.eqV re h.1 he, RpL.inV re he r h.2]
theorem snd_inE (neg : Bool) : SndR X.K (fun x y H Q => (∃ (c : Nat) (z : Str), x = .str ⟨#[c]⟩ ∧ y = .str z ∧ Q (.bl (if neg then !decide (c ∈ z.cps.toList) else decide (c ∈ z.cps.toList))) H) ∨ rIn X.K neg x y H Q) (inE neg) := by
  intro G H b x y dx dy d b' Q rx ry f o e q
  unfold inE at e
  split at e
  · rename_i c z
    cases e
    cases rx
    cases ry
    refine .inl ⟨c, _, rfl, rfl, ?_⟩
    have := q (.bl (if neg then !decide (c ∈ z) else decide (c ∈ z))) G H (Nxt.refl f o) (.bl _)
    simpa using this
  · rename_i xs
    obtain ⟨k, e⟩ := M.guard_some e
    rw [Bool.and_eq_true] at k
    cases e
    cases ry with
    | lst h1 h2 =>
      refine .inr ⟨_, _, rfl, .inl (SqL.of (f _ _ h1)), rx.flatV k.1, h2.flats k.2, ?_⟩
      rw [h2.inV rx k.1 k.2]
      exact q _ G H (Nxt.refl f o) (.bl _)
  · rename_i xs
    obtain ⟨k, e⟩ := M.guard_some e
    rw [Bool.and_eq_true] at k
    cases e
    cases ry with
    | tup h1 h2 =>
      refine .inr ⟨_, _, rfl, .inr (SameF.sqt f h1), rx.flatV k.1, h2.flats k.2, ?_⟩
      rw [h2.inV rx k.1 k.2]
      exact q _ G H (Nxt.refl f o) (.bl _)
  · cases e
theorem op_inE : OpR X (compareOp .In) (fun x y H Q => (∃ (c : Nat) (z : Str), x = .str ⟨#[c]⟩ ∧ y = .str z ∧ Q (.bl (if false then !decide (c ∈ z.cps.toList) else decide (c ∈ z.cps.toList))) H) ∨ rIn X.K false x y H Q) := op_in_sign.or op_in_seq
def listF : List D → M (List D)
  | [.lst xs] => M.ret xs
  | [.tup xs] => M.ret xs
  | _ => M.fail
variable {e : Expr} {es : List Expr} {fa : Env → M (List D)} {p : Pos}
end
end DL
set_option Elab.async false
set_option maxRecDepth 100000
set_option autoImplicit false
set_option linter.unusedVariables false
set_option maxHeartbeats 4000000
namespace DL
open PySem L2
variable [TAB : TabList]
variable [EFF : Eff]
set_option linter.unusedSectionVars false
section
variable {X : Cx} {a b : Expr} {f g : Env → M D} {pos : Pos}
def compM2 (bs : D → Option (List (Nat × D))) (c : Env → M Bool) (gi1 : Env → M (List D)) (bs1 : D → Option (List (Nat × D))) (c1 : Env → M Bool) (e : Env → M D) (vs1 : List Nat) (ρ : Env) : List D → M (List D)
  | [] => M.ret []
  | x :: xs => match bs x with
    | none => M.fail
    | some l => M.bind (c (setAllD ρ l)) fun k => if k = true then M.bind (gi1 (setAllD ρ l)) fun ys => M.bind (compM bs1 c1 e (wipeD (setAllD ρ l) vs1) ys) fun zs => M.bind (compM2 bs c gi1 bs1 c1 e vs1 ρ xs) fun ws => M.ret (zs ++ ws) else compM2 bs c gi1 bs1 c1 e vs1 ρ xs
theorem lc2_f {K : PySem.W.Frag} {gi gi1 : Env → M (List D)} {g g1 : TG} {bs bs1 : D → Option (List (Nat × D))} {is is1 vs vs1 : List Nat} {c c1 : Env → M Bool} {e : Env → M D} (tg : TgOk K g bs is) (tg1 : TgOk K g1 bs1 is1) (his : ∀ i ∈ is, i ∈ vs) (his1 : ∀ i ∈ is1, i ∈ vs1) :
    ∀ σ H Q, tN K (fun ρ => M.bind (gi ρ) fun xs => M.bind (compM2 bs c gi1 bs1 c1 e vs1 (wipeD ρ vs) xs) fun ys => M.guard (szL ys) (M.ret ys)) σ H Q → tLc2 (iF K gi) g (tFT K c) (iF K gi1) g1 (tFT K c1) (tF K e) vs vs1 σ H Q := by
  rintro σ H Q ⟨ρ, G, b, ds, b', rs, fz, ob, e0, q⟩
  obtain ⟨xs, b1, e1, e2⟩ := M.bind_some e0
  obtain ⟨ys, b2, e2, e3⟩ := M.bind_some e2
  obtain ⟨hz, e4⟩ := M.guard_some e3
  cases e4
  have hz1 : ds.length ≤ sizeLine := of_decide_eq_true hz
  refine ⟨ρ, G, b, xs, b1, rs, fz, ob, e1, fun J G1 H1 n1 yl Dd hD => ?_⟩
  have m0 : Nxt G1 H1 b1 G1 (upd H1 Dd (.lst [])) b1 := Nxt.newH n1.fz n1.bag hD
  refine ⟨fun i m H2 => m = xs.length - i ∧ i ≤ xs.length ∧ ∃ G2 bb accv acc rest, Nxt G H b G2 H2 bb ∧ Same G1 G2 ∧ G2 Dd = none ∧ H2 Dd = some (.lst accv) ∧ RpL K G2 accv acc ∧ compM2 bs c gi1 bs1 c1 e vs1 (wipeD ρ vs) (xs.drop i) bb = some (rest, b') ∧ acc ++ rest = ds,
    ⟨xs.length, by simp, Nat.zero_le _, G1, b1, [], [], ds, n1.trans m0, fun _ _ h => h, gnone n1.fz hD, upd_same, .nil, by simpa using e2, rfl⟩, ?_⟩
  rintro i m H2 ⟨rfl, hi, G2, bb, accv, acc, rest, n2, s12, gD, hDd, ra, ec, ea⟩
  have Y := yl i G2 H2 bb s12 n2.fz n2.bag
  by_cases hlt : i < xs.length
  · have hx : xs[i]? = some xs[i] := List.getElem?_eq_getElem hlt
    have hdr : xs.drop i = xs[i] :: xs.drop (i + 1) := List.drop_eq_getElem_cons hlt
    obtain ⟨hgo, hy⟩ := Y.1 _ hx
    refine .inr ⟨hgo, fun H3 => ∃ G2 bb accv acc rest, Nxt G H b G2 H3 bb ∧ Same G1 G2 ∧ G2 Dd = none ∧ H3 Dd = some (.lst accv) ∧ RpL K G2 accv acc ∧ compM2 bs c gi1 bs1 c1 e vs1 (wipeD ρ vs) (xs.drop (i + 1)) bb = some (rest, b') ∧ acc ++ rest = ds,
      fun H' h' => ⟨xs.length - (i + 1), by omega, rfl, hlt, h'⟩, fun x H3 hyl => ?_⟩
    obtain ⟨G3, n3, rx⟩ := hy x H3 hyl
    rw [hdr] at ec
    unfold compM2 at ec
    cases eb : bs xs[i] with
    | none => rw [eb] at ec; cases ec
    | some l =>
      rw [eb] at ec
      obtain ⟨lv, pl, il, gq⟩ := tg G3 x xs[i] l rx eb
      refine gq H3 _ _ n3.fz ?_
      have rsb : RS K G3 (setAll (wipe σ vs) lv) (setAllD (wipeD ρ vs) l) := by
        refine RS.setAll pl (RS.wipe (rs.mono ?_) vs)
        exact fun a o h => n3.gg a o (n2.gg a o h)
      refine ⟨?_, ?_⟩
      · rw [wipe_setAll fun p hp => his _ (il p hp)]
        exact wipe_wipe fun v hv => hv
      · obtain ⟨k, b3, ek, ec⟩ := M.bind_some ec
        have gD3 : G3 Dd = none := n3.new Dd _ hDd gD
        have nb : ¬ bb.hit Dd := by rw [← Bs.like_at n2.like]; exact bag_ne ob (n1.free hD)
        have hD3 : H3 Dd = some (.lst accv) := n3.keep Dd _ hDd nb
        refine ⟨_, G3, bb, k, b3, rsb, n3.fz, n3.bag, ek, fun G4 H4 n4 => ?_⟩
        have gD4 : G4 Dd = none := n4.new Dd _ hD3 gD3
        have hD4 : H4 Dd = some (.lst accv) := n4.keep Dd _ hD3 nb
        have nb3 : ¬ b3.hit Dd := by rw [← Bs.like_at n4.like]; exact nb
        cases k with
        | false =>
          refine iteF ⟨G4, b3, accv, acc, rest, (n2.trans n3).trans n4, fun a o h => n4.gg a o (n3.gg a o (s12 a o h)), gD4, hD4, (ra.mono n3.gg).mono n4.gg, ec, ea⟩
        | true =>
          refine iteT ?_
          obtain ⟨ts, b4, et, ec⟩ := M.bind_some ec
          obtain ⟨zs, b5, ezs, ec⟩ := M.bind_some ec
          obtain ⟨ws, b6, ews, ec⟩ := M.bind_some ec
          cases ec
          refine ⟨_, G4, b3, ts, b4, rsb.mono n4.gg, n4.fz, n4.bag, et, fun J1 G5 H5 n5 yl1 => ?_⟩
          have gD5 : G5 Dd = none := n5.new Dd _ hD4 gD4
          have hD5 : H5 Dd = some (.lst accv) := n5.keep Dd _ hD4 nb3
          have n25 : Nxt G H b G5 H5 b4 := ((n2.trans n3).trans n4).trans n5
          have s15 : Same G1 G5 := fun a o h => n5.gg a o (n4.gg a o (n3.gg a o (s12 a o h)))
          have ra5 : RpL K G5 accv acc := ((ra.mono n3.gg).mono n4.gg).mono n5.gg
          have rs5 : RS K G5 (setAll (wipe σ vs) lv) (setAllD (wipeD ρ vs) l) := (rsb.mono n4.gg).mono n5.gg
          refine ⟨fun j m H6 => m = ts.length - j ∧ j ≤ ts.length ∧ ∃ G6 bb accv acc rest, Nxt G H b G6 H6 bb ∧ Same G1 G6 ∧ Same G5 G6 ∧ G6 Dd = none ∧ H6 Dd = some (.lst accv) ∧ RpL K G6 accv acc ∧ compM bs1 c1 e (wipeD (setAllD (wipeD ρ vs) l) vs1) (ts.drop j) bb = some (rest, b5) ∧ acc ++ (rest ++ ws) = ds,
            ⟨ts.length, by simp, Nat.zero_le _, G5, b4, accv, acc, zs, n25, s15, fun _ _ h => h, gD5, hD5, ra5, by simpa using ezs, ea⟩, ?_⟩
          rintro j m2 H6 ⟨rfl, hj, G6, bb6, accv6, acc6, rest6, n6, s16, s56, gD6, hD6, ra6, ec6, ea6⟩
          have Y1 := yl1 j G6 H6 bb6 s56 n6.fz n6.bag
          by_cases hjl : j < ts.length
          · have hx1 : ts[j]? = some ts[j] := List.getElem?_eq_getElem hjl
            have hdr1 : ts.drop j = ts[j] :: ts.drop (j + 1) := List.drop_eq_getElem_cons hjl
            obtain ⟨hgo1, hy1⟩ := Y1.1 _ hx1
            refine .inr ⟨hgo1, fun H7 => ∃ G6 bb accv acc rest, Nxt G H b G6 H7 bb ∧ Same G1 G6 ∧ Same G5 G6 ∧ G6 Dd = none ∧ H7 Dd = some (.lst accv) ∧ RpL K G6 accv acc ∧ compM bs1 c1 e (wipeD (setAllD (wipeD ρ vs) l) vs1) (ts.drop (j + 1)) bb = some (rest, b5) ∧ acc ++ (rest ++ ws) = ds,
              fun H' h' => ⟨ts.length - (j + 1), by omega, rfl, hjl, h'⟩, fun x1 H7 hyl1 => ?_⟩
            obtain ⟨G7, n7, rx1⟩ := hy1 x1 H7 hyl1
            rw [hdr1] at ec6
            unfold compM at ec6
            cases eb1 : bs1 ts[j] with
            | none => rw [eb1] at ec6; cases ec6
            | some l1 =>
              rw [eb1] at ec6
              obtain ⟨lv1, pl1, il1, gq1⟩ := tg1 G7 x1 ts[j] l1 rx1 eb1
              refine gq1 H7 _ _ n7.fz ?_
              have rsb1 : RS K G7 (setAll (wipe (setAll (wipe σ vs) lv) vs1) lv1) (setAllD (wipeD (setAllD (wipeD ρ vs) l) vs1) l1) := by
                refine RS.setAll pl1 (RS.wipe (rs5.mono ?_) vs1)
                exact fun a o h => n7.gg a o (s56 a o h)
              refine ⟨?_, ?_⟩
              · rw [wipe_setAll fun p hp => his1 _ (il1 p hp)]
                exact wipe_wipe fun v hv => hv
              · obtain ⟨k, b7, ek, ec7⟩ := M.bind_some ec6
                have gD7 : G7 Dd = none := n7.new Dd _ hD6 gD6
                have nb6 : ¬ bb6.hit Dd := by rw [← Bs.like_at n6.like]; exact bag_ne ob (n1.free hD)
                have hD7 : H7 Dd = some (.lst accv6) := n7.keep Dd _ hD6 nb6
                refine ⟨_, G7, bb6, k, b7, rsb1, n7.fz, n7.bag, ek, fun G8 H8 n8 => ?_⟩
                have gD8 : G8 Dd = none := n8.new Dd _ hD7 gD7
                have hD8 : H8 Dd = some (.lst accv6) := n8.keep Dd _ hD7 nb6
                have nb7 : ¬ b7.hit Dd := by rw [← Bs.like_at n8.like]; exact nb6
                cases k with
                | false =>
                  refine iteF ⟨G8, b7, accv6, acc6, rest6, (n6.trans n7).trans n8, fun a o h => n8.gg a o (n7.gg a o (s16 a o h)), fun a o h => n8.gg a o (n7.gg a o (s56 a o h)), gD8, hD8, (ra6.mono n7.gg).mono n8.gg, ec7, ea6⟩
                | true =>
                  refine iteT ?_
                  obtain ⟨y, b8, ey, ec8⟩ := M.bind_some ec7
                  obtain ⟨ys2, b9, ey2, ec8⟩ := M.bind_some ec8
                  cases ec8
                  refine ⟨_, G8, b7, y, b8, rsb1.mono n8.gg, n8.fz, n8.bag, ey, fun v G9 H9 n9 rv => ?_⟩
                  have gD9 : G9 Dd = none := n9.new Dd _ hD8 gD8
                  have hD9 : H9 Dd = some (.lst accv6) := n9.keep Dd _ hD8 nb7
                  have la : accv6.length = acc6.length := ra6.length
                  have lz : acc6.length < sizeLine := by
                    have := congrArg List.length ea6
                    simp at this
                    omega
                  refine ⟨accv6, hD9, by rw [la]; exact lz, ?_⟩
                  refine ⟨G9, b8, accv6 ++ [v], acc6 ++ [y], ys2, (((n6.trans n7).trans n8).trans n9).mut ob (n1.free hD) gD9 (nc_of hD9), fun a o h => n9.gg a o (n8.gg a o (n7.gg a o (s16 a o h))), fun a o h => n9.gg a o (n8.gg a o (n7.gg a o (s56 a o h))), gD9, upd_same, (((ra6.mono n7.gg).mono n8.gg).mono n9.gg).append (.cons rv .nil), ey2, ?_⟩
                  rw [← ea6]; simp
          · have e : j = ts.length := by omega
            subst e
            refine .inl ⟨Y1.2 (Nat.le_refl _), ?_⟩
            have hr : ts.drop ts.length = [] := by simp
            rw [hr] at ec6
            cases ec6
            simp at ea6
            exact ⟨G6, b5, accv6, acc6, ws, n6, s16, gD6, hD6, ra6, ews, ea6⟩
  · have e : i = xs.length := by omega
    subst e
    refine .inl ⟨Y.2 (Nat.le_refl _), ?_⟩
    have hr : xs.drop xs.length = [] := by simp
    rw [hr] at ec
    cases ec
    simp at ea
    subst ea
    exact q Dd accv G2 H2 n2 (n1.free hD) gD hDd ra
def nLc2 (vs vs1 : List Nat) (gi : Env → M (List D)) (bs : D → Option (List (Nat × D))) (c : Env → M Bool) (gi1 : Env → M (List D)) (bs1 : D → Option (List (Nat × D))) (c1 : Env → M Bool) (e : Env → M D) : Env → M (List D) := fun ρ => M.bind (gi ρ) fun xs => M.bind (compM2 bs c gi1 bs1 c1 e vs1 (wipeD ρ vs) xs) fun ys => M.guard (szL ys) (M.ret ys)
theorem dn_lc2 {elt tg iter tg1 iter1 : Expr} {ifs ifs1 : List Expr} {scope : Scope} {own : List (Str × Nat)} {vs1 : List Nat} {gi gi1 : Env → M (List D)} {g g1 : TG} {bs bs1 : D → Option (List (Nat × D))} {is is1 : List Nat} {c c1 : Env → M Bool} {e : Env → M D}
    (hc : X.calm = true) (hN : X.N.Nodup) (hi : DI X tg iter gi) (ok : BlkOk X.N X.env.scope scope own) (hv : vs1.all (fun i => (own.map (·.2)).contains i) = true) (ht : TgOk X.K g bs is) (ht1 : TgOk X.K g1 bs1 is1) (his : is.all (fun i => (own.map (·.2)).contains i) = true) (his1 : is1.all (fun i => vs1.contains i) = true)
    (hg : ∀ (s : Shared) (H : Hp) (C : Addr) (cl : List (Str × Addr)) (fp : List Addr), PG (X.blk s H scope (compEnvC scope cl C X.env) fp) tg g) (htt : ∀ (s : Shared) (H : Hp) (C : Addr) (cl : List (Str × Addr)) (fp : List Addr), DTs (X.blk s H scope (compEnvC scope cl C X.env) fp) ifs c)
    (hi1 : ∀ (s : Shared) (H : Hp) (C : Addr) (cl : List (Str × Addr)) (fp : List Addr), DI (X.blk s H scope (compEnvC scope cl C X.env) fp) tg1 iter1 gi1)
    (hg1 : ∀ (s : Shared) (H : Hp) (C : Addr) (cl : List (Str × Addr)) (fp : List Addr), PG (X.blk s H scope (compEnvC scope cl C X.env) fp) tg1 g1) (htt1 : ∀ (s : Shared) (H : Hp) (C : Addr) (cl : List (Str × Addr)) (fp : List Addr), DTs (X.blk s H scope (compEnvC scope cl C X.env) fp) ifs1 c1)
    (he : ∀ (s : Shared) (H : Hp) (C : Addr) (cl : List (Str × Addr)) (fp : List Addr), DE (X.blk s H scope (compEnvC scope cl C X.env) fp) elt e) (hs : ∀ x, foldedSetIterable iter X.env x = pure x := by intro _; rfl) (hs1 : ∀ env x, foldedSetIterable iter1 env x = pure x := by intro _ _; rfl) :
    DN X (.ListComp elt [⟨tg, iter, ifs, 0⟩, ⟨tg1, iter1, ifs1, 0⟩] scope pos) (nLc2 (own.map (·.2)) vs1 gi bs c gi1 bs1 c1 e) :=
  PEimp (pe_lc2 hc hN hi ok (fun i hi => by have := List.all_eq_true.mp hv i hi; simpa using this) hg htt hi1 hg1 htt1 he hs hs1) (lc2_f ht ht1 (fun i hi => by have := List.all_eq_true.mp his i hi; simpa using this) (fun i hi => by have := List.all_eq_true.mp his1 i hi; simpa using this))
end
end DL
set_option Elab.async false
set_option maxRecDepth 100000
set_option autoImplicit false
set_option linter.unusedVariables false
set_option maxHeartbeats 4000000
namespace DL
open PySem L2
variable [TAB : TabList]
variable [EFF : Eff]
set_option linter.unusedSectionVars false
def keyD : D → Option Key
  | .int i => some (.inl i)
  | .str x => some (.inr ⟨x.toArray⟩)
  | _ => none
theorem keyD_of {K : PySem.W.Frag} {G : Hp} {v : V} {d : D} {k : Key} (r : Rp K G v d) (h : keyD d = some k) : v = kV k := by
  cases r <;> cases h <;> rfl
def keysD : List D → Option (List Key)
  | [] => some []
  | d :: r => match keyD d, keysD r with
    | some k, some ks => some (k :: ks)
    | _, _ => none
theorem keysD_of {K : PySem.W.Frag} {G : Hp} : ∀ {vs : List V} {ds : List D} {ks : List Key}, RpL K G vs ds → keysD ds = some ks → vs = ks.map kV
  | _, _, _, .nil, h => by cases h; rfl
  | _, _, ks, .cons (d := d) (ds := ds) r rl, h => by
    unfold keysD at h
    cases e1 : keyD d with
    | none => simp only [e1] at h; cases h
    | some k =>
      cases e2 : keysD ds with
      | none => simp only [e1, e2] at h; cases h
      | some ks' =>
        simp only [e1, e2] at h
        cases h
        rw [keyD_of r e1, keysD_of rl e2]; rfl
section
variable {κ α β : Type} [DecidableEq κ]
def getK (ks : List κ) (ds : List α) (k : κ) : Option α := ((ks.zip ds).find? fun p => decide (p.1 = k)).map (·.2)
def repK (ks : List κ) (ds : List α) (k : κ) (d : α) : List α := (ks.zip ds).map fun p => if p.1 = k then d else p.2
def setKs (ks : List κ) (k : κ) : List κ := if k ∈ ks then ks else ks ++ [k]
def setVs (ks : List κ) (ds : List α) (k : κ) (d : α) : List α := if k ∈ ks then repK ks ds k d else ds ++ [d]
theorem any_key : ∀ (ks : List κ) (ds : List α) (k : κ), ks.length = ds.length → ((ks.zip ds).any fun kv => decide (kv.1 = k)) = decide (k ∈ ks)
  | [], _, _, _ => rfl
  | a :: ks, d :: ds, k, h => by
    rw [List.zip_cons_cons, List.any_cons, any_key ks ds k (by simpa using h)]
    by_cases e : a = k
    · simp [e]
    · have : ¬ k = a := fun z => e z.symm
      simp [e, this]
  | _ :: _, [], _, h => by simp at h
theorem repK_len (ks : List κ) (ds : List α) (k : κ) (d : α) (h : ks.length = ds.length) : (repK ks ds k d).length = ds.length := by
  simp [repK, h]
theorem setK_len (ks : List κ) (ds : List α) (k : κ) (d : α) (h : ks.length = ds.length) : (setKs ks k).length = (setVs ks ds k d).length := by
  unfold setKs setVs
  by_cases e : k ∈ ks
  · rw [if_pos e, if_pos e, repK_len ks ds k d h, h]
  · rw [if_neg e, if_neg e]; simp [h]
theorem zip_rep : ∀ (ks : List κ) (ds : List α) (k : κ) (d : α), ks.length = ds.length → (ks.zip ds).map (fun kv => if kv.1 = k then (kv.1, d) else kv) = ks.zip (repK ks ds k d)
  | [], _, _, _, _ => rfl
  | a :: ks, x :: ds, k, d, h => by
    unfold repK
    rw [List.zip_cons_cons, List.map_cons, List.map_cons, List.zip_cons_cons]
    have ih := zip_rep ks ds k d (by simpa using h)
    unfold repK at ih
    rw [ih]
    by_cases e : a = k <;> simp [e]
  | _ :: _, [], _, _, h => by simp at h
end
theorem putK_zip {κ : Type} [DecidableEq κ] (ks : List κ) (vs : List V) (k : κ) (v : V) (h : ks.length = vs.length) : putK (ks.zip vs) k v = (setKs ks k).zip (setVs ks vs k v) := by
  unfold putK setKs setVs
  rw [any_key ks vs k h]
  by_cases e : k ∈ ks
  · rw [if_pos e, if_pos e, if_pos (by simpa using e), zip_rep ks vs k v h]
  · rw [if_neg e, if_neg e, if_neg (by simpa using e), List.zip_append h]; rfl
theorem valV_zip {κ : Type} [DecidableEq κ] (ks : List κ) (vs : List V) (k : κ) : valV (ks.zip vs) k = getK ks vs k := rfl
theorem RpL.getK {κ : Type} [DecidableEq κ] {K : PySem.W.Frag} {G : Hp} (k : κ) : ∀ {ks : List κ} {vs : List V} {ds : List D}, RpL K G vs ds → (∀ d, DL.getK ks ds k = some d → ∃ v, DL.getK ks vs k = some v ∧ Rp K G v d) ∧ (DL.getK ks ds k = none → DL.getK ks vs k = none)
  | [], _, _, _ => ⟨fun d h => (by cases h), fun _ => rfl⟩
  | a :: ks, _, _, .nil => ⟨fun d h => (by cases h), fun _ => rfl⟩
  | a :: ks, _, _, .cons (v := v) (vs := vs) (d := d) (ds := ds) r rl => by
    have ih := RpL.getK k (ks := ks) rl
    unfold DL.getK at ih ⊢
    rw [List.zip_cons_cons, List.zip_cons_cons, List.find?_cons, List.find?_cons]
    by_cases e : a = k
    · simp only [e, decide_true]
      exact ⟨fun d' h => by cases h; exact ⟨v, rfl, r⟩, fun h => by cases h⟩
    · simp only [e, decide_false]
      exact ih
theorem RpL.setVs {κ : Type} [DecidableEq κ] {K : PySem.W.Frag} {G : Hp} {v : V} {d : D} (r : Rp K G v d) {ks : List κ} {k : κ} {vs : List V} {ds : List D} (rl : RpL K G vs ds) : RpL K G (DL.setVs ks vs k v) (DL.setVs ks ds k d) := by
  unfold DL.setVs
  by_cases e : k ∈ ks
  · rw [if_pos e, if_pos e]
    clear e
    unfold repK
    induction ks generalizing vs ds with
    | nil => exact .nil
    | cons a ks ih =>
      cases rl with
      | nil => exact .nil
      | cons r1 r2 =>
        rw [List.zip_cons_cons, List.zip_cons_cons, List.map_cons, List.map_cons]
        refine .cons ?_ (ih r2)
        by_cases e : a = k
        · simp only [e, if_pos]; exact r
        · simp only [e, if_neg, if_false]; exact r1
  · rw [if_neg e, if_neg e]
    exact rl.append (.cons r .nil)
section
variable {X : Cx} {a b : Expr} {f g : Env → M D} {pos : Pos}
def rDIn (neg : Bool) : R2 := fun y x H Q => ∃ p o, x = .ref p ∧ DGet H p y o ∧ Q (.bl (if neg then !o.isSome else o.isSome)) H
theorem op_din (hu : X.A.units + 1 < cLine) : OpR X (compareOp .In) (rDIn false) := by
  intro pins s σ H y x u v Q I ry rx h
  obtain ⟨p, o, rfl, g, q⟩ := h
  obtain rfl : v = Value.ref p := rx
  exact _root_.L2.d_in hu I g ry fun s3 I3 => ⟨.bl o.isSome, H, I3, rfl, q⟩
def inF (neg : Bool) : D → D → M D
  | x, .dct ks ds => match keyD x with
    | some k => M.ret (.bl (if neg then !(getK ks ds k).isSome else (getK ks ds k).isSome))
    | none => M.fail
  | x, y => inE neg x y
theorem snd_inF (neg : Bool) : SndR X.K (fun x y H Q => ((∃ (c : Nat) (z : Str), x = .str ⟨#[c]⟩ ∧ y = .str z ∧ Q (.bl (if neg then !decide (c ∈ z.cps.toList) else decide (c ∈ z.cps.toList))) H) ∨ rIn X.K neg x y H Q) ∨ rDIn neg x y H Q) (inF neg) := by
  intro G H b x y dx dy d b' Q rx ry f o e q
  cases ry with
  | @dct p ks vs ds hg hl rl =>
    have e : (match keyD dx with | some k => M.ret (D.bl (if neg then !(getK ks ds k).isSome else (getK ks ds k).isSome)) | none => M.fail) b = some (d, b') := e
    cases ek : keyD dx with
    | none => rw [ek] at e; cases e
    | some k =>
      rw [ek] at e
      cases e
      have hk := keyD_of rx ek
      subst hk
      refine .inr ⟨p, _, rfl, .inl ⟨_, k, SameF.rd f hg, rfl, rfl⟩, ?_⟩
      obtain ⟨k1, k2⟩ := RpL.getK k (ks := ks) rl
      rw [valV_zip]
      have es : (getK ks vs k).isSome = (getK ks ds k).isSome := by
        cases ed : getK ks ds k with
        | none => rw [k2 ed]; rfl
        | some z => obtain ⟨u, h1, _⟩ := k1 z ed; rw [h1]; rfl
      rw [es]
      exact q _ G H (Nxt.refl f o) (.bl _)
  | non => exact .inl (snd_inE neg G H b x _ dx _ d b' Q rx .non f o e q)
  | bl k => exact .inl (snd_inE neg G H b x _ dx _ d b' Q rx (.bl k) f o e q)
  | int k => exact .inl (snd_inE neg G H b x _ dx _ d b' Q rx (.int k) f o e q)
  | str k => exact .inl (snd_inE neg G H b x _ dx _ d b' Q rx (.str k) f o e q)
  | lst h1 h2 => exact .inl (snd_inE neg G H b x _ dx _ d b' Q rx (.lst h1 h2) f o e q)
  | tup h1 h2 => exact .inl (snd_inE neg G H b x _ dx _ d b' Q rx (.tup h1 h2) f o e q)
  | dcT h1 h2 h3 => exact .inl (snd_inE neg G H b x _ dx _ d b' Q rx (.dcT h1 h2 h3) f o e q)
  | obj h1 h2 h3 h4 => exact .inl (snd_inE neg G H b x _ dx _ d b' Q rx (.obj h1 h2 h3 h4) f o e q)
  | bag p => exact .inl (snd_inE neg G H b x _ dx _ d b' Q rx (.bag p) f o e q)
  | scr h => exact .inl (snd_inE neg G H b x _ dx _ d b' Q rx (.scr h) f o e q)
  | exc h1 h2 => exact .inl (snd_inE neg G H b x _ dx _ d b' Q rx (.exc h1 h2) f o e q)
  | clo h1 h2 h3 h4 => exact .inl (snd_inE neg G H b x _ dx _ d b' Q rx (.clo h1 h2 h3 h4) f o e q)
  | cel h1 => exact .inl (snd_inE neg G H b x _ dx _ d b' Q rx (.cel h1) f o e q)
theorem d_inF (hu : X.A.units + 64 < cLine) (ha : DE X a f) (hb : DE X b g) (hm : behindInMarks .In b = false := by rfl) : DE X (.Compare a [.In] [b] pos) (e2 (inF false) f g) := d_cmp (op_inE.or (op_din (by omega))) (snd_inF false) ha hb hm
def rDIx : R2 := fun x y H Q => ∃ p v, x = .ref p ∧ DGet H p y (some v) ∧ Q v H
theorem ix_dict (hu : X.A.units + 1 < cLine) : IxR X rDIx := by
  intro value slice pins s σ H x y o i Q I rx ry h hs
  obtain ⟨p, v, rfl, g, q⟩ := h
  obtain rfl : o = Value.ref p := rx
  have hT := dict_typeIs I g
  have h₂ := d_getItem (A := X.A) (E := X.xe) (Q := fun r s3 => EP X pins σ Q r s3) hu I g ry fun w' s3 I3 rw' => ⟨v, H, I3, rw', q⟩
  unfold PyProof.Rows.subscriptTail
  refine wpAny_bind ?_
  rw [getitemInPython_of_ne hT.not_modules]
  refine wpAny_bind (wpAny_specialOf hT PySem.F.slot_dict_getitem.lookup ?_)
  have fin : wpAny (model X.prog X.w) X.A (subscripted slice false (.ref p) i) (fun r s₃ => wpAny (model X.prog X.w) X.A (letTemporaryGo value (.ref p) r >>= fun _ => pure r) (EP X pins σ Q) X.xe s₃) X.xe s := by
    rw [hs]
    exact wpAny_operating (wpAny_mono h₂ (fun r s₃ h₃ => wpAny_bind (wpAny_letTemporaryGo (wpAny_pure h₃))) fun _ _ x => x)
  first
    | exact wpAny_pure (wpAny_bind fin)
    | exact wpAny_bind (wpAny_pure (wpAny_bind fin))
    | exact wpAny_bind fin
def ixF : D → D → M D
  | .dct ks ds, y => match keyD y with
    | some k => M.of (getK ks ds k)
    | none => M.fail
  | x, y => ixD x y
theorem snd_ixF : SndR X.K (fun x y H Q => rIx X.K x y H Q ∨ rDIx x y H Q) ixF := by
  intro G H b x y dx dy d b' Q rx ry f o e q
  cases rx with
  | @dct p ks vs ds hg hl rl =>
    have e : (match keyD dy with | some k => M.of (getK ks ds k) | none => M.fail) b = some (d, b') := e
    cases ek : keyD dy with
    | none => rw [ek] at e; cases e
    | some k =>
      rw [ek] at e
      obtain ⟨e1, rfl⟩ := M.of_some' e
      have hk := keyD_of ry ek
      subst hk
      obtain ⟨k1, _⟩ := RpL.getK k (ks := ks) rl
      obtain ⟨v, h1, h2⟩ := k1 d e1
      refine .inr ⟨p, v, rfl, .inl ⟨_, k, SameF.rd f hg, rfl, ?_⟩, q _ G H (Nxt.refl f o) h2⟩
      rw [valV_zip, h1]
  | non => exact .inl (snd_ix G H b _ y _ dy d b' Q .non ry f o e q)
  | bl k => exact .inl (snd_ix G H b _ y _ dy d b' Q (.bl k) ry f o e q)
  | int k => exact .inl (snd_ix G H b _ y _ dy d b' Q (.int k) ry f o e q)
  | str k => exact .inl (snd_ix G H b _ y _ dy d b' Q (.str k) ry f o e q)
  | lst h1 h2 => exact .inl (snd_ix G H b _ y _ dy d b' Q (.lst h1 h2) ry f o e q)
  | tup h1 h2 => exact .inl (snd_ix G H b _ y _ dy d b' Q (.tup h1 h2) ry f o e q)
  | dcT h1 h2 h3 => exact .inl (snd_ix G H b _ y _ dy d b' Q (.dcT h1 h2 h3) ry f o e q)
  | obj h1 h2 h3 h4 => exact .inl (snd_ix G H b _ y _ dy d b' Q (.obj h1 h2 h3 h4) ry f o e q)
  | bag p => exact .inl (snd_ix G H b _ y _ dy d b' Q (.bag p) ry f o e q)
  | scr h => exact .inl (snd_ix G H b _ y _ dy d b' Q (.scr h) ry f o e q)
  | exc h1 h2 => exact .inl (snd_ix G H b _ y _ dy d b' Q (.exc h1 h2) ry f o e q)
  | clo h1 h2 h3 h4 => exact .inl (snd_ix G H b _ y _ dy d b' Q (.clo h1 h2 h3 h4) ry f o e q)
  | cel h1 => exact .inl (snd_ix G H b _ y _ dy d b' Q (.cel h1) ry f o e q)
theorem d_ixF (hu : X.A.units + 64 < cLine) (ha : DE X a f) (hb : DE X b g) (hp : PlainIx b := by exact fun _ _ => rfl) : DE X (.Subscript a b pos) (e2 ixF f g) := d_ix0 (ix_seq.or (ix_dict (by omega))) snd_ixF ha hb hp
def rLenK : List V → Hp → VK → Prop := fun xs H Q => ∃ p kvs, xs = [V.ref p] ∧ Rd H p (.dK kvs) ∧ Q (.int kvs.length) H
def rLenTR : List V → Hp → VK → Prop := fun xs H Q => ∃ p kvs, xs = [V.ref p] ∧ Rd H p (.dT kvs) ∧ Q (.int kvs.length) H
theorem call_lenK {X : Cx} : CallR X (.builtin "len") rLenK := by
  rintro pins s σ H xs us Q I r ⟨p, kvs, rfl, hp, q⟩
  obtain ⟨u, rfl, ru⟩ := vals1 r
  cases ru
  exact L2.d_len I hp fun t s2 I2 => ⟨.int kvs.length, H, I2, ⟨t, rfl⟩, q⟩
theorem call_lenTR {X : Cx} : CallR X (.builtin "len") rLenTR := by
  rintro pins s σ H xs us Q I r ⟨p, kvs, rfl, hp, q⟩
  obtain ⟨u, rfl, ru⟩ := vals1 r
  cases ru
  obtain ⟨z, hd, ys, rel, dd⟩ := dt_rd I.hok hp
  have hl : kvs.length = ys.length := Paired.length rel
  refine call_len_dictH hd dd (by have := sizeLine_eq; omega) ?_
  rw [← hl]
  exact ⟨.int (kvs.length : Nat), H, I.tok _, ⟨_, rfl⟩, q⟩
def lenG : List D → M D
  | [.dct ks ds] => M.ret (.int ks.length)
  | [.dcT ks ds] => M.ret (.int ks.length)
  | xs => lenF xs
theorem snd_lenG : SndC X.K (fun xs H Q => (∃ x n, xs = [x] ∧ LenV X.K x H n ∧ Q (.int n) H) ∨ (rLenK xs H Q ∨ rLenTR xs H Q)) lenG := by
  intro G H b vs ds d b' Q r fz ob e q
  unfold lenG at e
  split at e
  · obtain ⟨v, rfl, r1⟩ := r.one
    cases r1 with
    | @dct p ks vs ds hg hl rl =>
      cases e
      refine .inr (.inl ⟨p, _, rfl, SameF.rd fz hg, ?_⟩)
      rw [List.length_zip, ← hl, Nat.min_self]
      exact q _ G H (Nxt.refl fz ob) (.int _)
  · obtain ⟨v, rfl, r1⟩ := r.one
    cases r1 with
    | @dcT p ks vs ds hg hl rl =>
      cases e
      refine .inr (.inr ⟨p, _, rfl, SameF.rd fz hg, ?_⟩)
      rw [List.length_zip, ← hl, Nat.min_self]
      exact q _ G H (Nxt.refl fz ob) (.int _)
  · exact .inl (snd_len G H b vs _ d b' Q r fz ob e q)
theorem d_lenG {e : Expr} {fa : Env → M (List D)} {p : Pos} (hg : Gl X "len") (hm : X.mg "len" = none) (ha : DA X [e] fa) (he : starEach [e] X.env = (false, eval e X.env) :: starEach [] X.env := by rfl) : DE X (.Call (.Name "len" p) [e] [] pos) (eCall lenG fa) :=
  d_callB (call_len.or (call_lenK.or call_lenTR)) snd_lenG hg hm (by decide +kernel) ha (he := he)
def setDM (i : Nat) (o : O) (ρ : Env2) : M Out := M.ret (.nx (ρ.set i (some (.tr o))))
theorem s_set0K (i : Nat) {x : Str} {pos' p2 : Pos} (hN : X.N.Nodup) (hi : X.N[i]? = some x) (hx : Loc X.env.scope x) (hs : swapsWith (.Dict [] [] p2) (some (.Name x pos')) pos.line X.env = pure false := by rfl)
    (hf : X.fn x = true ∨ X.env.scope.names.lookup x = some .local := by first | exact .inl rfl | exact .inr rfl | assumption) : DS X (.Assign [.Name x pos'] (.Dict [] [] p2) pos) (setDM i (.k [] [])) := by
  refine PSimp (ps_set hN hi hx pe_dnewK hs hf) ?_
  rintro D σ H ⟨E, ρ, G, b, o, b', I, e, q⟩
  cases e
  intro p hp
  have n : Nxt (I.gp []) H b (I.gp []) (upd H p (.dK [])) b := Nxt.newH (I.gp2 []) (I.gpb []) hp
  obtain ⟨fp, w, fr⟩ := I.flatW n
  refine q _ G _ ((I.flat n).setTree (s := .tr (.k [] [])) (fq := [p]) rfl (.k (vs := []) (xs := []) (fp := []) upd_same rfl .nil) (by simp) (fun a ha => ?_) w fun a ha j hf => ?_)
  · simp at ha
    subst ha
    exact ⟨I.fresh hp, gnone I.fz hp, bag_ne I.bag hp, by rw [upd_same]; exact fun z => nomatch z⟩
  · simp at ha
    subst ha
    exact fr j a hf hp
end
theorem OwL.append {K : PySem.W.Frag} {G H : Hp} : ∀ {vs ws : List V} {xs ys : List O} {fp fq : List Addr}, OwL K G H vs xs fp → OwL K G H ws ys fq → OwL K G H (vs ++ ws) (xs ++ ys) (fp ++ fq)
  | _, _, _, _, _, _, .nil, h => h
  | _, _, _, _, _, _, .cons a b, h => by
    rw [List.append_assoc]
    exact .cons a (OwL.append b h)
theorem OwL.setVs {κ : Type} [DecidableEq κ] {K : PySem.W.Frag} {G H : Hp} {v : V} {d : D} (r : Rp K G v d) {ks : List κ} {k : κ} {vs : List V} {os : List O} {fp : List Addr} (rl : OwL K G H vs os fp) : ∃ fq, OwL K G H (DL.setVs ks vs k v) (DL.setVs ks os k (.v d)) fq ∧ fq.Sublist fp := by
  unfold DL.setVs
  by_cases e : k ∈ ks
  · rw [if_pos e, if_pos e]
    clear e
    unfold repK
    induction ks generalizing vs os fp with
    | nil => exact ⟨[], .nil, List.nil_sublist _⟩
    | cons a ks ih =>
      cases rl with
      | nil => exact ⟨[], .nil, List.nil_sublist _⟩
      | @cons v1 vs1 x1 xs1 f1 f2 r1 r2 =>
        obtain ⟨fq, h1, h2⟩ := ih r2
        rw [List.zip_cons_cons, List.zip_cons_cons, List.map_cons, List.map_cons]
        by_cases e : a = k
        · simp only [e, if_pos]
          exact ⟨[] ++ fq, .cons (.v r) h1, by rw [List.nil_append]; exact h2.trans (List.sublist_append_right _ _)⟩
        · simp only [e, if_false]
          exact ⟨f1 ++ fq, .cons r1 h1, List.Sublist.append (List.Sublist.refl _) h2⟩
  · rw [if_neg e, if_neg e]
    refine ⟨fp ++ ([] ++ []), rl.append (.cons (.v r) .nil), by simp⟩
section
variable {X : Cx} {a b : Expr} {f g : Env → M D} {pos : Pos}
def dputK (ρ : Env2) (j : Nat) (k : Option Key) (d : D) : Option (Option Slot) → M Out
  | some (some (.tr (.k ks os))) => match k with
    | some k => M.guard (decide (ks.length < sizeLine)) (M.ret (.nx (ρ.set j (some (.tr (.k (setKs ks k) (setVs ks os k (.v d))))))))
    | none => M.fail
  | _ => M.fail
def dputM (j : Nat) (ms : List Nat) (fv fk : Env → M D) (ρ : Env2) : M Out := M.bind (fv (view ms ρ)) fun d => M.bind (fk (view ms (keepIf d.flat ms ρ))) fun y => dputK (keepIf d.flat ms ρ) j (keyD y) d (keepIf d.flat ms ρ)[j]?
theorem s_dput (j : Nat) (ms : List Nat) {x : Str} {i e : Expr} {fv fk : Env → M D} {p pos' : Pos} (hu : X.A.units + 64 < cLine) (hi : DE X i fk) (he : DE X e fv) (hN : X.N[j]? = some x := by rfl) (hv : Vis X.env.scope x := by first | exact Or.inl rfl | exact Or.inr (Or.inl rfl) | exact Or.inr (Or.inr rfl))
    (hd : (x == ("__debug__" : Str)) = false := by decide) (hcd : (x == ("__classdict__" : Str)) = false := by decide) (hs : swapsWith e (some (.Subscript (.Name x p) i pos')) pos.line X.env = pure false := by rfl) :
    DS X (.Assign [.Subscript (.Name x p) i pos'] e pos) (dputM j ms fv fk) := by
  refine PSimp (ps_dput (by omega) (pe_var hN hv hd hcd) hi he hs) ?_
  rintro D σ H ⟨E, ρ, G, b, o, b', I, e, q⟩
  obtain ⟨d, b1, e1, e2⟩ := M.bind_some e
  obtain ⟨y, b2, e2, e3⟩ := M.bind_some e2
  refine ⟨_, _, b, d, b1, I.rs ms, I.gp2 ms, I.gpb ms, e1, fun v G1 H1 n1 r => ?_⟩
  obtain ⟨G2, I2, r2⟩ := I.after n1 r
  obtain ⟨ks, os, ej⟩ : ∃ ks os, (keepIf d.flat ms ρ)[j]? = some (some (.tr (.k ks os))) := by
    cases ej : (keepIf d.flat ms ρ)[j]? with
    | none => rw [ej] at e3; cases e3
    | some s => cases s with
      | none => rw [ej] at e3; cases e3
      | some s => cases s with
        | val _ => rw [ej] at e3; cases e3
        | own _ => rw [ej] at e3; cases e3
        | tr o => cases o with
          | k ks os => exact ⟨ks, os, rfl⟩
          | v _ => rw [ej] at e3; cases e3
          | l _ => rw [ej] at e3; cases e3
          | t _ _ => rw [ej] at e3; cases e3
          | u _ => rw [ej] at e3; cases e3
  rw [ej] at e3
  · cases ek : keyD y with
    | none => rw [ek] at e3; cases e3
    | some k =>
      rw [ek] at e3
      obtain ⟨hz, e4⟩ := M.guard_some e3
      cases e4
      obtain ⟨fp0, w0⟩ := I2.own
      obtain ⟨u, hu1, _⟩ := w0.at_ j _ _ ej rfl
      refine ⟨u, hu1, ?_⟩
      refine ⟨_, _, b1, y, b', I2.rs ms, I2.gp2 ms, I2.gpb ms, e2, fun v2 G3 H3 n3 r3 => ?_⟩
      have I3 := I2.flat n3
      obtain ⟨fp, w⟩ := I3.own
      obtain ⟨u', hu2, ow⟩ := w.at_ j _ _ ej rfl
      rw [hu1] at hu2
      cases hu2
      generalize hf : fp j = fj at ow
      cases ow with
      | @k pa _ vs _ fpv hpa hl rl =>
        have hky := keyD_of r3 ek
        subst hky
        have hlv : vs.length = os.length := rl.length
        refine ⟨pa, _, rfl, .inl ⟨_, k, hpa, rfl, ?_, rfl⟩, ?_⟩
        · rw [List.length_zip, ← hl, Nat.min_self]
          exact of_decide_eq_true hz
        · rw [putK_zip ks vs k v hl]
          have hnd := w.nd j
          rw [hf, List.nodup_cons] at hnd
          obtain ⟨fq, o1, o2⟩ := OwL.setVs (ks := ks) (k := k) r2 rl
          refine q σ G2 _ (I3.retree (s' := .tr (.k (setKs ks k) (setVs ks os k (.v d)))) (fq := pa :: fq) ej rfl hu1 w (.k upd_same (setK_len ks vs k v hl) (o1.mono (fun _ _ h => h) fun a ha => upd_ne fun z => hnd.1 (by rw [← z]; exact o2.subset ha))) ?_ (fun a ha => ?_) (fun a hf' _ => upd_ne fun z => hf' (by rw [z, hf]; exact List.mem_cons_self)))
          · rw [List.nodup_cons]
            exact ⟨fun h => hnd.1 (o2.subset h), hnd.2.sublist o2⟩
          · rcases List.mem_cons.mp ha with rfl | ha
            · exact .inl ⟨by rw [hf]; exact List.mem_cons_self, by rw [upd_same]; exact fun z => nomatch z⟩
            · have hm : a ∈ fp j := by rw [hf]; exact List.mem_cons_of_mem _ (o2.subset ha)
              refine .inl ⟨hm, ?_⟩
              rw [upd_ne fun z => hnd.1 (by rw [← z]; exact o2.subset ha)]
              exact (w.ok j a hm).2.2.2
end
end DL
set_option Elab.async false
set_option maxRecDepth 100000
set_option autoImplicit false
set_option linter.unusedVariables false
set_option maxHeartbeats 4000000
namespace DL
open PySem L2
variable [TAB : TabList]
variable [EFF : Eff]
set_option linter.unusedSectionVars false
mutual
def O.fl : O → Bool
  | .v d => d.flat
  | .l xs => O.fls xs
  | .k _ xs => O.fls xs
  | .t _ xs => O.fls xs
  | .u _ => false
def O.fls : List O → Bool
  | [] => true
  | x :: r => x.fl && O.fls r
end
mutual
theorem Ow.flat_any {K : PySem.W.Frag} {G G' H : Hp} : ∀ {v : V} {o : O} {fp : List Addr}, Ow K G H v o fp → o.fl = true → Ow K G' H v o fp
  | _, _, _, .v r, h => .v (r.flat_any h)
  | _, _, _, .l hp r, h => .l hp (OwL.flat_any r h)
  | _, _, _, .k hp hl r, h => .k hp hl (OwL.flat_any r h)
  | _, _, _, .t hp hl r, h => .t hp hl (OwL.flat_any r h)
  | _, _, _, .u _ _, h => by cases h
theorem OwL.flat_any {K : PySem.W.Frag} {G G' H : Hp} : ∀ {vs : List V} {os : List O} {fp : List Addr}, OwL K G H vs os fp → O.fls os = true → OwL K G' H vs os fp
  | _, _, _, .nil, _ => .nil
  | _, _, _, .cons a b, h => by
    have h : (_ && _) = true := h
    rw [Bool.and_eq_true] at h
    exact .cons (Ow.flat_any a h.1) (OwL.flat_any b h.2)
end
def NewIn (H G' H' : Hp) (fp : List Addr) : Prop := (∀ a ∈ fp, H a = none ∧ G' a = none ∧ H' a ≠ none) ∧ fp.Nodup
def tO (K : PySem.W.Frag) (f : Env → M O) : TE := fun σ H Q => ∃ ρ G b o b', RS K G σ ρ ∧ SameF G H ∧ BagOk G H b ∧ f ρ b = some (o, b') ∧
  ∀ v fp G' H', Nxt G H b G' H' b' → NewIn H G' H' fp → Ow K G' H' v o fp → Q v H'
def tOA (K : PySem.W.Frag) (f : Env → M (List O)) : TA := fun σ H Q => ∃ ρ G b os b', RS K G σ ρ ∧ SameF G H ∧ BagOk G H b ∧ f ρ b = some (os, b') ∧
  ∀ vs fp G' H', Nxt G H b G' H' b' → NewIn H G' H' fp → OwL K G' H' vs os fp → Q vs H'
abbrev DOw (X : Cx) (e : Expr) (f : Env → M O) : Prop := PE X e (tO X.K f)
abbrev DOA (X : Cx) (es : List Expr) (f : Env → M (List O)) : Prop := PA X es (tOA X.K f)
def oV (f : Env → M D) : Env → M O := fun ρ => M.bind (f ρ) fun d => M.ret (.v d)
def oL (f : Env → M (List D)) : Env → M O := fun ρ => M.bind (f ρ) fun xs => M.ret (.l (xs.map O.v))
def oC (o : O) : Env → M O := fun _ => M.ret o
def oaN : Env → M (List O) := fun _ => M.ret []
def oaC (f : Env → M O) (g : Env → M (List O)) : Env → M (List O) := fun ρ => M.bind (f ρ) fun x => M.bind (g ρ) fun xs => M.ret (x :: xs)
section
variable {X : Cx} {pos : Pos}
theorem do_v {e : Expr} {f : Env → M D} (h : DE X e f) : DOw X e (oV f) := by
  refine PEimp h ?_
  rintro σ H Q ⟨ρ, G, b, d, b', rs, fz, ob, e, q⟩
  obtain ⟨x, b1, e1, e2⟩ := M.bind_some e
  cases e2
  exact ⟨ρ, G, b, x, b', rs, fz, ob, e1, fun v G' H' n r => q v [] G' H' n ⟨fun a ha => (nomatch ha), List.nodup_nil⟩ (.v r)⟩
theorem do_n {e : Expr} {f : Env → M (List D)} (h : DN X e f) : DOw X e (oL f) := by
  refine PEimp h ?_
  rintro σ H Q ⟨ρ, G, b, d, b', rs, fz, ob, e, q⟩
  obtain ⟨xs, b1, e1, e2⟩ := M.bind_some e
  cases e2
  refine ⟨ρ, G, b, xs, b', rs, fz, ob, e1, fun p vs G' H' n hp gp hh r => q (.ref p) [p] G' H' n ⟨fun a ha => ?_, by simp⟩ (.l hh (OwL.flat r))⟩
  simp at ha
  subst ha
  exact ⟨hp, gp, by rw [hh]; exact fun z => nomatch z⟩
theorem do_0T : DOw X (.Dict [] [] pos) (oC (.t [] [])) := by
  refine PEimp pe_dnewT ?_
  rintro σ H Q ⟨ρ, G, b, d, b', rs, fz, ob, e, q⟩
  cases e
  intro p hp
  refine q (.ref p) [p] G _ (Nxt.newH fz ob hp) ⟨fun a ha => ?_, by simp⟩ (.t (vs := []) upd_same rfl .nil)
  simp at ha
  subst ha
  exact ⟨hp, gnone fz hp, by rw [upd_same]; exact fun z => nomatch z⟩
theorem oa_nil : DOA X [] oaN := by
  refine PAimp pa_nil ?_
  rintro σ H Q ⟨ρ, G, b, d, b', r, f, o, e, q⟩
  cases e
  exact q [] [] G H (Nxt.refl f o) ⟨fun a ha => (nomatch ha), List.nodup_nil⟩ .nil
theorem NewIn.later {G H G1 H1 G2 H2 : Hp} {b b1 b2 : Bs} {fp : List Addr} (ob : BagOk G H b) (n1 : Nxt G H b G1 H1 b1) (n2 : Nxt G1 H1 b1 G2 H2 b2) (h : NewIn H G1 H1 fp) : NewIn H G2 H2 fp ∧ ∀ a ∈ fp, H2 a = H1 a := by
  have key : ∀ a ∈ fp, H2 a = H1 a := fun a ha => by
    obtain ⟨k1, k2, k3⟩ := h.1 a ha
    obtain ⟨u, hu⟩ := some_of k3
    rw [n2.keep a u hu (by rw [← Bs.like_at n1.like]; exact bag_ne ob k1), hu]
  refine ⟨⟨fun a ha => ?_, h.2⟩, key⟩
  obtain ⟨k1, k2, k3⟩ := h.1 a ha
  obtain ⟨u, hu⟩ := some_of k3
  exact ⟨k1, n2.new a u hu k2, by rw [key a ha]; exact k3⟩
theorem oa_cons {e : Expr} {es : List Expr} {f : Env → M O} {g : Env → M (List O)} (ha : DOw X e f) (hr : DOA X es g) (hs : starEach (e :: es) X.env = (false, eval e X.env) :: starEach es X.env := by rfl) : DOA X (e :: es) (oaC f g) := by
  refine PAimp (pa_cons ha hr hs) ?_
  rintro σ H Q ⟨ρ, G, b, d, b', rs, fz, ob, e, q⟩
  obtain ⟨x, b1, e1, e⟩ := M.bind_some e
  obtain ⟨xs, b2, e2, e3⟩ := M.bind_some e
  cases e3
  refine ⟨ρ, G, b, x, b1, rs, fz, ob, e1, fun v fp G1 H1 n1 w1 r1 => ?_⟩
  refine ⟨ρ, G1, b1, xs, b', rs.mono n1.gg, n1.fz, n1.bag, e2, fun vs fq G2 H2 n2 w2 r2 => ?_⟩
  obtain ⟨w1', k⟩ := w1.later ob n1 n2
  refine q (v :: vs) (fp ++ fq) G2 H2 (n1.trans n2) ⟨fun a ha => ?_, ?_⟩ (.cons (r1.mono n2.gg k) r2)
  · rcases List.mem_append.mp ha with h | h
    · exact w1'.1 a h
    · obtain ⟨k1, k2, k3⟩ := w2.1 a h
      exact ⟨n1.free k1, k2, k3⟩
  · rw [List.nodup_append]
    refine ⟨w1.2, w2.2, fun a h1 c h2 z => ?_⟩
    subst z
    exact (w1.1 a h1).2.2 (w2.1 a h2).1
end
theorem OwL.two {K : PySem.W.Frag} {G H : Hp} {v1 v2 : V} {o1 o2 : O} {fq : List Addr} (r : OwL K G H [v1, v2] [o1, o2] fq) : ∃ f1 f2, Ow K G H v1 o1 f1 ∧ Ow K G H v2 o2 f2 ∧ fq = f1 ++ f2 := by
  cases r with
  | @cons _ _ _ _ f1 f2 a b =>
    cases b with
    | @cons _ _ _ _ f3 f4 c d =>
      cases d
      exact ⟨f1, f3, a, c, by rw [List.append_nil]⟩
def leafs : List O → Option (List D)
  | [] => some []
  | .v d :: r => (leafs r).map (d :: ·)
  | _ => none
theorem leafs_map : ∀ xs : List D, leafs (xs.map O.v) = some xs
  | [] => rfl
  | x :: r => by show (leafs (r.map O.v)).map (x :: ·) = _; rw [leafs_map r]; rfl
theorem leafs_some : ∀ {os : List O} {ds : List D}, leafs os = some ds → os = ds.map O.v
  | [], _, h => by cases h; rfl
  | .v d :: r, ds, h => by
    have h : (leafs r).map (d :: ·) = some ds := h
    cases e : leafs r with
    | none => rw [e] at h; cases h
    | some l => rw [e] at h; cases h; rw [leafs_some e]; rfl
  | .l _ :: _, _, h => by cases h
  | .k _ _ :: _, _, h => by cases h
  | .t _ _ :: _, _, h => by cases h
  | .u _ :: _, _, h => by cases h
def slotO : O → Slot
  | .v d => .val d
  | .l xs => match leafs xs with
    | some ds => .own ds
    | none => .tr (.l xs)
  | .k ks xs => .tr (.k ks xs)
  | .t ks xs => .tr (.t ks xs)
  | .u xs => .tr (.u xs)
theorem slotO_tree : ∀ o : O, (∃ d, o = .v d ∧ slotO o = .val d) ∨ (slotO o).tree = some o
  | .v d => .inl ⟨d, rfl, rfl⟩
  | .k ks xs => .inr rfl
  | .t ks xs => .inr rfl
  | .u xs => .inr rfl
  | .l xs => by
    refine .inr ?_
    show (match leafs xs with | some ds => Slot.own ds | none => .tr (.l xs)).tree = _
    cases e : leafs xs with
    | none => rfl
    | some ds => show some (O.l (ds.map O.v)) = _; rw [leafs_some e]
section
variable {K : PySem.W.Frag} {E : En} {σ : L2.St} {ρ : Env2} {G H : Hp} {b : Bs}
theorem SI.setO (I : SI K E σ ρ G H b) (i : Nat) {v : V} {o : O} {fq : List Addr} (hw : Ow K G H v o fq) (nd : fq.Nodup) (ok : ∀ a ∈ fq, E.H a = none ∧ G a = none ∧ ¬ b.hit a ∧ H a ≠ none) {fp : Nat → List Addr} (w : OwnAll K E.H σ ρ G H b fp) (dis : ∀ a ∈ fq, ∀ j, a ∉ fp j) :
    SI K E (σ.set i (some v)) (ρ.set i (some (slotO o))) G H b ∧ ∃ fp', OwnAll K E.H (σ.set i (some v)) (ρ.set i (some (slotO o))) G H b fp' ∧ ∀ j a, a ∈ fp' j → a ∈ fp j ∨ a ∈ fq := by
  rcases slotO_tree o with ⟨d, rfl, e⟩ | e
  · cases hw with
    | v r =>
      rw [e]
      refine ⟨I.set r, fp, ⟨fun j s o' h1 h2 => ?_, w.ok, w.nd, w.dj⟩, fun j a ha => .inl ha⟩
      by_cases hj : i = j
      · subst hj
        obtain ⟨e, hi⟩ := set_self h1
        subst e
        cases h2
      · obtain ⟨u, e1, e2⟩ := w.at_ j s o' (set_old hj h1) h2
        exact ⟨u, by rw [List.getElem?_set_ne hj]; exact e1, e2⟩
  · refine ⟨I.setTree e hw nd ok w dis, fun j => if j = i then fq else fp j, ⟨fun j s' o' h1 h2 => ?_, fun j a ha => ?_, fun j => ?_, fun j k a ha hb => ?_⟩, fun j a ha => ?_⟩
    · by_cases hj : i = j
      · subst hj
        obtain ⟨e2, hi⟩ := set_self h1
        rw [e2, e] at h2
        cases h2
        refine ⟨v, List.getElem?_set_self (Nat.lt_of_lt_of_le hi I.len), ?_⟩
        show Ow K G H v o (if i = i then fq else fp i)
        rw [if_pos rfl]
        exact hw
      · obtain ⟨u, e1, e2⟩ := w.at_ j s' o' (set_old hj h1) h2
        refine ⟨u, by rw [List.getElem?_set_ne hj]; exact e1, ?_⟩
        show Ow K G H u o' (if j = i then fq else fp j)
        rw [if_neg (Ne.symm hj)]
        exact e2
    · have ha : a ∈ (if j = i then fq else fp j) := ha
      split at ha
      · exact ok a ha
      · exact w.ok j a ha
    · show (if j = i then fq else fp j).Nodup
      split
      · exact nd
      · exact w.nd j
    · have ha : a ∈ (if j = i then fq else fp j) := ha
      have hb : a ∈ (if k = i then fq else fp k) := hb
      split at ha
      · rename_i ej
        split at hb
        · rename_i ek; rw [ej, ek]
        · exact absurd hb (dis a ha k)
      · split at hb
        · exact absurd ha (dis a hb j)
        · exact w.dj j k a ha hb
    · have ha : a ∈ (if j = i then fq else fp j) := ha
      split at ha
      · exact .inr ha
      · exact .inl ha
end
section
variable {X : Cx} {pos : Pos}
theorem SI.afterO {K : PySem.W.Frag} {E : En} {σ : L2.St} {ρ : Env2} {G H G' H' : Hp} {b b' : Bs} (I : SI K E σ ρ G H b) {ms : List Nat} (n : Nxt (I.gp ms) H b G' H' b') {vs : List V} {os : List O} {fq : List Addr} (r : OwL K G' H' vs os fq) (nw : NewIn H G' H' fq) :
    ∃ G2, SI K E σ (keepIf (O.fls os) ms ρ) G2 H' b' ∧ OwL K G2 H' vs os fq ∧ (∀ a ∈ fq, E.H a = none ∧ G2 a = none ∧ ¬ b'.hit a ∧ H' a ≠ none) ∧ ∃ fp, OwnAll K E.H σ (keepIf (O.fls os) ms ρ) G2 H' b' fp ∧ ∀ j a, a ∈ fp j → H a ≠ none := by
  unfold keepIf
  have nb : ∀ a ∈ fq, ¬ b'.hit a := fun a ha => by rw [← Bs.like_at n.like]; exact bag_ne I.bag (nw.1 a ha).1
  cases e : O.fls os with
  | true => exact ⟨G, I.flat n, r.flat_any e, fun a ha => ⟨I.fresh (nw.1 a ha).1, gnone I.fz (nw.1 a ha).1, nb a ha, (nw.1 a ha).2.2⟩, I.flatW n⟩
  | false => exact ⟨G', I.frz n, r, fun a ha => ⟨I.fresh (nw.1 a ha).1, (nw.1 a ha).2.1, nb a ha, (nw.1 a ha).2.2⟩, I.frzW n⟩
def parOK (i j : Nat) (ms : List Nat) (ρ : Env2) : List O → M Out
  | [o1, o2] => M.ret (.nx (((keepIf (O.fls [o1, o2]) ms ρ).set i (some (slotO o1))).set j (some (slotO o2))))
  | _ => M.fail
def parOM (i j : Nat) (ms : List Nat) (f : Env → M (List O)) (ρ : Env2) : M Out := M.bind (f (view ms ρ)) (parOK i j ms ρ)
theorem s_parO (i j : Nat) (ms : List Nat) {x y : Str} {a b : Expr} {f : Env → M (List O)} {px py pt : Pos} {kt k2 pt2} (hc : X.calm = true) (hN : X.N.Nodup) (hi : X.N[i]? = some x) (hj : X.N[j]? = some y) (hij : i ≠ j)
    (hx : X.env.scope.names.lookup x = some .local) (hy : X.env.scope.names.lookup y = some .local) (ha : DOA X [a, b] f)
    (hw : swappedStores [.Tuple [.Name x px, .Name y py] kt pt] (.Tuple [a, b] k2 pt2) X.env = pure (some [x, y]) := by rfl)
    (hs : swapsWithSole [.Tuple [.Name x px, .Name y py] kt pt] (.Tuple [a, b] k2 pt2) pos.line X.env = pure false := by rfl) :
    DS X (.Assign [.Tuple [.Name x px, .Name y py] kt pt] (.Tuple [a, b] k2 pt2) pos) (parOM i j ms f) := by
  refine PSimp (ps_par hc hN hi hj hij hx hy ha hw hs) ?_
  rintro D σ H ⟨E, ρ, G, b, o, b', I, e, q⟩
  obtain ⟨os, b1, e1, e2⟩ := M.bind_some e
  refine ⟨_, _, b, os, b1, I.rs ms, I.gp2 ms, I.gpb ms, e1, fun vs fq G1 H1 n1 nw r => ?_⟩
  clear e
  match os, e2, r with
  | [o1, o2], e2, .cons (v := v1) (fp := f1) r1 (.cons (v := v2) (fp := f2) r2 .nil) =>
    cases e2
    refine ⟨_, _, rfl, ?_⟩
    obtain ⟨G2, I2, rr, ok, fp, w, fr⟩ := I.afterO n1 (OwL.cons r1 (.cons r2 .nil)) nw
    obtain ⟨g1, g2, h1, h2, hq⟩ := rr.two
    rw [hq] at ok nw
    have nd := List.nodup_append.mp nw.2
    obtain ⟨I3, fp3, w3, sub3⟩ := I2.setO i h1 nd.1 (fun a ha => ok a (List.mem_append_left _ ha)) w fun a ha j hf => fr j a hf (nw.1 a (List.mem_append_left _ ha)).1
    refine q _ G2 H1 (I3.setO j h2 nd.2.1 (fun a ha => ok a (List.mem_append_right _ ha)) w3 fun a ha k hf => ?_).1
    rcases sub3 k a hf with z | z
    · exact fr k a z (nw.1 a (List.mem_append_right _ ha)).1
    · exact nd.2.2 a z a ha rfl
end
end DL
set_option Elab.async false
set_option maxRecDepth 100000
set_option autoImplicit false
set_option linter.unusedVariables false
set_option maxHeartbeats 4000000
namespace DL
open PySem L2
variable [TAB : TabList]
variable [EFF : Eff]
set_option linter.unusedSectionVars false
section
variable {X : Cx} {pos : Pos}
end
end DL
set_option Elab.async false
set_option maxRecDepth 100000
set_option autoImplicit false
set_option linter.unusedVariables false
set_option maxHeartbeats 4000000
namespace DL
open PySem L2
variable [TAB : TabList]
variable [EFF : Eff]
set_option linter.unusedSectionVars false
section
variable {X : Cx} {pos : Pos}
end
end DL
set_option Elab.async false
set_option maxRecDepth 100000
set_option autoImplicit false
set_option linter.unusedVariables false
set_option maxHeartbeats 4000000
namespace DL
open PySem L2
theorem ixD_l (x : List D) (i : Int) : ixD (.lst x) (.int i) = M.of (atI x i) := rfl
theorem ixD_t (x : List D) (i : Int) : ixD (.tup x) (.int i) = M.of (atI x i) := rfl
theorem ofSome {α : Type} (a : α) : M.of (some a) = M.ret a := rfl
theorem atI_0 {α : Type} (a : α) (l : List α) : atI (a :: l) 0 = some a := atI_nat (j := 0) rfl
theorem atI_1 {α : Type} (a b : α) (l : List α) : atI (a :: b :: l) 1 = some b := atI_nat (j := 1) rfl
theorem atI_2 {α : Type} (a b c : α) (l : List α) : atI (a :: b :: c :: l) 2 = some c := atI_nat (j := 2) rfl
theorem atI_3 {α : Type} (a b c d : α) (l : List α) : atI (a :: b :: c :: d :: l) 3 = some d := atI_nat (j := 3) rfl
theorem atI_4 {α : Type} (a b c d e : α) (l : List α) : atI (a :: b :: c :: d :: e :: l) 4 = some e := atI_nat (j := 4) rfl
theorem atI_neg {α : Type} {xs : List α} {i : Int} (d : α) (h0 : i < 0) (h1 : -(xs.length : Int) ≤ i) : atI xs i = some (xs.getD (i + xs.length).toNat d) := by
  have hl : (i + xs.length).toNat < xs.length := by omega
  unfold atI
  have e : ixN xs.length i = some (i + xs.length).toNat := by
    unfold ixN
    rw [if_neg (by omega), if_pos h1]
  rw [e]
  simp [List.getD, List.getElem?_eq_getElem hl]
theorem atI_app {α : Type} (xs : List α) (v : α) : atI (xs ++ [v]) (-1) = some v := atI_last xs v
theorem ixD_strn {x : List Nat} {i : Int} (hz : x.length ≤ 16777216) (h0 : i < 0) (h1 : -(x.length : Int) ≤ i) : ixD (.str x) (.int i) = M.ret (.str [x.getD (i + x.length).toNat 0]) := by
  show M.guard (szS x.length) (M.of ((atI x i).map fun c => D.str [c])) = _
  rw [M.guard_of (show szS x.length = true from decide_eq_true hz), atI_neg 0 h0 h1]
  rfl
theorem ixD_str1 {x : List Nat} (hz : x.length ≤ 16777216) (h : 0 < x.length) : ixD (.str x) (.int (-1)) = M.ret (.str [x.getD (x.length - 1) 0]) := by
  rw [ixD_strn hz (by omega) (by omega)]
  congr 4
  omega
theorem ixD_strm {x : List Nat} {i : Int} (hz : x.length ≤ 16777216) (h0 : -(x.length : Int) ≤ i) (h1 : i < x.length) : ixD (.str x) (.int i) = M.ret (.str [x.getD (i % x.length).toNat 0]) := by
  by_cases h : 0 ≤ i
  · rw [ixD_str hz h h1, Int.emod_eq_of_lt h h1]
  · rw [ixD_strn hz (by omega) h0]
    have e : i % (x.length : Int) = i + x.length := by
      rw [← Int.add_emod_right, Int.emod_eq_of_lt (by omega) (by omega)]
    rw [e]
theorem intF_str {x : List Nat} (h : NumText.AllDigits x) (h1 : x ≠ []) (h2 : x.length ≤ 640) : intF [.str x] = M.ret (.int (NumText.digitsVal x : Nat)) := by
  show (match PySem.intText? ⟨x.toArray⟩ with
    | some n => M.guard (decide (x.length ≤ 640)) (M.ret (D.int n))
    | none => M.fail) = _
  rw [PySem.intText_digits (x := ⟨x.toArray⟩) (by simpa using h) (by simpa using h1) (by rw [szStr]; omega)]
  exact M.guard_of (decide_eq_true h2)
theorem intF_dig {c : Nat} (h0 : 48 ≤ c) (h1 : c ≤ 51) : intF [.str [c]] = M.ret (.int ((c : Int) - 48)) := by
  rw [intF_str (fun d hd => by simp at hd; subst hd; omega) (by simp) (by simp)]
  simp [NumText.digitsVal]
  congr 2
  omega
theorem mulD_intl {i j : Int} (h1 : -18446744073709551616 < i) (h2 : i < 18446744073709551616) : mulD (.int i) (.int j) = M.ret (.int (i * j)) := mulD_int (okM_l h1 h2)
theorem mulD_intr {i j : Int} (h1 : -18446744073709551616 < j) (h2 : j < 18446744073709551616) : mulD (.int i) (.int j) = M.ret (.int (i * j)) := mulD_int (okM_r h1 h2)
theorem slotD_obj (c i : Nat) (fs : List D) : slotD c i (.obj c fs) = M.of fs[i]? := by
  show M.guard (c == c) _ = _
  rw [show (c == c) = true by simp]
  rfl
theorem propD_obj (c : Nat) (F : List D → M D) (fs : List D) : propD c F (.obj c fs) = F [.obj c fs] := by
  unfold propD isC
  simp
theorem propN_obj (c : Nat) (F : List D → M (List D)) (fs : List D) : propN c F (.obj c fs) = F [.obj c fs] := by
  unfold propN isC
  simp
theorem isC_obj {α : Type} (c : Nat) (fs : List D) (m : M α) : M.guard (isC c (.obj c fs)) m = m := by
  unfold isC
  simp
theorem get0 {α : Type} (a : α) (l : List α) : (a :: l)[0]? = some a := rfl
theorem getS {α : Type} (a : α) (l : List α) (i : Nat) : (a :: l)[i + 1]? = l[i]? := rfl
theorem get1 {α : Type} (a : α) (l : List α) : (a :: l)[1]? = l[0]? := rfl
theorem get2 {α : Type} (a : α) (l : List α) : (a :: l)[2]? = l[1]? := rfl
theorem get3 {α : Type} (a : α) (l : List α) : (a :: l)[3]? = l[2]? := rfl
theorem bName_eq (i : Nat) (d : D) : bName i d = some [(i, d)] := rfl
theorem bTup_eq (n : Nat) (f : List D → Option (List (Nat × D))) (ds : List D) : bTup n f (.tup ds) = if ds.length = n then f ds else none := rfl
theorem bCons_eq (f : D → Option (List (Nat × D))) (g : List D → Option (List (Nat × D))) (d : D) (r : List D) : bCons f g (d :: r) = match f d, g r with
    | some l, some l' => some (l ++ l')
    | _, _ => none := rfl
theorem bNil_eq : bNil [] = some [] := rfl
theorem binF_eq {a c : Nat} (h1 : a = 48 ∨ a = 49) (h2 : c = 48 ∨ c = 49) : binF [.str [a, c], .int 2] = M.ret (.int (((a - 48) * 2 + (c - 48) : Nat) : Int)) := by
  rcases h1 with rfl | rfl <;> rcases h2 with rfl | rfl <;> rfl
theorem str01 (b : Bool) : strF [.int (if b = true then 1 else 0)] = M.ret (.str [if b = true then 49 else 48]) := by
  cases b
  · show M.guard _ _ = _
    rw [M.guard_of (by decide +kernel)]
    rfl
  · show M.guard _ _ = _
    rw [M.guard_of (by decide +kernel)]
    rfl
theorem isi_str_str (x : List Nat) : isiD "str" (.str x) = M.ret (.bl true) := rfl
theorem isi_int_int (x : Int) : isiD "int" (.int x) = M.ret (.bl true) := rfl
theorem isi_bool_int (x : Int) : isiD "bool" (.int x) = M.ret (.bl false) := rfl
theorem blsD_map {α : Type} (f : α → Bool) : ∀ xs : List α, blsD (xs.map fun a => D.bl (f a)) = some (xs.map f)
  | [] => rfl
  | a :: r => by
    show (blsD (r.map fun a => D.bl (f a))).map (f a :: ·) = _
    rw [blsD_map f r]; rfl
theorem joinF_two (a b : Nat) : joinF (.str []) (.lst [.str [a], .str [b]]) = M.ret (.str [a, b]) := by
  have := joinF_map (xs := [[a], [b]]) (by simp)
  simpa using this
theorem loop_inv {bs : D → Option (List (Nat × D))} {body : Env2 → M Out} : ∀ {xs : List D} {I : Nat → Env2 → Prop} {ρ : Env2}, (∀ i x ρ, xs[i]? = some x → I i ρ → ∃ l ρ', bs x = some l ∧ (body (setAll2 ρ l) = M.ret (.nx ρ') ∨ body (setAll2 ρ l) = M.ret (.ct ρ')) ∧ I (i + 1) ρ') → I 0 ρ → ∃ ρ', loopM bs body xs ρ = M.ret (.nx ρ') ∧ I xs.length ρ'
  | [], I, ρ, _, h0 => ⟨ρ, rfl, h0⟩
  | x :: xs, I, ρ, h, h0 => by
    obtain ⟨l, ρ', e1, e2, h1⟩ := h 0 x ρ rfl h0
    obtain ⟨ρ2, e3, h2⟩ := loop_inv (xs := xs) (I := fun i => I (i + 1)) (ρ := ρ') (fun i y ρ hy hi => h (i + 1) y ρ (by simpa using hy) hi) h1
    refine ⟨ρ2, ?_, by simpa using h2⟩
    unfold loopM
    rw [e1]
    rcases e2 with e2 | e2 <;> (show M.bind _ _ = _; rw [e2, M.ret_bind]; exact e3)
theorem range_at {n i k : Nat} (h : (List.range n)[i]? = some k) : i < n ∧ k = i := by
  obtain ⟨h2, h3⟩ := List.getElem?_eq_some_iff.mp h
  simp at h2 h3
  exact ⟨h2, h3.symm⟩
theorem setAll2_cons (ρ : Env2) (i : Nat) (d : D) (r : List (Nat × D)) : setAll2 ρ ((i, d) :: r) = setAll2 (ρ.set i (some (.val d))) r := rfl
theorem setAll2_nil (ρ : Env2) : setAll2 ρ [] = ρ := rfl
theorem setAllD_cons (ρ : Env) (i : Nat) (d : D) (r : List (Nat × D)) : setAllD ρ ((i, d) :: r) = setAllD (ρ.set i (some d)) r := rfl
theorem setAllD_nil (ρ : Env) : setAllD ρ [] = ρ := rfl
theorem wipeD_cons (ρ : Env) (v : Nat) (vs : List Nat) : wipeD ρ (v :: vs) = (wipeD ρ vs).set v none := rfl
theorem wipeD_nil (ρ : Env) : wipeD ρ [] = ρ := rfl
end DL
set_option Elab.async false
set_option maxRecDepth 100000
set_option autoImplicit false
set_option linter.unusedVariables false
set_option maxHeartbeats 4000000
namespace DL
open PySem L2
def Tg {α : Type} (_ : α) : Type := PUnit
def Tg.mk {α : Type} (a : α) : Tg a := PUnit.unit
def bnd {α β : Type} (m : M α) (f : α → M β) (_ : Tg f := Tg.mk f) : M β := M.bind m f
def cnd {α : Type} (k : Bool) (a b : M α) (_ : Tg (a, b) := Tg.mk (a, b)) : M α := if k = true then a else b
section
variable {α β γ : Type}
theorem bnd_ret (a : α) (f : α → M β) (t : Tg f) : bnd (M.ret a) f t = f a := rfl
theorem bnd_assoc (m : M α) (f : α → M β) (g : β → M γ) (t : Tg f) (u : Tg g) : bnd (bnd m f t) g u = bnd m fun a => bnd (f a) g := M.bind_assoc m f g
theorem bnd_assoc' (m : M α) (f : α → M β) (g : β → M γ) (u : Tg g) : bnd (M.bind m f) g u = bnd m fun a => bnd (f a) g := M.bind_assoc m f g
theorem bnd_r (m : M α) (t : Tg (fun a => M.ret a)) : bnd m (fun a => M.ret a) t = m := M.bind_ret m
theorem cnd_dt {p : Prop} [Decidable p] (h : p) (a b : M α) (t : Tg (a, b)) : cnd (decide p) a b t = a := by
  unfold cnd
  rw [if_pos (decide_eq_true h)]
theorem cnd_df {p : Prop} [Decidable p] (h : ¬ p) (a b : M α) (t : Tg (a, b)) : cnd (decide p) a b t = b := by
  unfold cnd
  rw [if_neg (by simp [h])]
theorem cnd_t (a b : M α) (t : Tg (a, b)) : cnd true a b t = a := rfl
theorem cnd_f (a b : M α) (t : Tg (a, b)) : cnd false a b t = b := rfl
theorem cnd_bnd (k : Bool) (a b : M α) (t : Tg (a, b)) (f : α → M β) (u : Tg f) : bnd (cnd k a b t) f u = cnd k (bnd a f) (bnd b f) := by cases k <;> rfl
theorem bind_bnd (m : M α) (f : α → M β) : M.bind m f = bnd m f := rfl
theorem fail_bnd (f : α → M β) (t : Tg f) : bnd M.fail f t = M.fail := rfl
end
def seqK (F2 : Env2 → M Out) : Out → M Out
  | .nx ρ1 => F2 ρ1
  | o => M.ret o
def runK : Out → M D
  | .rt d => M.ret d
  | .rn xs => M.ret (.lst xs)
  | .nx _ => M.ret .non
  | _ => M.fail
def runKN : Out → M (List D)
  | .rn xs => M.ret xs
  | _ => M.fail
def lstK (xs : List D) : M (List D) := M.guard (szL xs) (M.ret xs)
def tupK (xs : List D) : M D := M.guard (szL xs) (M.ret (.tup xs))
def loopK (bs : D → Option (List (Nat × D))) (body : Env2 → M Out) (xs : List D) : Out → M Out
  | .nx ρ' => loopM bs body xs ρ'
  | .ct ρ' => loopM bs body xs ρ'
  | .bk ρ' => M.ret (.nx ρ')
  | .rt d => M.ret (.rt d)
  | .rn ys => M.ret (.rn ys)
def appK (ρ : Env2) (j : Nat) (d : D) : Option (Option Slot) → M Out
  | some (some (.own xs)) => M.guard (decide (xs.length < sizeLine)) (M.ret (.nx (ρ.set j (some (.own (xs ++ [d]))))))
  | _ => M.fail
def unpK (ρ : Env2) : Option (List (Nat × D)) → M Out
  | some l => M.ret (.nx (setAll2 ρ l))
  | none => M.fail
def selK (F2 : Env2 → M (List D)) (ρ : Env2) : Out → M (List D)
  | .nx ρ1 => M.guard (decide (selfOf ρ1 = selfOf ρ)) (F2 ρ1)
  | _ => M.fail
section
variable (ρ : Env) (ρ2 : Env2) (ms : List Nat)
theorem q_seq (F1 F2 : Env2 → M Out) : seqM F1 F2 ρ2 = bnd (F1 ρ2) (seqK F2) := by
  rfl
theorem q_seqK_nx (F2 : Env2 → M Out) (ρ1 : Env2) : seqK F2 (.nx ρ1) = F2 ρ1 := rfl
theorem q_seqK_rt (F2 : Env2 → M Out) (d : D) : seqK F2 (.rt d) = M.ret (.rt d) := rfl
theorem q_seqK_rn (F2 : Env2 → M Out) (d : List D) : seqK F2 (.rn d) = M.ret (.rn d) := rfl
theorem q_seqK_bk (F2 : Env2 → M Out) (d : Env2) : seqK F2 (.bk d) = M.ret (.bk d) := rfl
theorem q_seqK_ct (F2 : Env2 → M Out) (d : Env2) : seqK F2 (.ct d) = M.ret (.ct d) := rfl
theorem q_runD (m : Nat) (F : Env2 → M Out) (ds : List D) : runD m F ds = bnd (F (startD m ds)) runK := by
  rfl
theorem q_runN (m : Nat) (F : Env2 → M Out) (ds : List D) : runN m F ds = bnd (F (startD m ds)) runKN := by
  rfl
theorem q_runK_rt (d : D) : runK (.rt d) = M.ret d := rfl
theorem q_runK_rn (d : List D) : runK (.rn d) = M.ret (.lst d) := rfl
theorem q_runK_nx (d : Env2) : runK (.nx d) = M.ret .non := rfl
theorem q_runKN_rn (d : List D) : runKN (.rn d) = M.ret d := rfl
theorem q_set (i : Nat) (f : Env → M D) : setM i ms f ρ2 = bnd (f (view ms ρ2)) fun d => M.ret (.nx ((keepIf d.flat ms ρ2).set i (some (.val d)))) := rfl
theorem q_setN (i : Nat) (f : Env → M (List D)) : setNM i ms f ρ2 = bnd (f (view ms ρ2)) fun xs => M.ret (.nx ((keepIf (xs.all D.flat) ms ρ2).set i (some (.own xs)))) := rfl
theorem q_ret (f : Env → M D) : retM ms f ρ2 = bnd (f (view ms ρ2)) fun d => M.ret (.rt d) := rfl
theorem q_retN (f : Env → M (List D)) : retNM ms f ρ2 = bnd (f (view ms ρ2)) fun d => M.ret (.rn d) := rfl
theorem q_if (t : Env → M Bool) (F F2 : Env2 → M Out) : ifM ms t F F2 ρ2 = bnd (t (view ms ρ2)) fun k => cnd k (F ρ2) (F2 ρ2) := rfl
theorem q_unp (bs : D → Option (List (Nat × D))) (f : Env → M D) : unpM bs ms f ρ2 = bnd (f (view ms ρ2)) fun d => unpK (keepIf d.flat ms ρ2) (bs d) := by
  show M.bind _ _ = M.bind _ _
  congr 1
theorem q_unpK (l : List (Nat × D)) : unpK ρ2 (some l) = M.ret (.nx (setAll2 ρ2 l)) := rfl
theorem q_app (j : Nat) (f : Env → M D) : appM j ms f ρ2 = bnd (f (view ms ρ2)) fun d => appK (keepIf d.flat ms ρ2) j d (keepIf d.flat ms ρ2)[j]? := by
  show M.bind _ _ = M.bind _ _
  congr 1
theorem q_appK {j : Nat} {d : D} {xs : List D} (h : xs.length < 16777216) : appK ρ2 j d (some (some (.own xs))) = M.ret (.nx (ρ2.set j (some (.own (xs ++ [d]))))) := M.guard_of (decide_eq_true h)
theorem q_guard {α : Type} (m : M α) : M.guard true m = m := rfl
theorem q_for (gi : Env → M (List D)) (bs : D → Option (List (Nat × D))) (body : Env2 → M Out) : forA ms gi bs body ρ2 = bnd (gi (view ms ρ2)) fun xs => loopM bs body xs (frz ms ρ2) := rfl
theorem q_forR (gi : Env → M (List D)) (bs : D → Option (List (Nat × D))) (body : Env2 → M Out) : forRM ms gi bs body ρ2 = bnd (gi (view ms ρ2)) fun xs => loopM bs body xs ρ2 := rfl
theorem q_loop0 (bs : D → Option (List (Nat × D))) (body : Env2 → M Out) : loopM bs body [] ρ2 = M.ret (.nx ρ2) := rfl
theorem q_loop1 {bs : D → Option (List (Nat × D))} {body : Env2 → M Out} {x : D} {xs : List D} {l : List (Nat × D)} (h : bs x = some l) : loopM bs body (x :: xs) ρ2 = bnd (body (setAll2 ρ2 l)) (loopK bs body xs) := by
  show (match bs x with | none => _ | some l => _) = _
  rw [h]
  rfl
theorem q_loopN (i : Nat) (body : Env2 → M Out) (x : D) (xs : List D) : loopM (bName i) body (x :: xs) ρ2 = bnd (body (ρ2.set i (some (.val x)))) (loopK (bName i) body xs) := q_loop1 (l := [(i, x)]) ρ2 rfl
theorem q_loopK_nx (bs : D → Option (List (Nat × D))) (body : Env2 → M Out) (xs : List D) : loopK bs body xs (.nx ρ2) = loopM bs body xs ρ2 := rfl
theorem q_loopK_ct (bs : D → Option (List (Nat × D))) (body : Env2 → M Out) (xs : List D) : loopK bs body xs (.ct ρ2) = loopM bs body xs ρ2 := rfl
theorem q_loopK_bk (bs : D → Option (List (Nat × D))) (body : Env2 → M Out) (xs : List D) : loopK bs body xs (.bk ρ2) = M.ret (.nx ρ2) := rfl
theorem q_loopK_rt (bs : D → Option (List (Nat × D))) (body : Env2 → M Out) (xs : List D) (d : D) : loopK bs body xs (.rt d) = M.ret (.rt d) := rfl
theorem q_loopK_rn (bs : D → Option (List (Nat × D))) (body : Env2 → M Out) (xs : List D) (d : List D) : loopK bs body xs (.rn d) = M.ret (.rn d) := rfl
theorem q_sNil : sNil ρ2 = M.ret (.nx ρ2) := rfl
theorem q_e2 (h : D → D → M D) (f g : Env → M D) : e2 h f g ρ = bnd (f ρ) fun x => bnd (g ρ) fun y => h x y := rfl
theorem q_t2 (h : D → D → M D) (f g : Env → M D) : t2 h f g ρ = bnd (f ρ) fun x => bnd (g ρ) fun y => bnd (h x y) asB := rfl
theorem q_e1 (h : D → M D) (f : Env → M D) : e1 h f ρ = bnd (f ρ) h := rfl
theorem q_cst (d : D) : cst d ρ = M.ret d := rfl
theorem q_aN : aN ρ = M.ret [] := rfl
theorem q_aC (f : Env → M D) (g : Env → M (List D)) : aC f g ρ = bnd (f ρ) fun x => bnd (g ρ) fun xs => M.ret (x :: xs) := rfl
theorem q_call (h : List D → M D) (f : Env → M (List D)) : eCall h f ρ = bnd (f ρ) h := rfl
theorem q_callN (h : List D → M (List D)) (f : Env → M (List D)) : nCall h f ρ = bnd (f ρ) h := rfl
theorem q_eN (f : Env → M (List D)) : eN f ρ = bnd (f ρ) fun xs => M.ret (.lst xs) := rfl
theorem q_nLst (f : Env → M (List D)) : nLst f ρ = bnd (f ρ) lstK := rfl
theorem q_lstK {xs : List D} (h : xs.length ≤ 16777216) : lstK xs = M.ret xs := M.guard_of (decide_eq_true h)
theorem q_eTup (f : Env → M (List D)) : eTup f ρ = bnd (f ρ) tupK := rfl
theorem q_tupK {xs : List D} (h : xs.length ≤ 16777216) : tupK xs = M.ret (.tup xs) := M.guard_of (decide_eq_true h)
theorem q_tVal (f : Env → M D) : tVal f ρ = bnd (f ρ) truD := rfl
theorem q_tNot (f : Env → M Bool) : tNotM f ρ = bnd (f ρ) fun k => M.ret (!k) := rfl
theorem q_tAnd (f g : Env → M Bool) : tAndM f g ρ = bnd (f ρ) fun k => cnd k (g ρ) (M.ret false) := rfl
theorem q_tOr (f g : Env → M Bool) : tOrM f g ρ = bnd (f ρ) fun k => cnd k (M.ret true) (g ρ) := rfl
theorem q_eAnd (f g : Env → M D) : eAnd f g ρ = bnd (f ρ) fun x => bnd (asB x) fun k => cnd k (g ρ) (M.ret (.bl false)) := rfl
theorem q_eNot (f : Env → M D) : eNot f ρ = bnd (f ρ) fun x => bnd (asB x) fun k => M.ret (.bl (!k)) := rfl
theorem q_eIf (t : Env → M Bool) (f g : Env → M D) : eIf t f g ρ = bnd (t ρ) fun k => cnd k (f ρ) (g ρ) := rfl
theorem q_iAny (f : Env → M D) : iAny f ρ = bnd (f ρ) itemsD := rfl
theorem q_iRg1 (f : Env → M (List D)) : iRg1 f ρ = bnd (f ρ) rng1 := rfl
theorem q_iEnum (f : Env → M (List D)) : iEnumM f ρ = bnd (f ρ) enumD := rfl
theorem q_nLc (vs : List Nat) (gi : Env → M (List D)) (bs : D → Option (List (Nat × D))) (c : Env → M Bool) (e : Env → M D) : nLc vs gi bs c e ρ = bnd (gi ρ) fun xs => bnd (compM bs c e (wipeD ρ vs) xs) lstK := rfl
theorem q_cT : cT ρ = M.ret true := rfl
theorem q_oN : oN ρ = M.ret none := rfl
theorem q_oS (f : Env → M D) : oS f ρ = bnd (f ρ) asI := rfl
theorem q_eSl (f : Env → M D) (fl fh : Env → M (Option Int)) : eSl f fl fh ρ = bnd (f ρ) fun x => bnd (fl ρ) fun l => bnd (fh ρ) fun h => slD l h x := rfl
theorem q_eChain (h h' : D → D → M D) (f g k : Env → M D) : eChain h h' f g k ρ = bnd (f ρ) fun x => bnd (g ρ) fun y => bnd (h x y) fun z => bnd (asB z) fun t => cnd t (bnd (k ρ) (h' y)) (M.ret (.bl false)) := rfl
theorem q_tBl (f : Env → M D) : tBl f ρ = bnd (f ρ) asB := rfl
theorem q_eMake (c : Nat) (F : List D → M (List D)) (fa : Env → M (List D)) : eMake c F fa ρ = bnd (fa ρ) fun ds => bnd (F ds) fun fs => M.ret (.obj c fs) := rfl
theorem q_eMeth (c : Nat) (F : List D → M D) (f : Env → M D) (fa : Env → M (List D)) : eMeth c F f fa ρ = bnd (f ρ) fun x => M.guard (isC c x) (bnd (fa ρ) fun ds => F (x :: ds)) := rfl
theorem q_iSeq (F1 : Env2 → M Out) (F2 : Env2 → M (List D)) : iSeq F1 F2 ρ2 = bnd (F1 ρ2) (selK F2 ρ2) := by
  rfl
theorem q_selK (F2 : Env2 → M (List D)) (ρ1 : Env2) : selK F2 ρ2 (.nx ρ1) = M.guard (decide (selfOf ρ1 = selfOf ρ2)) (F2 ρ1) := rfl
theorem q_self (x : Addr) (r : Env2) : selfOf (some (.val (.bag x)) :: r) = some x := rfl
theorem q_iTwoS (f : Env → M D) : iTwoS ms f ρ2 = bnd (f (view ms ρ2)) two2s := rfl
theorem q_two2s (x y : D) : two2s (.tup [x, y]) = M.ret [y, x] := rfl
end
theorem q_nLc2 (ρ : Env) (vs vs1 : List Nat) (gi : Env → M (List D)) (bs : D → Option (List (Nat × D))) (c : Env → M Bool) (gi1 : Env → M (List D)) (bs1 : D → Option (List (Nat × D))) (c1 : Env → M Bool) (e : Env → M D) : nLc2 vs vs1 gi bs c gi1 bs1 c1 e ρ = bnd (gi ρ) fun xs => bnd (compM2 bs c gi1 bs1 c1 e vs1 (wipeD ρ vs) xs) lstK := rfl
theorem q_inE (c : Nat) (z : List Nat) : inE false (.str [c]) (.str z) = M.ret (.bl (decide (c ∈ z))) := rfl
theorem q_notInE (c : Nat) (z : List Nat) : inE true (.str [c]) (.str z) = M.ret (.bl (!decide (c ∈ z))) := rfl
theorem q_is_non : isD false .non .non = M.ret (.bl true) := rfl
theorem q_is_str (x : List Nat) : isD false (.str x) .non = M.ret (.bl false) := rfl
theorem q_is_int (x : Int) : isD false (.int x) .non = M.ret (.bl false) := rfl
theorem q_is_tup (x : List D) : isD false (.tup x) .non = M.ret (.bl false) := rfl
theorem q_is_lst (x : List D) : isD false (.lst x) .non = M.ret (.bl false) := rfl
theorem q_isnt_non : isD true .non .non = M.ret (.bl false) := rfl
theorem q_isnt_str (x : List Nat) : isD true (.str x) .non = M.ret (.bl true) := rfl
theorem q_isnt_int (x : Int) : isD true (.int x) .non = M.ret (.bl true) := rfl
theorem q_isnt_tup (x : List D) : isD true (.tup x) .non = M.ret (.bl true) := rfl
theorem q_isnt_lst (x : List D) : isD true (.lst x) .non = M.ret (.bl true) := rfl
theorem q_list_l (x : List D) : listF [.lst x] = M.ret x := rfl
theorem q_list_t (x : List D) : listF [.tup x] = M.ret x := rfl
theorem q_ixF_s (x : List Nat) (y : D) : ixF (.str x) y = ixD (.str x) y := rfl
theorem q_ixF_l (x : List D) (y : D) : ixF (.lst x) y = ixD (.lst x) y := rfl
theorem q_ixF_t (x : List D) (y : D) : ixF (.tup x) y = ixD (.tup x) y := rfl
theorem q_ixF_b (x : Addr) (y : D) : ixF (.bag x) y = ixD (.bag x) y := rfl
theorem q_inF_s (n : Bool) (x : D) (y : List Nat) : inF n x (.str y) = inE n x (.str y) := rfl
theorem q_inF_l (n : Bool) (x : D) (y : List D) : inF n x (.lst y) = inE n x (.lst y) := rfl
theorem q_inF_t (n : Bool) (x : D) (y : List D) : inF n x (.tup y) = inE n x (.tup y) := rfl
theorem q_lenG_s (x : List Nat) : lenG [.str x] = lenF [.str x] := rfl
theorem q_lenG_l (x : List D) : lenG [.lst x] = M.ret (.int x.length) := rfl
theorem q_lenG_t (x : List D) : lenG [.tup x] = M.ret (.int x.length) := rfl
theorem q_lenG_d (ks : List Key) (ds : List D) : lenG [.dct ks ds] = M.ret (.int ks.length) := rfl
theorem q_lenG_dt (ks : List (List Key)) (ds : List D) : lenG [.dcT ks ds] = M.ret (.int ks.length) := rfl
theorem q_setD (ρ2 : Env2) (i : Nat) (o : O) : setDM i o ρ2 = M.ret (.nx (ρ2.set i (some (.tr o)))) := rfl
theorem q_dput (ρ2 : Env2) (ms : List Nat) (j : Nat) (fv fk : Env → M D) : dputM j ms fv fk ρ2 = bnd (fv (view ms ρ2)) fun d => bnd (fk (view ms (keepIf d.flat ms ρ2))) fun y => dputK (keepIf d.flat ms ρ2) j (keyD y) d (keepIf d.flat ms ρ2)[j]? := rfl
theorem q_dputK {ρ2 : Env2} {j : Nat} {k : Key} {d : D} {ks : List Key} {os : List O} (h : ks.length < 16777216) : dputK ρ2 j (some k) d (some (some (.tr (.k ks os)))) = M.ret (.nx (ρ2.set j (some (.tr (.k (setKs ks k) (setVs ks os k (.v d))))))) := M.guard_of (decide_eq_true h)
theorem q_keyI (i : Int) : keyD (.int i) = some (.inl i) := rfl
theorem q_keyS (x : List Nat) : keyD (.str x) = some (.inr ⟨x.toArray⟩) := rfl
theorem q_seeT (o : O) : (Slot.tr o).see = o.toD := rfl
theorem q_toDv (d : D) : (O.v d).toD = d := rfl
theorem q_toDl (xs : List O) : (O.l xs).toD = .lst (O.toDs xs) := rfl
theorem q_toDk (ks : List Key) (xs : List O) : (O.k ks xs).toD = .dct ks (O.toDs xs) := rfl
theorem q_toDt (ks : List (List Key)) (xs : List O) : (O.t ks xs).toD = .dcT ks (O.toDs xs) := rfl
theorem q_toDs0 : O.toDs [] = [] := rfl
theorem q_toDs1 (x : O) (r : List O) : O.toDs (x :: r) = x.toD :: O.toDs r := rfl
theorem q_toDsm (xs : List D) : O.toDs (xs.map O.v) = xs := O.toDs_v xs
theorem q_fls0 : O.fls [] = true := rfl
theorem q_fls1 (x : O) (r : List O) : O.fls (x :: r) = (x.fl && O.fls r) := rfl
theorem q_flv (d : D) : (O.v d).fl = d.flat := rfl
theorem q_fll (xs : List O) : (O.l xs).fl = O.fls xs := rfl
theorem q_flk (ks : List Key) (xs : List O) : (O.k ks xs).fl = O.fls xs := rfl
theorem q_flt (ks : List (List Key)) (xs : List O) : (O.t ks xs).fl = O.fls xs := rfl
theorem fls_map : ∀ xs : List D, O.fls (xs.map O.v) = xs.all D.flat
  | [] => rfl
  | x :: r => by
    show (_ && O.fls (r.map O.v)) = _
    rw [fls_map r]; rfl
theorem q_flsm (xs : List D) : O.fls (xs.map O.v) = xs.all D.flat := fls_map xs
theorem q_sloV (d : D) : slotO (.v d) = .val d := rfl
theorem q_sloK (ks : List Key) (xs : List O) : slotO (.k ks xs) = .tr (.k ks xs) := rfl
theorem q_sloT (ks : List (List Key)) (xs : List O) : slotO (.t ks xs) = .tr (.t ks xs) := rfl
theorem q_sloL (xs : List D) : slotO (.l (xs.map O.v)) = .own xs := by
  show (match leafs (xs.map O.v) with | some ds => Slot.own ds | none => .tr (.l (xs.map O.v))) = _
  rw [leafs_map]
theorem q_sloLl (xs r : List O) : slotO (.l (.l xs :: r)) = .tr (.l (.l xs :: r)) := rfl
theorem q_oV (ρ : Env) (f : Env → M D) : oV f ρ = bnd (f ρ) fun d => M.ret (.v d) := rfl
theorem q_oL (ρ : Env) (f : Env → M (List D)) : oL f ρ = bnd (f ρ) fun xs => M.ret (.l (xs.map O.v)) := rfl
theorem q_oC (ρ : Env) (o : O) : oC o ρ = M.ret o := rfl
theorem q_oaN (ρ : Env) : oaN ρ = M.ret [] := rfl
theorem q_oaC (ρ : Env) (f : Env → M O) (g : Env → M (List O)) : oaC f g ρ = bnd (f ρ) fun x => bnd (g ρ) fun xs => M.ret (x :: xs) := rfl
theorem q_parO (ρ2 : Env2) (ms : List Nat) (i j : Nat) (f : Env → M (List O)) : parOM i j ms f ρ2 = bnd (f (view ms ρ2)) (parOK i j ms ρ2) := rfl
theorem q_parOK (ρ2 : Env2) (ms : List Nat) (i j : Nat) (o1 o2 : O) : parOK i j ms ρ2 [o1, o2] = M.ret (.nx (((keepIf (O.fls [o1, o2]) ms ρ2).set i (some (slotO o1))).set j (some (slotO o2)))) := rfl
theorem q_flatS (ls : List (List Nat)) : (ls.map D.str).all D.flat = true := by simp [D.flat]
theorem q_flatI {α : Type} (f : α → Int) (xs : List α) : (xs.map fun a => D.int (f a)).all D.flat = true := by simp [D.flat]
theorem q_flatS2 {α : Type} (f : α → List Nat) (xs : List α) : (xs.map fun a => D.str (f a)).all D.flat = true := by simp [D.flat]
theorem q_mapv0 : ([] : List D).map O.v = [] := rfl
theorem q_sloL0 : slotO (.l []) = .own [] := rfl
theorem q_whileM (ms : List Nat) (t : Env → M Bool) (body : Env2 → M Out) (n : Nat) (ρ : Env2) : whileM ms t body (n + 1) ρ = bnd (t (view ms ρ)) fun k => cnd k (bnd (body ρ) fun o => match o with
      | .nx ρ' => whileM ms t body n ρ'
      | .ct ρ' => whileM ms t body n ρ'
      | .bk ρ' => M.ret (.nx ρ')
      | .rt d => M.ret (.rt d)
      | .rn ys => M.ret (.rn ys)) (M.ret (.nx ρ)) := rfl
theorem q_comp0 (bs : D → Option (List (Nat × D))) (c : Env → M Bool) (e : Env → M D) (ρ : Env) : compM bs c e ρ [] = M.ret [] := rfl
theorem q_compT (i : Nat) (e : Env → M D) (ρ : Env) (x : D) (xs : List D) : compM (bName i) cT e ρ (x :: xs) = bnd (e (ρ.set i (some x))) fun y => bnd (compM (bName i) cT e ρ xs) fun ys => M.ret (y :: ys) := rfl
theorem ixD_strmod {x : List Nat} {i : Int} (hz : x.length ≤ 16777216) (h : 0 < x.length) : ixD (.str x) (.int (i % (x.length : Int))) = M.ret (.str [x.getD (i % (x.length : Int)).toNat 0]) := by
  have h' : (0 : Int) < x.length := by omega
  exact ixD_str hz (Int.emod_nonneg _ (by omega)) (Int.emod_lt_of_pos _ h')
theorem cut_toN {α : Type} (xs : List α) (k : Nat) : cutL xs none (some (k : Int)) = xs.take k := by rw [cut_to _ (by omega), Int.toNat_natCast]
theorem cut_fromN {α : Type} (xs : List α) (k : Nat) : cutL xs (some (k : Int)) none = xs.drop k := by rw [cut_from _ (by omega), Int.toNat_natCast]
theorem cut_from1N {α : Type} (xs : List α) (k : Nat) : cutL xs (some ((k : Int) + 1)) none = xs.drop (k + 1) := by rw [cut_from _ (by omega), show ((k : Int) + 1).toNat = k + 1 by omega]
theorem cut_to1N {α : Type} (xs : List α) (k : Nat) : cutL xs none (some ((k : Int) + 1)) = xs.take (k + 1) := by rw [cut_to _ (by omega), show ((k : Int) + 1).toNat = k + 1 by omega]
theorem cut_to1 {α : Type} (xs : List α) : cutL xs none (some 1) = xs.take 1 := cut_to xs (by decide)
theorem cut_to2 {α : Type} (xs : List α) : cutL xs none (some 2) = xs.take 2 := cut_to xs (by decide)
theorem cut_to3 {α : Type} (xs : List α) : cutL xs none (some 3) = xs.take 3 := cut_to xs (by decide)
theorem cut_from1 {α : Type} (xs : List α) : cutL xs (some 1) none = xs.drop 1 := cut_from xs (by decide)
theorem cut_toM1 {α : Type} (xs : List α) : cutL xs none (some (-1)) = xs.take (xs.length - 1) := by
  unfold cutL
  have e2 : HT.sIx xs.length xs.length (some (-1)) = xs.length - 1 := by
    show (if (-1 : Int) < 0 then (-1 + (xs.length : Int)).toNat else min (-1 : Int).toNat xs.length) = _
    rw [if_pos (by omega)]
    omega
  have e0 : HT.sIx xs.length 0 none = 0 := rfl
  rw [e2, e0, List.drop_zero, Nat.sub_zero]
theorem cut_fromM1 {α : Type} (xs : List α) : cutL xs (some (-1)) none = xs.drop (xs.length - 1) := by
  unfold cutL
  have e2 : HT.sIx xs.length 0 (some (-1)) = xs.length - 1 := by
    show (if (-1 : Int) < 0 then (-1 + (xs.length : Int)).toNat else min (-1 : Int).toNat xs.length) = _
    rw [if_pos (by omega)]
    omega
  have e0 : HT.sIx xs.length xs.length none = xs.length := rfl
  rw [e2, e0, List.take_of_length_le (by simp)]
def Ev {α : Type} (m : M α) (P : α → Prop) : Prop := ∃ a, m = M.ret a ∧ P a
theorem Ev.ret {α : Type} {a : α} {P : α → Prop} (h : P a) : Ev (M.ret a) P := ⟨a, rfl, h⟩
theorem Ev.bind {α β : Type} {m : M α} {f : α → M β} {P : α → Prop} {Q : β → Prop} {t : Tg f} (h : Ev m P) (k : ∀ a, P a → Ev (f a) Q) : Ev (bnd m f t) Q := by
  obtain ⟨a, rfl, hp⟩ := h
  exact k a hp
theorem Ev.tot {α : Type} {p : Addr} {m : M α} {P : α → Prop} (h : Ev m P) : Tot p m P := by
  obtain ⟨a, rfl, hp⟩ := h
  exact Tot.ret hp
theorem Ev.eq {α : Type} {m : M α} {a : α} (h : Ev m (· = a)) : m = M.ret a := by
  obtain ⟨b, e, rfl⟩ := h
  exact e
theorem Tot.bnd {α β : Type} {p : Addr} {m : M α} {f : α → M β} {P : α → Prop} {Q : β → Prop} {t : Tg f} (h : Tot p m P) (k : ∀ a, P a → Tot p (f a) Q) : Tot p (DL.bnd m f t) Q := Tot.bind h k
theorem ev_loop {β : Type} {bs : D → Option (List (Nat × D))} {body : Env2 → M Out} : ∀ {xs : List D} (I : Nat → Env2 → Prop) {ρ : Env2} {κ : Out → M β} {t : Tg κ} {Q : β → Prop} (_ : I 0 ρ) (_ : ∀ i x ρ, xs[i]? = some x → I i ρ → ∃ l, bs x = some l ∧ Ev (body (setAll2 ρ l)) fun o => ∃ ρ', (o = .nx ρ' ∨ o = .ct ρ') ∧ I (i + 1) ρ') (_ : ∀ ρ', I xs.length ρ' → Ev (κ (.nx ρ')) Q), Ev (bnd (loopM bs body xs ρ) κ t) Q := by
  intro xs I ρ κ t Q h0 h hk
  obtain ⟨ρ', e, h'⟩ := loop_inv (bs := bs) (body := body) (xs := xs) (I := I) (fun i x ρ hx hi => by
    obtain ⟨l, e1, o, e2, ρ', e3, h3⟩ := h i x ρ hx hi
    rcases e3 with rfl | rfl
    · exact ⟨l, ρ', e1, .inl e2, h3⟩
    · exact ⟨l, ρ', e1, .inr e2, h3⟩) h0
  rw [e]
  exact hk ρ' h'
theorem get_map {α β : Type} {as : List α} {f : α → β} {i : Nat} {x : β} (h : (as.map f)[i]? = some x) : ∃ a, as[i]? = some a ∧ f a = x := by
  rw [List.getElem?_map] at h
  cases e : as[i]? with
  | none => rw [e] at h; cases h
  | some a => rw [e] at h; cases h; exact ⟨a, rfl, rfl⟩
theorem get_rmap {β : Type} {n : Nat} {f : Nat → β} {i : Nat} {x : β} (h : ((List.range n).map f)[i]? = some x) : i < n ∧ x = f i := by
  obtain ⟨a, h1, rfl⟩ := get_map h
  obtain ⟨h2, rfl⟩ := range_at h1
  exact ⟨h2, rfl⟩
theorem ev_loopZ {bs : D → Option (List (Nat × D))} {body : Env2 → M Out} {xs : List D} (I : Nat → Env2 → Prop) {ρ : Env2} {Q : Out → Prop} (h0 : I 0 ρ) (h : ∀ i x ρ, xs[i]? = some x → I i ρ → ∃ l, bs x = some l ∧ Ev (body (setAll2 ρ l)) fun o => ∃ ρ', (o = .nx ρ' ∨ o = .ct ρ') ∧ I (i + 1) ρ') (hk : ∀ ρ', I xs.length ρ' → Q (.nx ρ')) : Ev (loopM bs body xs ρ) Q := by
  rw [← M.bind_ret (loopM bs body xs ρ)]
  exact ev_loop (t := Tg.mk _) I h0 h fun ρ' hi => Ev.ret (hk ρ' hi)
theorem okA_of {k w : Nat} {d : D} (h : Okd k w d) (hk : k ≤ 64) (hw : w ≤ 16777216) : okA d = true := h.ok hk hw
theorem okA_lst {k w : Nat} {ds : List D} (h : ∀ d ∈ ds, Okd k w d) (hk : k ≤ 63) (hw : ds.length * (w + 2) + 3 ≤ 16777216) : okA (.lst ds) = true := (Okd.lst h).ok (by omega) hw
def Turn (I P : Out → Prop) (o : Out) : Prop := match o with
  | .nx ρ => I (.nx ρ)
  | .ct ρ => I (.nx ρ)
  | .bk ρ => P (.nx ρ)
  | .rt d => P (.rt d)
  | .rn xs => P (.rn xs)
theorem ev_while {ms : List Nat} {t : Env → M Bool} {body : Env2 → M Out} (N : Nat) (I : Nat → Env2 → Prop) {P : Out → Prop} (h : ∀ i ρ, I i ρ → (t (view ms ρ) = M.ret false ∧ P (.nx ρ)) ∨ (t (view ms ρ) = M.ret true ∧ i < N ∧ Ev (body ρ) (Turn (fun o => ∃ ρ', o = .nx ρ' ∧ I (i + 1) ρ') P))) :
    ∀ (fuel : Nat) (i : Nat) (ρ : Env2), N - i < fuel → I i ρ → Ev (whileM ms t body fuel ρ) P
  | 0, _, _, hf, _ => by omega
  | fuel + 1, i, ρ, hf, hi => by
    rw [q_whileM]
    rcases h i ρ hi with ⟨e, hp⟩ | ⟨e, hN, hb⟩
    · rw [e]
      exact Ev.ret hp
    · rw [e]
      show Ev (bnd (body ρ) _) P
      refine Ev.bind hb fun o ho => ?_
      cases o with
      | nx ρ1 => obtain ⟨ρ', e, hi⟩ := ho; cases e; exact ev_while N I h fuel (i + 1) _ (by omega) hi
      | ct ρ1 => obtain ⟨ρ', e, hi⟩ := ho; cases e; exact ev_while N I h fuel (i + 1) _ (by omega) hi
      | bk ρ1 => exact Ev.ret ho
      | rt d => exact Ev.ret ho
      | rn d => exact Ev.ret ho
abbrev kS (x : List Nat) : Key := .inr ⟨x.toArray⟩
theorem kS_inj {x y : List Nat} (h : kS x = kS y) : x = y := by
  have := congrArg (fun z : Key => match z with | .inr s => s.cps.toList | .inl _ => []) h
  simpa using this
theorem toDs_map {α : Type} (f : α → D) : ∀ xs : List α, O.toDs (xs.map fun a => O.v (f a)) = xs.map f
  | [] => rfl
  | x :: r => by
    show _ :: O.toDs (r.map fun a => O.v (f a)) = _
    rw [toDs_map f r]; rfl
theorem setKs_new {κ : Type} [DecidableEq κ] {ks : List κ} {k : κ} (h : k ∉ ks) : setKs ks k = ks ++ [k] := if_neg h
theorem setVs_new {κ α : Type} [DecidableEq κ] {ks : List κ} {ds : List α} {k : κ} {d : α} (h : k ∉ ks) : setVs ks ds k d = ds ++ [d] := if_neg h
end DL
set_option Elab.async false
set_option maxRecDepth 100000
set_option autoImplicit false
set_option linter.unusedVariables false
set_option maxHeartbeats 4000000
namespace DL
open PySem L2
mutual
def D.pl : D → Bool
  | .non => true
  | .int _ => true
  | .str _ => true
  | .lst xs => D.pls xs
  | .tup xs => D.pls xs
  | _ => false
def D.pls : List D → Bool
  | [] => true
  | x :: r => x.pl && D.pls r
end
theorem toPy_lst {xs : List D} {a : PyData} (h : toPy (.lst xs) = some a) : ∃ es, toPyL xs = some es ∧ a = .list es := by
  unfold toPy at h
  cases e : toPyL xs with
  | none => rw [e] at h; cases h
  | some es => rw [e] at h; cases h; exact ⟨es, rfl, rfl⟩
theorem toPyL_cons {x : D} {xs : List D} {es : List PyData} (h : toPyL (x :: xs) = some es) : ∃ a r, toPy x = some a ∧ toPyL xs = some r ∧ es = a :: r := by
  unfold toPyL at h
  cases e : toPy x with
  | none => rw [e] at h; cases h
  | some a =>
    rw [e] at h
    cases e2 : toPyL xs with
    | none => rw [e2] at h; cases h
    | some r => rw [e2] at h; cases h; exact ⟨a, r, rfl, rfl, rfl⟩
theorem eqD_nil (neg : Bool) {xs : List D} (h : okA (.lst xs) = true) : eqD neg (.lst xs) (.lst []) = M.ret (.bl (if neg then !xs.isEmpty else xs.isEmpty)) := by
  unfold okA at h
  cases ea : toPy (.lst xs) with
  | none => rw [ea] at h; cases h
  | some a =>
    rw [ea] at h
    simp only [Bool.and_eq_true] at h
    show eqDeep neg (.lst xs) (.lst []) = _
    unfold eqDeep
    have eb : toPy (.lst []) = some (.list []) := by unfold toPy toPyL; rfl
    rw [ea, eb]
    show M.guard _ _ = _
    have sh : SeqAt.shaped (.list []) = true := by decide +kernel
    rw [M.guard_of (by rw [h.1.2, sh]; rfl)]
    obtain ⟨es, hx, rfl⟩ := toPy_lst ea
    have : PyData.eqv (.list es) (.list []) = xs.isEmpty := by
      cases xs with
      | nil => unfold toPyL at hx; cases hx; rfl
      | cons x r => obtain ⟨b, s, _, _, rfl⟩ := toPyL_cons hx; rfl
    rw [this]
end DL
set_option Elab.async false
set_option maxRecDepth 100000
set_option autoImplicit false
set_option linter.unusedVariables false
set_option maxHeartbeats 4000000
namespace DL
open PySem L2
variable [TAB : TabList]
variable [EFF : Eff]
set_option linter.unusedSectionVars false
section
variable {X : Cx} {a b c : Expr} {pos : Pos}
end
section
variable {ρ : Env}
end
end DL
set_option Elab.async false
set_option maxRecDepth 100000
set_option autoImplicit false
set_option linter.unusedVariables false
set_option maxHeartbeats 4000000
namespace DL
open PySem L2 PySem.Spec PyProof.Rows
variable [TAB : TabList]
variable [EFF : Eff]
set_option linter.unusedSectionVars false
section
variable {X : Cx} {a b e : Expr} {pos p p2 : Pos} {c : Nat} {C g : Addr} {k : Nat} {fd : FuncData} {ps : List Str} {f h : Env → M D}
structure IsiAt (K : PySem.W.Frag) (C : Addr) : Prop where
  si : SlX.SIsi K C
  ic : PySem.W.isClsIn K C = true
  ty : PySem.W.typeIn K (.ref C) = some (.type "type")
  k0 : PySem.W.subIn K (.type "NoneType") (.ref C) = some false
  k1 : PySem.W.subIn K (.type "bool") (.ref C) = some false
  k2 : PySem.W.subIn K (.type "int") (.ref C) = some false
  k3 : PySem.W.subIn K (.type "str") (.ref C) = some false
  k4 : PySem.W.subIn K (.type "list") (.ref C) = some false
  k5 : PySem.W.subIn K (.type "tuple") (.ref C) = some false
  k6 : PySem.W.subIn K (.type "dict") (.ref C) = some false
theorem IsiAt.one {K : PySem.W.Frag} {C : Addr} (h : IsiAt K C) {t : String} (hs : PySem.W.subIn K (.type t) (.ref C) = some false) : PySem.W.kitOne K (.type t) (.ref C) = some false := by
  unfold PySem.W.kitOne
  rw [if_neg (by intro z; cases z)]
  have ic : (PySem.W.clsIn K C).isSome = true := h.ic
  show (if ((PySem.W.clsIn K C).isSome && PySem.W.typeIn K (.ref C) == some (.type "type")) = true then _ else _) = _
  rw [if_pos (by rw [ic, h.ty]; rfl)]
  exact hs
theorem IsiAt.no {K : PySem.W.Frag} {C : Addr} (h : IsiAt K C) : ∀ t ∈ tys, PySem.W.kitOne K (.type t) (.ref C) = some false := by
  intro t ht
  simp only [tys, List.mem_cons, List.not_mem_nil, or_false] at ht
  rcases ht with rfl | rfl | rfl | rfl | rfl | rfl | rfl
  · exact h.one h.k0
  · exact h.one h.k1
  · exact h.one h.k2
  · exact h.one h.k3
  · exact h.one h.k4
  · exact h.one h.k5
  · exact h.one h.k6
end
section
variable {X : Cx} {pos : Pos}
end
section
end
end DL
set_option Elab.async false
set_option maxRecDepth 100000
set_option autoImplicit false
set_option linter.unusedVariables false
set_option maxHeartbeats 4000000
namespace DL
open PySem L2 PySem.Spec PyProof.Rows
variable [TAB : TabList]
variable [EFF : Eff]
set_option linter.unusedSectionVars false
section
variable {α β : Type}
theorem q_cndN (k : Bool) (a b : M α) (t : Tg (a, b)) : cnd (!k) a b t = cnd k b a := by cases k <;> rfl
theorem q_szL {xs : List D} (h : xs.length ≤ 16777216) (m : M α) : M.guard (szL xs) m = m := M.guard_of (decide_eq_true h)
end
theorem q_sloL1 (a : D) : slotO (.l [.v a]) = .own [a] := rfl
theorem q_sloL2 (a b : D) : slotO (.l [.v a, .v b]) = .own [a, b] := rfl
theorem q_sloL3 (a b c : D) : slotO (.l [.v a, .v b, .v c]) = .own [a, b, c] := rfl
theorem q_c0 : ((0 : Nat) : Int) = 0 := rfl
theorem q_c1 : ((1 : Nat) : Int) = 1 := rfl
theorem q_c2 : ((2 : Nat) : Int) = 2 := rfl
theorem q_c3 : ((3 : Nat) : Int) = 3 := rfl
theorem q_c4 : ((4 : Nat) : Int) = 4 := rfl
theorem q_c5 : ((5 : Nat) : Int) = 5 := rfl
theorem q_c6 : ((6 : Nat) : Int) = 6 := rfl
theorem q_c7 : ((7 : Nat) : Int) = 7 := rfl
theorem q_c8 : ((8 : Nat) : Int) = 8 := rfl
theorem q_c9 : ((9 : Nat) : Int) = 9 := rfl
theorem q_c10 : ((10 : Nat) : Int) = 10 := rfl
theorem q_c11 : ((11 : Nat) : Int) = 11 := rfl
theorem q_c12 : ((12 : Nat) : Int) = 12 := rfl
theorem q_c13 : ((13 : Nat) : Int) = 13 := rfl
theorem q_c14 : ((14 : Nat) : Int) = 14 := rfl
theorem q_c15 : ((15 : Nat) : Int) = 15 := rfl
theorem q_c16 : ((16 : Nat) : Int) = 16 := rfl
end DL
set_option Elab.async false
set_option maxRecDepth 100000
set_option autoImplicit false
set_option linter.unusedVariables false
set_option maxHeartbeats 4000000
namespace DL
open PySem L2 PySem.Spec PyProof.Rows
variable [TAB : TabList]
variable [EFF : Eff]
set_option linter.unusedSectionVars false
section
variable {X : Cx} {a b : Expr} {pos : Pos} {f g : Env → M D}
end
theorem q_compC (i : Nat) (c : Env → M Bool) (e : Env → M D) (ρ : Env) (x : D) (xs : List D) : compM (bName i) c e ρ (x :: xs) = bnd (c (ρ.set i (some x))) fun k => cnd k (bnd (e (ρ.set i (some x))) fun y => bnd (compM (bName i) c e ρ xs) fun ys => M.ret (y :: ys)) (compM (bName i) c e ρ xs) := rfl
theorem q_eqBl (i j : Bool) : eqD false (.bl i) (.bl j) = M.ret (.bl (decide (i = j))) := rfl
theorem q_neBl (i j : Bool) : eqD true (.bl i) (.bl j) = M.ret (.bl (!decide (i = j))) := rfl
end DL
set_option Elab.async false
set_option maxRecDepth 100000
set_option autoImplicit false
set_option linter.unusedVariables false
set_option maxHeartbeats 4000000
namespace DL
open PySem L2 PySem.Spec PyProof.Rows
variable [TAB : TabList]
variable [EFF : Eff]
set_option linter.unusedSectionVars false
def bin4 (a : Nat) : List Nat := [48 + a / 8 % 2, 48 + a / 4 % 2, 48 + a / 2 % 2, 48 + a % 2]
section
variable {X : Cx} {e : Expr} {f : Env → M D} {pos p2 p3 : Pos}
end
structure SMet (K : PySem.W.Frag) (C : Addr) (m : Str) (p g : Addr) : Prop where
  rd : PySem.W.readsIn K C (.type "type") = true
  ga : PySem.W.specialIn K (.ref C) "__getattribute__" = some (some (.builtin "type.__getattribute__"))
  at_ : PySem.W.findCls K (.ref C) (.type "type") m = some (.get (.builtin "staticmethod.__get__") (.ref p) .none (.ref C))
  rc : ∃ rest, PySem.W.recIn K p "staticmethod" = some (.ref g :: rest)
  kp : PySem.W.keepIn K (.ref g) = true
structure StatAt (K : PySem.W.Frag) (C p : Addr) (m qual : Str) (st : Stmt) (ps : List Str) (f : Addr) (fd : FuncData) : Prop where
  fn : Fun K m qual st f fd
  bd : Binds K fd ps []
  sm : SMet K C m p f
section
variable {X : Cx} {CX : CXT} {k : Nat} {C p g : Addr} {sp : Sp} {E : XK} {e : Expr} {es : List Expr} {m x : Str} {pos apos p2 : Pos} {t : TA} {pl : Sem Bool} {fd : FuncData} {ps : List Str} {n : Nat} {Fn : List D → M D} {Fl : List D → M (List D)} {fa : Env → M (List D)} {c : Nat}
theorem raw1 {P : Program} {w : World} {K : PySem.W.Frag} {mg : Str → Option Value} {base : Heap} {sp : Sp} (F : FnOk P w K mg base CX0 k g fd ps sp) (hb : Binds K fd ps []) : FnR P w K mg base CX0 k g sp := by
  have h := F.raw hb .nil
  intro A outer s H us vs Q E hr e0 hv hs
  exact h A outer s H us vs Q E hr e0 hv (by show sp (vs ++ []) H Q E; rw [List.append_nil]; exact hs)
end
end DL
set_option Elab.async false
set_option maxRecDepth 100000
set_option autoImplicit false
set_option linter.unusedVariables false
set_option maxHeartbeats 4000000
namespace DL
open PySem L2 PySem.Spec PyProof.Rows
variable [TAB : TabList]
variable [EFF : Eff]
set_option linter.unusedSectionVars false
def preL (ws : Nat → List Value) : Nat → List Value
  | 0 => []
  | j + 1 => preL ws j ++ ws j
theorem args_sum2 (a b : Value) : argsOk "sum" ⟨[a, b], []⟩ := by unfold argsOk; kernel_rfl
section
variable {prog : Program} {w : World} {A : Around} {R : Result → Shared → Prop} {I : Addr} {fp wr : List Addr} {n : Nat} {P : Nat → Value → Prop} {St : Nat → Heap → Prop}
theorem codeAny_sum_loopL (W : Walks prog w A.in1 I fp wr n P St) (S : Addr) (hSf : S ∉ fp) (h0 : Heap) (hS0 : h0.objs.size ≤ S) (hwr : ∀ b ∈ wr, b < h0.objs.size) (ws : Nat → List Value) (T0 : Addr)
    (hval : ∀ i v, P i v → ∃ li c, v = .ref li ∧ IsL h0 li (ws i).toArray c ∧ li ∉ wr ∧ li ≠ S) (hsz : ∀ j, j ≤ n → (preL ws j).length ≤ sizeLine) :
    ∀ (k i : Nat) (s : Shared) (T : Addr) (cT c : Nat), n - i = k → i ≤ n → St i s.heap → IsL s.heap S #[.ref T] c → IsL s.heap T (preL ws i).toArray cT → T ∉ wr → T ≠ S → ((i = 0 ∧ T = T0) ∨ (0 < i ∧ h0.objs.size ≤ T)) →
    (∀ b o, b ∉ wr → b ≠ S → h0.get? b = some o → s.heap.get? b = some o) →
    (∀ h' tk T' cT', (∀ b o, b ∉ wr → b ≠ S → s.heap.get? b = some o → h'.get? b = some o) → IsL h' T' (preL ws n).toArray cT' → ((n = 0 ∧ T' = T0) ∨ (0 < n ∧ h0.objs.size ≤ T')) → R (.ok (.ret (.ref T'))) { s with heap := h', toks := tk }) →
    codeAny (model prog w) A (.builtin "sum.loop" ⟨[.ref I, .ref S, rawInt 2, rawInt 0], []⟩) R s := by
  have hSw : S ∉ wr := fun h => hSf (W.sub _ h)
  intro k
  induction k with
  | zero =>
    intro i s T cT c hk hi hst hS hT hTw hTS hfr hkp hR
    have hin : i = n := by omega
    subst hin
    refine codeAny_builtin F.entry_sum_loop ?_
    rw [Around.under_plainId F.plain_sum_loop _]
    show wpAny _ A.in1 (seqItems? (.ref S) >>= _) _ _ s
    refine wpAny_bind (wpAny_seqItems hS rfl ?_)
    show wpAny _ A.in1 (tryCatch (pyNext (.ref I)) _ >>= _) _ _ s
    refine wpAny_bind (wpAny_tryCatch (W.done s _ _ hst fun h' tk hk' => ?_))
    exact wpAny_pure (hR h' tk T cT (fun b o hbw _ e => hk' b o hbw e) (hk' T _ hTw hT) hfr)
  | succ k ih =>
    intro i s T cT c hk hi hst hS hT hTw hTS hfr hkp hR
    have hlt : i < n := by omega
    refine codeAny_builtin F.entry_sum_loop ?_
    rw [Around.under_plainId F.plain_sum_loop _]
    show wpAny _ A.in1 (seqItems? (.ref S) >>= _) _ _ s
    refine wpAny_bind (wpAny_seqItems hS rfl ?_)
    show wpAny _ A.in1 (tryCatch (pyNext (.ref I)) _ >>= _) _ _ s
    refine wpAny_bind (wpAny_tryCatch (W.item i s _ _ hlt hst fun v h' tk hP hst' hk' => ?_))
    obtain ⟨li, cl, rfl, hli, hlw, hlS⟩ := hval i v hP
    have hS' := hk' S _ hSw hS
    have hT' := hk' T _ hTw hT
    have hl' := hk' li _ hlw (hkp li _ hlw hlS hli)
    show wpAny _ A.in1 ((holding [Value.ref li] (binaryOp .Add (.ref T) (.ref li))).attempt >>= _) _ _ _
    have hs1 : (preL ws (i + 1)).length = (preL ws i).length + (ws i).length := by
      show (preL ws i ++ ws i).length = _
      exact List.length_append
    refine wpAny_bind (wpAny_attempt (wpAny_holding (PySem.P.add_list hT' hl' ?_ (by rw [List.size_toArray, List.size_toArray]; have := hsz (i + 1) hlt; omega))))
    have ea : (preL ws i).toArray ++ (ws i).toArray = (preL ws (i + 1)).toArray := by
      show _ = (preL ws i ++ ws i).toArray
      simp
    rw [ea]
    have hSlt := Heap.lt_size hS'
    have hS1 : (h'.push { cls := .type "list", data := .seq (preL ws (i + 1)).toArray }).get? S = _ := Heap.get?_push_of_some _ hS'
    show wpAny _ A.in1 (updateSeq S (fun _ => #[.ref h'.objs.size]) >>= _) _ _ _
    refine wpAny_bind ?_
    refine wpAny_updateSeq hS1 rfl ?_
    have hS2 := Heap.get?_update_self (Obj.mapSeq fun _ => #[Value.ref h'.objs.size]) hS1 rfl
    refine wpAny_bind (wpAny_letGo ?_)
    refine wpAny_bind ?_
    have hSl : S < h'.objs.size := hSlt
    have hne : S ≠ h'.objs.size := Nat.ne_of_lt hSl
    have hge : h0.objs.size ≤ h'.objs.size := Nat.le_of_lt (Nat.lt_of_le_of_lt hS0 hSl)
    refine wpAny_updateSeq hS2 rfl (wpAny_pure ⟨plainId_quiet F.plain_sum_loop _, ih (i + 1) _ h'.objs.size 0 _ (by omega) hlt (W.frame _ _ _ hst' fun b hb o e => ?_) (Heap.get?_update_self _ hS2 rfl) ?_ ?_ (Ne.symm hne) (.inr ⟨Nat.succ_pos _, hge⟩) (fun b o hbw hbS e => ?_) fun h'' tk'' T'' c'' hk'' => ?_⟩)
    · exact (Heap.get?_update_other _ _ (fun h : S = b => hSf (by rw [h]; exact hb))).trans ((Heap.get?_update_other _ _ (fun h : S = b => hSf (by rw [h]; exact hb))).trans (Heap.get?_push_of_some _ e))
    · exact (Heap.get?_update_other _ _ hne).trans ((Heap.get?_update_other _ _ hne).trans (Heap.get?_push_size h' rfl))
    · exact fun hm => Nat.lt_irrefl _ (Nat.lt_of_lt_of_le (hwr _ hm) hge)
    · exact (Heap.get?_update_other _ _ (Ne.symm hbS)).trans ((Heap.get?_update_other _ _ (Ne.symm hbS)).trans (Heap.get?_push_of_some _ (hk' b o hbw (hkp b o hbw hbS e))))
    · exact hR h'' tk'' T'' c'' fun b o hbw hbS e => hk'' b o hbw hbS ((Heap.get?_update_other _ _ (Ne.symm hbS)).trans ((Heap.get?_update_other _ _ (Ne.symm hbS)).trans (Heap.get?_push_of_some _ (hk' b o hbw e))))
end
section
variable {prog : Program} {w : World} {A : Around} {E : Value → Shared → Prop} {s : Shared}
theorem call_sumL {l st : Addr} {its : List Value} {c cs : Nat} {ws : Nat → List Value} {Q : Value → Shared → Prop} (hh : A.handled = none) (hl : IsL s.heap l its.toArray c) (hst : IsL s.heap st #[] cs)
    (hit : ∀ i v, its[i]? = some v → ∃ li c, v = .ref li ∧ IsL s.heap li (ws i).toArray c) (hsz : ∀ j, j ≤ its.length → (preL ws j).length ≤ sizeLine)
    (h : ∀ h' tk T c, (∀ b o, s.heap.get? b = some o → h'.get? b = some o) → IsL h' T (preL ws its.length).toArray c → ((its.length = 0 ∧ T = st) ∨ (0 < its.length ∧ s.heap.objs.size ≤ T)) → Q (.ref T) { s with heap := h', toks := tk }) :
    wpAny (model prog w) A (call (.builtin "sum") [.ref l, .ref st]) Q E s := by
  refine call_function_tree F.kind_sum F.plain_sum F.entry_sum (args_sum2 _ _) ?_
  unfold Builtin.«sum»
  simp only [List.length_cons, List.length_nil]
  rw [if_neg (by decide)]
  refine wpAny_bind (wpAny_of_eq (show Builtin.Builtins.bindParams "sum" ["start"] 0 ⟨[.ref st], []⟩ = pure [some (.ref st)] from rfl) ?_)
  have hll : l < s.heap.objs.size := Heap.lt_size hl
  have hsl : st < s.heap.objs.size := Heap.lt_size hst
  refine wpAny_bind (wpAny_pyIter_list (items := its.toArray) ⟨_, hl, rfl, _, rfl⟩ ?_)
  refine wpAny_bind (wpAny_pure ?_)
  simp only [List.forIn_cons, List.forIn_nil]
  have ht : ∀ (tk : Nat) (h' : Heap), IsL h' st #[] cs → (Shared.TypeIs { s with heap := h', toks := tk } (.ref st) "list") := fun tk h' e => ⟨_, e, rfl⟩
  have hst1 : IsL (s.heap.push { cls := .type "list_iterator", data := .fields #[.ref l, .int 0 0] }) st #[] cs := Heap.get?_push_of_some _ hst
  refine wpAny_bind (wpAny_bind (wpAny_bind (wpAny_isInstance (T := "list") (b := false) (ht _ _ hst1) sub_list_str ?_)))
  simp only [Bool.false_eq_true, if_false]
  refine wpAny_pure (wpAny_bind (wpAny_bind (wpAny_isInstance (T := "list") (b := false) (ht _ _ hst1) PySem.F.sub_list_bytes ?_)))
  simp only [Bool.false_eq_true, if_false]
  refine wpAny_pure (wpAny_bind (wpAny_bind (wpAny_isInstance (T := "list") (b := false) (ht _ _ hst1) PySem.F.sub_list_bytearray ?_)))
  simp only [Bool.false_eq_true, if_false]
  refine wpAny_pure (wpAny_pure ?_)
  refine wpAny_bind (wpAny_newObj_type ?_)
  have hsz1 : (s.heap.push { cls := .type "list_iterator", data := .fields #[.ref l, .int 0 0] }).objs.size = s.heap.objs.size + 1 := Heap.size_push ..
  have hI : (s.heap.push { cls := .type "list_iterator", data := .fields #[.ref l, .int 0 0] }).get? s.heap.objs.size = _ := Heap.get?_push_size _ rfl
  have hne : l ≠ s.heap.objs.size := Nat.ne_of_lt hll
  have W := Walks.list (prog := prog) (w := w) (A := A.in1) hh s.heap.objs.size l hne its.toArray
  have hSf : (s.heap.push { cls := .type "list_iterator", data := .fields #[.ref l, .int 0 0] }).objs.size ∉ [s.heap.objs.size, l] := by
    rw [hsz1]
    intro hm
    rcases List.mem_cons.mp hm with e | hm
    · exact Nat.succ_ne_self _ e
    · rcases List.mem_cons.mp hm with e | hm
      · exact absurd hll (by rw [← e]; exact Nat.not_lt.mpr (Nat.le_succ _))
      · cases hm
  have lt2 : ∀ {a : Addr}, a < s.heap.objs.size → a ∉ [s.heap.objs.size] ∧ a ≠ (s.heap.push { cls := .type "list_iterator", data := .fields #[.ref l, .int 0 0] }).objs.size := by
    intro a ha
    refine ⟨fun hm => ?_, fun e => ?_⟩
    · rcases List.mem_cons.mp hm with e | hm
      · exact Nat.ne_of_lt ha e
      · cases hm
    · rw [hsz1] at e
      exact Nat.ne_of_lt (Nat.lt_succ_of_lt ha) e
  refine wpAny_pure ⟨plainId_quiet F.plain_sum_loop _, codeAny_sum_loopL W _ hSf (s.heap.push { cls := .type "list_iterator", data := .fields #[.ref l, .int 0 0] }) (Nat.le_refl _) (fun b hb => ?_) ws st (fun i v hP => ?_) (fun j hj => hsz j (by simpa using hj)) its.toArray.size 0 _ st cs 0 rfl (Nat.zero_le _) ⟨⟨_, Heap.get?_push_of_some _ hI, rfl, rfl⟩, ?_⟩ (Heap.get?_push_size _ rfl) (Heap.get?_push_of_some _ hst1) (lt2 hsl).1 (lt2 hsl).2 (.inl ⟨rfl, rfl⟩) (fun b o _ _ e => Heap.get?_push_of_some _ e) fun h' tk T cT hk hT hfr => ?_⟩
  · rcases List.mem_cons.mp hb with rfl | hb
    · rw [hsz1]; exact Nat.lt_succ_self _
    · cases hb
  · obtain ⟨li, cl, rfl, hli⟩ := hit i v (by simpa using hP)
    exact ⟨li, cl, rfl, Heap.get?_push_of_some _ hli, (lt2 (Heap.lt_size hli)).1, (lt2 (Heap.lt_size hli)).2⟩
  · exact ⟨_, Heap.get?_push_of_some _ (Heap.get?_push_of_some _ hl), rfl, _, rfl⟩
  · have e : its.toArray.size = its.length := List.size_toArray
    rw [e] at hT hfr
    refine h h' tk T cT (fun b o e => ?_) hT (hfr.imp (fun z => z) fun z => ⟨z.1, Nat.le_trans (by rw [hsz1]; exact Nat.le_succ _) z.2⟩)
    have hb := Heap.lt_size e
    exact hk b o (lt2 hb).1 (lt2 hb).2 (Heap.get?_push_of_some _ (Heap.get?_push_of_some _ e))
end
theorem preL_map (xss : List (List Value)) : ∀ j, j ≤ xss.length → preL (fun i => xss.getD i []) j = (xss.take j).flatten
  | 0, _ => rfl
  | j + 1, h => by
    show preL _ j ++ xss.getD j [] = _
    rw [preL_map xss j (by omega), List.take_add_one, List.flatten_append, List.getD_eq_getElem?_getD]
    rw [List.getElem?_eq_getElem (by omega)]
    simp
inductive Lss (H : Hp) : List Addr → List (List V) → Prop
  | nil : Lss H [] []
  | cons {a : Addr} {xs : List V} {as : List Addr} {xss : List (List V)} : H a = some (.lst xs) → Lss H as xss → Lss H (a :: as) (xs :: xss)
def rSumL : List V → Hp → VK → Prop := fun vs H Q => ∃ (a b : Addr) (ls : List Addr) (xss : List (List V)), vs = [V.ref a, V.ref b] ∧ H a = some (.lst (ls.map V.ref)) ∧ H b = some (.lst []) ∧ Lss H ls xss ∧ xss.flatten.length ≤ sizeLine ∧
  (xss = [] → Q (.ref b) H) ∧ (xss ≠ [] → ∀ p, H p = none → Q (.ref p) (upd H p (.lst xss.flatten)))
section
variable {X : Cx} {pins : List (Addr × Obj)} {σ : L2.St} {H : Hp} {s : Shared}
theorem lss_len {ls : List Addr} {xss : List (List V)} (h : Lss H ls xss) : ls.length = xss.length := by
  induction h with
  | nil => rfl
  | cons _ _ ih => rw [List.length_cons, List.length_cons, ih]
theorem lss_vals (I : Inv X pins σ H s) : ∀ {ls : List Addr} {xss : List (List V)}, Lss H ls xss → ∃ uss : List (List Value), uss.length = xss.length ∧ Vals xss.flatten uss.flatten ∧ (∀ k, (xss.take k).flatten.length = (uss.take k).flatten.length) ∧ ∀ i v, (ls.map Value.ref)[i]? = some v → ∃ li c, v = .ref li ∧ IsL s.heap li (uss.getD i []).toArray c
  | _, _, .nil => ⟨[], rfl, .nil, fun k => by simp, fun i v h => by simp at h⟩
  | _, _, .cons (a := a) (xs := xs) h r => by
    obtain ⟨z, its, n, rv, hl, e⟩ := I.lstM h
    obtain ⟨uss, h1, h2, h3, h4⟩ := lss_vals I r
    refine ⟨its :: uss, by simp [h1], ?_, fun k => ?_, fun i v hv => ?_⟩
    · rw [List.flatten_cons, List.flatten_cons]
      exact rv.append h2
    · cases k with
      | zero => simp
      | succ k =>
        rw [List.take_succ_cons, List.take_succ_cons, List.flatten_cons, List.flatten_cons, List.length_append, List.length_append, h3 k, hl]
    · cases i with
      | zero =>
        simp at hv
        subst hv
        exact ⟨a, n, rfl, e⟩
      | succ i =>
        obtain ⟨li, c, e1, e2⟩ := h4 i v (by simpa using hv)
        exact ⟨li, c, e1, by simpa using e2⟩
theorem vals_refs : ∀ {ls : List Addr} {us : List Value}, Vals (ls.map V.ref) us → us = ls.map Value.ref
  | [], us, h => by
    rw [List.map_nil] at h
    cases h
    rfl
  | a :: ls, us, h => by
    rw [List.map_cons] at h
    cases h with
    | cons r t =>
      cases r
      rw [vals_refs t, List.map_cons]
theorem cr_sumL (hc : X.calm = true) : CallR X (.builtin "sum") rSumL := by
  intro pins s σ H vs us Q I r h
  obtain ⟨a, b, ls, xss, rfl, ha, hb, hl, hz, q0, q1⟩ := h
  obtain ⟨u, u', rfl, ru, ru'⟩ : ∃ u u', us = [u, u'] ∧ RelV (.ref a) u ∧ RelV (.ref b) u' := by
    cases r with
    | cons r1 r2 => cases r2 with
      | cons r2 r3 => cases r3; exact ⟨_, _, rfl, r1, r2⟩
  cases ru
  cases ru'
  obtain ⟨z, its, n, rv, hlen, e⟩ := I.lstM ha
  obtain ⟨z2, its2, n2, rv2, hlen2, e2⟩ := I.lstM hb
  have hits := vals_refs rv
  subst hits
  cases rv2
  obtain ⟨uss, h1, h2, h3, h4⟩ := lss_vals I hl
  have ll := lss_len hl
  have pe : ∀ j, j ≤ (ls.map Value.ref).length → (preL (fun i => uss.getD i []) j).length ≤ sizeLine := fun j hj => by
    rw [List.length_map] at hj
    rw [preL_map uss j (by omega), ← h3 j]
    refine Nat.le_trans ?_ hz
    have := congrArg List.length (congrArg List.flatten (List.take_append_drop j xss))
    rw [List.flatten_append, List.length_append] at this
    omega
  refine call_sumL (ws := fun i => uss.getD i []) (I.ok.hd hc) e e2 h4 pe fun h' tk T c hk hT hfr => ?_
  have ef : preL (fun i => uss.getD i []) (ls.map Value.ref).length = uss.flatten := by
    rw [List.length_map, preL_map uss _ (by omega), List.take_of_length_le (by omega)]
  rw [ef] at hT
  rw [List.length_map] at hfr
  rcases hfr with ⟨hn, rfl⟩ | ⟨hn, hfr⟩
  · have : xss = [] := List.length_eq_zero_iff.mp (by omega)
    exact ⟨.ref T, H, I.kept hk, rfl, q0 this⟩
  · have hx : xss ≠ [] := fun e => by rw [e, List.length_nil] at ll; omega
    have ok : ObjOk X.prog X.w (upd H T (.lst xss.flatten)) h' T (.lst xss.flatten) := ⟨hz, _, c, h2, hT⟩
    exact ⟨.ref T, _, I.laid hk hfr ok, rfl, q1 hx T (I.hok.fresh hfr)⟩
end
def lssD : List D → Option (List (List D))
  | [] => some []
  | .lst xs :: r => (lssD r).map (xs :: ·)
  | _ => none
theorem lssD_map {α : Type} (f : α → List D) : ∀ as : List α, lssD (as.map fun a => D.lst (f a)) = some (as.map f)
  | [] => rfl
  | a :: r => by
    show (lssD (r.map fun a => D.lst (f a))).map _ = _
    rw [lssD_map f r]
    rfl
theorem lss_of {K : PySem.W.Frag} {G : Hp} : ∀ {vs : List V} {ds : List D} {xss : List (List D)}, RpL K G vs ds → lssD ds = some xss → ∃ (ls : List Addr) (vss : List (List V)), vs = ls.map V.ref ∧ Lss G ls vss ∧ RpL K G vss.flatten xss.flatten ∧ vss.length = xss.length
  | _, _, _, .nil, h => by cases h; exact ⟨[], [], rfl, .nil, .nil, rfl⟩
  | _, _, xss, .cons (d := d) r rs, h => by
    cases d with
    | lst xs =>
      obtain ⟨yss, h1, rfl⟩ := Option.map_eq_some_iff.mp h
      obtain ⟨ls, vss, rfl, h2, h3, h4⟩ := lss_of rs h1
      cases r with
      | lst g rl => exact ⟨_ :: ls, _ :: vss, rfl, .cons g h2, by rw [List.flatten_cons, List.flatten_cons]; exact rl.append h3, by simp [h4]⟩
    | _ => cases h
theorem Lss.mono {G H : Hp} (s : SameF G H) : ∀ {ls : List Addr} {vss : List (List V)}, Lss G ls vss → Lss H ls vss
  | _, _, .nil => .nil
  | _, _, .cons h r => .cons (s _ _ h) (Lss.mono s r)
def sumLK : Option (List (List D)) → M D
  | some xss => M.guard (decide (xss.flatten.length ≤ sizeLine)) (M.ret (.lst xss.flatten))
  | none => M.fail
def sumLF : List D → M D
  | [.lst ds, .lst []] => sumLK (lssD ds)
  | _ => M.fail
theorem sumLF_some {ds : List D} {d : D} {b b' : Bs} (h : sumLF ds b = some (d, b')) : ∃ xs xss, ds = [.lst xs, .lst []] ∧ lssD xs = some xss ∧ xss.flatten.length ≤ sizeLine ∧ d = .lst xss.flatten ∧ b = b' := by
  unfold sumLF at h
  split at h
  · rename_i xs
    cases e : lssD xs with
    | none => rw [e] at h; cases h
    | some xss =>
      rw [e] at h
      obtain ⟨c, e2⟩ := M.guard_some h
      cases e2
      exact ⟨xs, xss, rfl, e, of_decide_eq_true c, rfl, rfl⟩
  · cases h
theorem snd_sumL {X : Cx} : SndC X.K rSumL sumLF := by
  intro G H b vs ds d b' Q r fz ob e q
  obtain ⟨xs, xss, rfl, h1, h2, rfl, rfl⟩ := sumLF_some e
  obtain ⟨v, w, rfl, r1, r2⟩ := r.two
  cases r1 with
  | lst g1 l1 => cases r2 with
    | lst g2 l2 =>
      cases l2
      obtain ⟨ls, vss, rfl, h3, h4, h5⟩ := lss_of l1 h1
      have hl := h4.length
      refine ⟨_, _, ls, vss, rfl, fz _ _ g1, fz _ _ g2, h3.mono fz, by rw [hl]; exact h2, fun hn => ?_, fun hn p hp => ?_⟩
      · subst hn
        obtain rfl : xss = [] := List.length_eq_zero_iff.mp (by rw [← h5]; rfl)
        exact q _ G H (Nxt.refl fz ob) (.lst g2 .nil)
      · have m := Nxt.newF (o := .lst vss.flatten) fz ob hp
        exact q _ _ _ m (.lst upd_same (h4.mono m.gg))
theorem d_sumL {X : Cx} {a c : Expr} {p pos : Pos} {fa : Env → M (List D)} (hc : X.calm = true) (hg : Gl X "sum") (hm : X.mg "sum" = none) (ha : DA X [a, c] fa) (he : starEach [a, c] X.env = (false, eval a X.env) :: starEach [c] X.env := by rfl) (hpl : (backTo pos (starEach [c] X.env)).any (·.1) = false := by rfl) :
    DE X (.Call (.Name "sum" p) [a, c] [] pos) (fun ρ => M.bind (fa ρ) sumLF) := d_callB (cr_sumL hc) snd_sumL hg hm (by decide +kernel) ha (he := he) (hpl := hpl)
theorem q_sumL {α : Type} (f : α → List D) (as : List α) (h : (as.map f).flatten.length ≤ 16777216) : sumLF [.lst (as.map fun a => D.lst (f a)), .lst []] = M.ret (.lst (as.map f).flatten) := by
  show sumLK (lssD _) = _
  rw [lssD_map]
  exact M.guard_of (decide_eq_true h)
section
variable {X : Cx} {c : Nat} {C : Addr} {e o : Expr} {es : List Expr} {f : Env → M D} {fa : Env → M (List D)} {pos : Pos} {k : Nat} {g : Addr} {fd : FuncData} {ps : List Str} {n : Nat} {Fn : List D → M D}
theorem d_callO (T : ClsAt X.K X.mg c C) (hm : Meth X.K C "__call__" g) (hf : PySem.W.fnIn X.K g = true) (F : FnOk X.prog X.w X.K X.mg X.base CX0 k g fd ps (spD X.K (n + 1) Fn)) (hb : Binds X.K fd ps []) (hr : Room k X.A) (he : DE X o f) (ha : DA X (e :: es) fa) (hn : ArN fa n)
    (ht : eval (.Call o (e :: es) [] pos) X.env = (do callWith pos (← eval o X.env) [] (backTo pos (starEach (e :: es) X.env)) (backToKw pos (keywordEach [] X.env))) := by rfl)
    (hst : starEach (e :: es) X.env = (false, eval e X.env) :: starEach es X.env := by rfl) (hpl : (backTo pos (starEach es X.env)).any (·.1) = false := by rfl) :
    DE X (.Call o (e :: es) [] pos) (eMeth c Fn f fa) := by
  refine PEimp (StX.pe_callO (E := E0) he ⟨hm.at_, hm.fn, hf⟩ (raw1 F hb) hr pass0 ha ht hst hpl) ?_
  rintro σ H Q ⟨ρ, G, b, d, b', rs, fz, ob, e, q⟩
  obtain ⟨x, b1, e1, e2⟩ := M.bind_some e
  obtain ⟨hc, e3⟩ := M.guard_some e2
  obtain ⟨ds, b2, e4, e5⟩ := M.bind_some e3
  refine ⟨ρ, G, b, x, b1, rs, fz, ob, e1, fun v G1 H1 n1 r => ?_⟩
  obtain ⟨a, dx, vs, fs, rfl, rfl, hs, rl⟩ := isC_rp T hc r
  refine ⟨a, rfl, ρ, G1, b1, ds, b2, rs.mono n1.gg, n1.fz, n1.bag, e4, fun ws G2 H2 n2 r2 => ?_⟩
  refine ⟨.inl ⟨dx, _, slt_mono n2.fz (slt_mono (SameF.of n2.gg) hs)⟩, G2, b2, .obj c fs :: ds, d, b', .cons (r.mono n2.gg) r2, by simp [hn _ _ _ _ e4], n2.fz, n2.bag, e5, fun v G3 H3 n3 r3 => q v G3 H3 ((n1.trans n2).trans n3) r3⟩
end
end DL
set_option Elab.async false
set_option maxRecDepth 100000
set_option autoImplicit false
set_option linter.unusedVariables false
set_option maxHeartbeats 4000000
namespace DL
open PySem L2 PySem.Spec PyProof.Rows
variable [TAB : TabList]
variable [EFF : Eff]
set_option linter.unusedSectionVars false
theorem upd_more {G : Hp} {p : Addr} {o : HO} (gp : G p = none) : Same G (upd G p o) := fun a u h => by rw [upd_ne (ne_of_none h gp)]; exact h
theorem NxtB.freeze {x : Bool} {G H G' H' : Hp} {b b' : Bs} {p : Addr} {o : HO} (n : NxtB x G H b G' H' b') (ob : BagOk G H b) (hp : H p = none) (gp : G' p = none) (hh : H' p = some o) (ho : ∀ k, o ≠ ghost k := by intro k z; cases z) : NxtB x G H b (upd G' p o) H' b' := by
  have sg : Same G' (upd G' p o) := upd_more gp
  refine ⟨fun a u h => sg a u (n.gg a u h), n.fz.frz hh, n.keepB, fun a u h hn => ?_, ?_, n.like⟩
  · rw [upd_ne (ne_of_none h hp)]; exact n.new a u h hn
  · exact n.bag.frz (by rw [← Bs.like_at n.like]; exact bag_ne ob hp) gp ho
abbrev RpQ (K : PySem.W.Frag) (G : Hp) : List (V × V) → List (D × D) → Prop := Paired fun p q => Rp K G p.1 q.1 ∧ Rp K G p.2 q.2
theorem RpQ.mono {K : PySem.W.Frag} {G G' : Hp} (e : Same G G') : ∀ {vs : List (V × V)} {ds : List (D × D)}, RpQ K G vs ds → RpQ K G' vs ds
  | _, _, .nil => .nil
  | _, _, .cons a b => .cons ⟨a.1.mono e, a.2.mono e⟩ (RpQ.mono e b)
def dispD : List (D × D) → Option (List Key × List D)
  | [] => some ([], [])
  | (x, y) :: r => match keyD x, dispD r with
    | some k, some (ks, ds) => some (k :: ks, y :: ds)
    | _, _ => none
theorem mergeK_new : ∀ (more acc : List (Key × V)), ((acc ++ more).map (·.1)).Nodup → mergeK acc more = acc ++ more
  | [], acc, _ => by simp [mergeK]
  | (k, v) :: r, acc, h => by
    have hk : (acc.any fun kv => decide (kv.1 = k)) = false := by
      rw [List.any_eq_false]
      intro kv hkv hd
      rw [List.map_append, List.nodup_append] at h
      exact h.2.2 kv.1 (List.mem_map.mpr ⟨kv, hkv, rfl⟩) k (by simp) (of_decide_eq_true hd)
    show mergeK (putK acc k v) r = _
    unfold putK
    rw [hk, if_neg (by simp), mergeK_new r (acc ++ [(k, v)]) (by simpa using h)]
    simp
theorem dispD_of {K : PySem.W.Frag} {G : Hp} : ∀ {vs : List (V × V)} {l : List (D × D)} {ks : List Key} {ds : List D}, RpQ K G vs l → dispD l = some (ks, ds) → ∃ us : List V, vs = (ks.zip us).map (fun kv => (kV kv.1, kv.2)) ∧ ks.length = us.length ∧ RpL K G us ds
  | _, _, _, _, .nil, h => by cases h; exact ⟨[], rfl, rfl, .nil⟩
  | _, _, ks, ds, .cons (b := (x, y)) (l₂ := bs) (a := (v, u)) r rs, h => by
    unfold dispD at h
    cases e1 : keyD x with
    | none => rw [e1] at h; cases h
    | some k =>
      cases e2 : dispD bs with
      | none => rw [e1, e2] at h; cases h
      | some p =>
        obtain ⟨ks2, ds2⟩ := p
        rw [e1, e2] at h
        cases h
        obtain ⟨us, h1, h2, h3⟩ := dispD_of rs e2
        have hk := keyD_of r.1 e1
        have hk : v = kV k := hk
        subst hk
        exact ⟨u :: us, by rw [h1]; rfl, by simp [h2], .cons r.2 h3⟩
def eDispK : Option (List Key × List D) → M D
  | some (ks, ds) => M.guard (decide ks.Nodup && decide (ks.length ≤ 15)) (M.ret (.dct ks ds))
  | none => M.fail
section
variable {X : Cx} {pos : Pos}
end
def tputK (ρ : Env2) (j : Nat) (k : Option (List Key)) (d : D) : Option (Option Slot) → M Out
  | some (some (.tr (.t ks os))) => match k with
    | some k => M.guard (decide (ks.length < sizeLine)) (M.ret (.nx (ρ.set j (some (.tr (.t (setKs ks k) (setVs ks os k (.v d))))))))
    | none => M.fail
  | _ => M.fail
def tputM (j : Nat) (ms : List Nat) (fv : Env → M D) (fk : Env → M (List D)) (ρ : Env2) : M Out := M.bind (fv (view ms ρ)) fun d => M.bind (fk (view ms (keepIf d.flat ms ρ))) fun ys => M.guard (szL ys) (tputK (keepIf d.flat ms ρ) j (keysD ys) d (keepIf d.flat ms ρ)[j]?)
section
variable {X : Cx} {pos : Pos}
def inTK (neg : Bool) (k : Option (List Key)) : D → M Bool
  | .dcT ks ds => match k with
    | some k => M.ret (if neg then !(getK ks ds k).isSome else (getK ks ds k).isSome)
    | none => M.fail
  | _ => M.fail
def tInT (neg : Bool) (fa : Env → M (List D)) (g : Env → M D) : Env → M Bool := fun ρ => M.bind (fa ρ) fun xs => M.guard (szL xs) (M.bind (g ρ) fun y => inTK neg (keysD xs) y)
theorem inT_f {K : PySem.W.Frag} {neg : Bool} {fa : Env → M (List D)} {g : Env → M D} {σ : L2.St} {H : Hp} {Q : Bool → Hp → Prop} (h : tFT K (tInT neg fa g) σ H Q) :
    tFA K fa σ H fun vs H1 => vs.length ≤ sizeLine ∧ ∀ p, H1 p = none → tF K g σ (upd H1 p (.tup vs)) fun x H2 => ∃ a o, x = .ref a ∧ DGet H2 a (.ref p) o ∧ Q (if neg then !o.isSome else o.isSome) H2 := by
  obtain ⟨ρ, G, b, d, b', rs, fz, ob, e, q⟩ := h
  obtain ⟨xs, b1, e1, e2⟩ := M.bind_some e
  obtain ⟨hz, e2⟩ := M.guard_some e2
  obtain ⟨y, b2, e2, e3⟩ := M.bind_some e2
  refine ⟨ρ, G, b, xs, b1, rs, fz, ob, e1, fun vs G1 H1 n1 r1 => ⟨by rw [r1.length]; exact of_decide_eq_true hz, fun p hp => ?_⟩⟩
  have m := Nxt.newF (o := .tup vs) n1.fz n1.bag hp
  refine ⟨ρ, _, b1, y, b2, (rs.mono n1.gg).mono m.gg, m.fz, m.bag, e2, fun x G2 H2 n2 r2 => ?_⟩
  cases y with
  | dcT ks ds =>
    cases ek : keysD xs with
    | none => rw [ek] at e3; cases e3
    | some k =>
      rw [ek] at e3
      cases e3
      cases r2 with
      | @dcT pa _ us _ hg hl rl =>
        have hk := keysD_of r1 ek
        refine ⟨pa, _, rfl, .inr ⟨_, k, p, SameF.rd n2.fz hg, rfl, by rw [n2.fz p _ (n2.gg p _ upd_same), hk], rfl⟩, ?_⟩
        obtain ⟨k1, k2⟩ := RpL.getK k (ks := ks) rl
        rw [valV_zip]
        have es : (getK ks us k).isSome = (getK ks ds k).isSome := by
          cases ed : getK ks ds k with
          | none => rw [k2 ed]; rfl
          | some z => obtain ⟨u, h1, _⟩ := k1 z ed; rw [h1]; rfl
        rw [es]
        exact q G2 H2 ((n1.trans m).trans n2)
  | _ => cases e3
variable {es : List Expr} {b : Expr} {kk : Nat} {p2 : Pos} {fa : Env → M (List D)} {g : Env → M D}
end
end DL
set_option Elab.async false
set_option maxRecDepth 100000
set_option autoImplicit false
set_option linter.unusedVariables false
set_option maxHeartbeats 4000000
namespace DL
open PySem L2 PySem.Spec PyProof.Rows
variable [TAB : TabList]
variable [EFF : Eff]
set_option linter.unusedSectionVars false
theorem q_tput (ρ2 : Env2) (ms : List Nat) (j : Nat) (fv : Env → M D) (fk : Env → M (List D)) : tputM j ms fv fk ρ2 = bnd (fv (view ms ρ2)) fun d => bnd (fk (view ms (keepIf d.flat ms ρ2))) fun ys => M.guard (szL ys) (tputK (keepIf d.flat ms ρ2) j (keysD ys) d (keepIf d.flat ms ρ2)[j]?) := rfl
theorem q_tputK {ρ2 : Env2} {j : Nat} {k : List Key} {d : D} {ks : List (List Key)} {os : List O} (h : ks.length < 16777216) : tputK ρ2 j (some k) d (some (some (.tr (.t ks os)))) = M.ret (.nx (ρ2.set j (some (.tr (.t (setKs ks k) (setVs ks os k (.v d))))))) := M.guard_of (decide_eq_true h)
theorem q_inT (ρ : Env) (neg : Bool) (fa : Env → M (List D)) (g : Env → M D) : tInT neg fa g ρ = bnd (fa ρ) fun xs => M.guard (szL xs) (bnd (g ρ) fun y => inTK neg (keysD xs) y) := rfl
theorem q_inTK (neg : Bool) (k : List Key) (ks : List (List Key)) (ds : List D) : inTK neg (some k) (.dcT ks ds) = M.ret (if neg then !(getK ks ds k).isSome else (getK ks ds k).isSome) := rfl
theorem q_keysI1 (i : Int) (r : List D) (ks : List Key) (h : keysD r = some ks) : keysD (.int i :: r) = some (.inl i :: ks) := by
  unfold keysD
  rw [h]; rfl
theorem q_keys2s (x y : List Nat) : keysD [.str x, .str y] = some [kS x, kS y] := rfl
theorem q_keys2i (x : List Nat) (i : Int) : keysD [.str x, .int i] = some [kS x, .inl i] := rfl
theorem q_keys2ii (i j : Int) : keysD [.int i, .int j] = some [.inl i, .inl j] := rfl
end DL
set_option Elab.async false
set_option maxRecDepth 100000
set_option autoImplicit false
set_option linter.unusedVariables false
set_option maxHeartbeats 4000000
namespace DL
open PySem L2 PySem.Spec PyProof.Rows
variable [TAB : TabList]
variable [EFF : Eff]
set_option linter.unusedSectionVars false
section
variable {M : Model} {prog : Program} {w : World} {A : Around} {E : Value → Shared → Prop} {s : Shared} {K : PySem.W.Frag} {x C f L : Addr} {ox : Obj} {od : Option Obj} {h₀ : Heap} {m : Str → Option Value} {b tb : Value}
end
section
variable {X : Cx} {CX : CXT} {C g : Addr} {n : Nat} {sp : Sp} {E : XK}
end
section
variable {X : Cx} {a b e : Expr} {pos p p2 : Pos} {c : Nat} {C g : Addr} {k : Nat} {fd : FuncData} {ps : List Str} {f h : Env → M D}
end
section
variable {X : Cx} {a b : Expr} {pos : Pos} {f g : Env → M D}
end
end DL
set_option Elab.async false
set_option maxRecDepth 100000
set_option autoImplicit false
set_option linter.unusedVariables false
set_option maxHeartbeats 4000000
namespace DL
open PySem L2 PySem.Spec PyProof.Rows
variable [TAB : TabList]
variable [EFF : Eff]
set_option linter.unusedSectionVars false
section
variable {prog : Program} {w : World} {A : Around} {E : Value → Shared → Prop} {s : Shared} {l : Addr} {its : List Value} {zs : List (List Nat)} {Q : Value → Shared → Prop}
end
section
variable {X : Cx} {e : Expr} {es : List Expr} {fa : Env → M (List D)} {p pos : Pos}
end
end DL
set_option Elab.async false
set_option maxRecDepth 100000
set_option autoImplicit false
set_option linter.unusedVariables false
set_option maxHeartbeats 4000000
namespace DL
open PySem L2 PySem.Spec PyProof.Rows
variable [TAB : TabList]
variable [EFF : Eff]
set_option linter.unusedSectionVars false
def leS (a b : List Nat) : Bool := !decide (b < a)
theorem leS_iff {a b : List Nat} : leS a b = true ↔ a ≤ b := by
  unfold leS
  rw [Bool.not_eq_true', decide_eq_false_iff_not]
  exact List.not_lt
def sortS (xs : List (List Nat)) : List (List Nat) := xs.mergeSort leS
theorem leS_trans (a b c : List Nat) (h1 : leS a b = true) (h2 : leS b c = true) : leS a c = true := leS_iff.mpr (List.le_trans (leS_iff.mp h1) (leS_iff.mp h2))
theorem leS_total (a b : List Nat) : (leS a b || leS b a) = true := by
  rw [Bool.or_eq_true, leS_iff, leS_iff]
  exact List.le_total a b
theorem leS_anti {a b : List Nat} (h1 : leS a b = true) (h2 : leS b a = true) : a = b := by
  rcases List.le_iff_lt_or_eq.mp (leS_iff.mp h1) with h | h
  · exact absurd h (List.not_lt.mpr (leS_iff.mp h2))
  · exact h
theorem sortS_perm (xs : List (List Nat)) : (sortS xs).Perm xs := List.mergeSort_perm xs _
theorem sortS_pw (xs : List (List Nat)) : (sortS xs).Pairwise (fun a b => leS a b = true) := List.pairwise_mergeSort leS_trans leS_total xs
theorem sortS_uniq {xs ys : List (List Nat)} (h1 : ys.Perm xs) (h2 : ys.Pairwise (fun a b => leS a b = true)) : ys = sortS xs :=
  List.Perm.eq_of_pairwise (le := fun a b => leS a b = true) (fun a b _ _ => leS_anti) h2 (sortS_pw xs) (h1.trans (sortS_perm xs).symm)
section
open SrtO Srt
variable {prog : Program} {w : World} {A : Around} {E : Value → Shared → Prop} {s : Shared}
def ltSv (v u : Value) : Bool := decide ((strOf v).cps.toList < (strOf u).cps.toList)
theorem swo_str : Swo ltSv := by
  refine ⟨fun x y h => ?_, fun x y z h1 h2 => ?_⟩
  · have a := of_decide_eq_true (p := (strOf x).cps.toList < (strOf y).cps.toList) h
    exact decide_eq_false (p := (strOf y).cps.toList < (strOf x).cps.toList) (List.lt_asymm a)
  · have a := of_decide_eq_false (p := (strOf y).cps.toList < (strOf x).cps.toList) h1
    have b := of_decide_eq_false (p := (strOf z).cps.toList < (strOf y).cps.toList) h2
    exact decide_eq_false (p := (strOf z).cps.toList < (strOf x).cps.toList) (List.not_lt.mpr (List.le_trans (List.not_lt.mp a) (List.not_lt.mp b)))
theorem str_cmp {vs : List Value} {ss : List PySem.Str} (hI : StrsAre vs ss) : Cmp prog w A s oneType' (fun p => p.1 ∈ vs) (lt2 ltSv) := by
  intro p q hm hm'
  obtain ⟨a, t, e⟩ := hI.all _ hm
  obtain ⟨b, u, e'⟩ := hI.all _ hm'
  show wpAny (model prog w) A (keyLt' oneType' p.1 q.1) (fun r s' => s' = s ∧ r = ltSv p.1 q.1) (fun _ _ => False) s
  rw [e, e', keyLt'_oneType]
  exact oneLt_str ⟨rfl, rfl⟩
theorem strs_sortable {a : Addr} {vs : List Value} {ss : List PySem.Str} (hI : StrsAre vs ss) (h2 : 2 ≤ vs.length) : SortableO prog w A s a vs ltSv := by
  intro h' _
  refine ⟨oneType', fun Q E hq => ?_, str_cmp hI⟩
  match vs, hI, h2 with
  | v1 :: v2 :: rest, hI, _ =>
    rw [keyKind_strs hI]
    exact wpAny_pure hq
  | [], _, h => exact absurd h (by decide)
  | [v], _, h => exact absurd h (by simp)
theorem strs_out {vs out : List Value} {ss : List PySem.Str} (hI : StrsAre vs ss) (hs : Srtd ltSv out) (hb : Stb ltSv out vs) : StrsAre out (out.map strOf) ∧ (out.map strOf).Perm ss ∧ (out.map strOf).Pairwise (fun a b => ¬ b.cps.toList < a.cps.toList) := by
  refine ⟨strsAre_map out fun v hv => hI.all v (hb.perm.mem_iff.mp hv), ?_, ?_⟩
  · have q := hb.perm.map strOf
    rw [hI.strs] at q
    exact q
  · exact List.pairwise_map.mpr (hs.imp fun {x y} h => of_decide_eq_false (p := (strOf y).cps.toList < (strOf x).cps.toList) h)
end
section
variable {X : Cx}
theorem RpL.strsD {K : PySem.W.Frag} {G : Hp} : ∀ xs : List (List Nat), RpL K G (xs.map fun x => V.str ⟨x.toArray⟩) (xs.map D.str)
  | [] => .nil
  | x :: r => .cons (.str x) (RpL.strsD r)
end
section
variable {X : Cx} {a b : Expr} {pos : Pos} {f g : Env → M D}
theorem d_dict0 {p2 : Pos} : DE X (.Dict [] [] p2) (cst (.dct [] [])) := by
  refine PEimp pe_dnewK ?_
  rintro σ H Q ⟨ρ, G, b, d, b', rs, fz, ob, e, q⟩
  cases e
  intro p hp
  have m := Nxt.newF (o := .dK []) fz ob hp
  exact q _ _ _ m (.dct (ks := []) (vs := []) (.of upd_same) rfl .nil)
end
end DL
set_option Elab.async false
set_option maxRecDepth 100000
set_option autoImplicit false
set_option linter.unusedVariables false
set_option maxHeartbeats 4000000
namespace DL
open PySem L2 PySem.Spec PyProof.Rows
variable [TAB : TabList]
variable [EFF : Eff]
set_option linter.unusedSectionVars false
section
variable {X : Cx} {k : Nat} {f : Addr} {fd : FuncData} {ps : List Str} {x : Str} {p pos : Pos} {Fn : List D → M D} {Fl : List D → M (List D)}
end
end DL
set_option Elab.async false
set_option maxRecDepth 100000
set_option autoImplicit false
set_option linter.unusedVariables false
set_option maxHeartbeats 4000000
namespace DL
open PySem L2 PySem.Spec PyProof.Rows
variable [TAB : TabList]
variable [EFF : Eff]
set_option linter.unusedSectionVars false
variable {X : Cx} {pos : Pos}
end DL
set_option Elab.async false
set_option maxRecDepth 100000
set_option autoImplicit false
set_option linter.unusedVariables false
set_option maxHeartbeats 4000000
namespace DL
open PySem L2 PySem.Spec PyProof.Rows PySem.Calls PySem.NumText
variable [TAB : TabList]
variable [EFF : Eff]
set_option linter.unusedSectionVars false
end DL
set_option Elab.async false
set_option maxRecDepth 100000
set_option autoImplicit false
set_option linter.unusedVariables false
set_option maxHeartbeats 4000000
namespace DL
open PySem L2 PySem.Spec PyProof.Rows
variable [TAB : TabList]
variable [EFF : Eff]
set_option linter.unusedSectionVars false
section
open SrtO Srt
variable {X : Cx}
def rSortedDS : List V → Hp → VK → Prop := fun vs H Q => ∃ (a : Addr) (kvs : List (Key × V)) (xs : List (List Nat)), vs = [V.ref a] ∧ Rd H a (.dK kvs) ∧ kvs.map (·.1) = xs.map (fun x => Sum.inr (⟨x.toArray⟩ : PySem.Str)) ∧ ∀ p : Addr, H p = none → Q (.ref p) (upd H p (.lst ((sortS xs).map fun x => V.str ⟨x.toArray⟩)))
theorem cr_sortedDS (hcalm : X.calm = true) : CallR X (.builtin "sorted") rSortedDS := by
  intro pins s σ H xs0 us Q I r q
  obtain ⟨a, kvs, xs, ex, hd, hks0, q⟩ := q
  subst ex
  obtain ⟨u, eu, rx⟩ := vals1 r
  subst eu
  cases rx
  obtain ⟨z, lo, vs, rel, dd⟩ := dk_rd I.hok hd
  obtain ⟨ep, hat⟩ := dd.dictAt
  have hks : kvs.map (·.1) = (xs.map fun x => (⟨x.toArray⟩ : PySem.Str)).map Sum.inr := by rw [hks0, List.map_map]; rfl
  generalize hk0 : (xs.map fun x => (⟨x.toArray⟩ : PySem.Str)) = ks at hks
  have hkeys : vs.map (·.1) = ks.map Sum.inr := rel.keys.symm.trans hks
  have hl : vs.length = ks.length := by
    have e := congrArg List.length hkeys
    rw [List.length_map, List.length_map] at e
    exact e
  have h16 : vs.length ≤ sizeLine := by rw [← rel.length]; exact z
  refine Calls.call_function_entry PyProof.Rows.kind_sorted PyProof.Rows.plain_sorted PyProof.Rows.entry_sorted (PyProof.Rows.args_sorted1 _) ?_
  unfold Builtin.«sorted»
  refine wpAny_bind (m := checkCount "sorted" 1 1 _) (wpAny_pure ?_)
  refine wpAny_bind (PySem.W.kdu_collect (A := X.A.in1) (PySem.W.kdl_dict (knd := mixKind X.prog X.w) (kvs := vs) (ep := ep) lo) (I.ok.hd hcalm) hat h16 fun h' tk acc hk hacc => ?_)
  have hal : acc.toList.length = ks.length := by rw [Array.length_toList, hacc.1, hl]
  have hS : StrsAre acc.toList ks := strs_at hal fun j v e => by
    obtain ⟨k, x, e1, e2⟩ := hacc.2 j v (by rw [← Array.getElem?_toList]; exact e)
    have e3 : (vs.map (·.1))[j]? = some k := by rw [List.getElem?_map, e1]; all_goals rfl
    rw [hkeys, List.getElem?_map] at e3
    cases e4 : ks[j]? with
    | none => rw [e4] at e3; cases e3
    | some y =>
      rw [e4] at e3
      have e5 : Sum.inr y = k := Option.some.inj e3
      subst e5
      obtain ⟨t, ev⟩ := Value.isStrOf_shape (x := y) (v := v) e2
      exact ⟨y, t, rfl, ev⟩
  have I1 : Inv X pins σ H { s with heap := h', toks := tk } := I.kept hk
  have hz : acc.toList.length ≤ sizeLine := by rw [hal, ← hl]; exact h16
  refine wpAny_bind (wpAny_newList ?_ hz)
  have hoL : (h'.push (seqObj "list" acc.toList.toArray 0)).get? h'.objs.size = some (seqObj "list" acc.toList.toArray 0) := Heap.get?_push_size _ rfl
  show wpAny _ _ _ _ _ { s with heap := h'.push (seqObj "list" acc.toList.toArray 0), toks := tk }
  refine wpAny_bind (wpAny_holding (wpAny_call_entry PyProof.Rows.slot_list_sort ⟨_, hoL, rfl⟩ PyProof.Rows.entry_list_sort
    (list_sort_ord swo_str (s := { s with heap := h'.push (seqObj "list" acc.toList.toArray 0), toks := tk }) hoL hz (fun h2 => strs_sortable hS h2) fun out hs hb => ⟨_, rfl, ?_⟩)
    (PyProof.Rows.args_list_sort _)))
  obtain ⟨k1, k2, k3⟩ := strs_out hS hs hb
  obtain ⟨e', he'⟩ := PyProof.Rows.sortedHeap_at (vs := acc.toList) (out := out.toArray) hoL
  have e : out.map strOf = (sortS xs).map fun x => (⟨x.toArray⟩ : PySem.Str) := by
    have h1 : ((out.map strOf).map fun x => x.cps.toList) = sortS xs := by
      refine sortS_uniq ?_ ?_
      · have := k2.map fun x => x.cps.toList
        have e2 : ((fun x : PySem.Str => x.cps.toList) ∘ fun x : List Nat => (⟨x.toArray⟩ : PySem.Str)) = id := rfl
        rw [← hk0, List.map_map (l := xs), e2, List.map_id] at this
        exact this
      · exact List.pairwise_map.mpr (k3.imp fun {x y} h => by unfold leS; rw [decide_eq_false h]; rfl)
    rw [← h1, List.map_map]
    have : ((fun x : List Nat => (⟨x.toArray⟩ : PySem.Str)) ∘ fun x : PySem.Str => x.cps.toList) = id := by
      funext x
      cases x
      simp
    rw [this, List.map_id]
  have hlen : ((out.map strOf).map V.str).length ≤ sizeLine := by
    rw [List.length_map, k2.length_eq, ← hal]
    exact hz
  have eq2 : (out.map strOf).map V.str = (sortS xs).map fun x => V.str ⟨x.toArray⟩ := by rw [e, List.map_map]; rfl
  have ok : ObjOk X.prog X.w (upd H h'.objs.size (.lst ((out.map strOf).map V.str))) (PyProof.Rows.sortedHeap (h'.push (seqObj "list" acc.toList.toArray 0)) h'.objs.size acc.toList out.toArray) h'.objs.size (.lst ((out.map strOf).map V.str)) := ⟨hlen, out, e', vals_of_strs k1, he'⟩
  rw [eq2] at ok
  refine wpAny_pure ⟨_, rfl, .ref h'.objs.size, _, I1.laid (t' := tk) (fun b u e => ?_) (Nat.le_refl _) ok, rfl, q _ (I1.hok.fresh (Nat.le_refl _))⟩
  have hb : b < h'.objs.size := Heap.lt_size e
  rw [PyProof.Rows.sortedHeap_old (Nat.ne_of_lt hb) (by rw [size_push']; exact Nat.lt_succ_of_lt hb)]
  exact Heap.get?_push_of_some _ e
def textsK : List Key → Option (List (List Nat))
  | [] => some []
  | .inr x :: r => (textsK r).map (x.cps.toList :: ·)
  | _ => none
theorem textsK_of : ∀ {ks : List Key} {xs : List (List Nat)}, textsK ks = some xs → ks = xs.map fun x => Sum.inr (⟨x.toArray⟩ : PySem.Str)
  | [], _, h => by cases h; rfl
  | .inr x :: r, xs, h => by
    unfold textsK at h
    cases e : textsK r with
    | none => rw [e] at h; cases h
    | some ys =>
      rw [e] at h
      cases h
      rw [textsK_of e]
      cases x
      simp
  | .inl _ :: _, _, h => by cases h
def sortDK : Option (List (List Nat)) → M (List D)
  | some xs => M.ret ((sortS xs).map D.str)
  | none => M.fail
def sortedDF : List D → M (List D)
  | [.dct ks _] => sortDK (textsK ks)
  | _ => M.fail
theorem snd_sortedDS : SndCN X.K rSortedDS sortedDF := by
  intro G H b vs ds xs b' Q r fz ob e q
  unfold sortedDF at e
  split at e
  · rename_i ks ds
    obtain ⟨v, rfl, r1⟩ := r.one
    cases r1 with
    | dct hg hl rl =>
      cases et : textsK ks with
      | none => rw [et] at e; cases e
      | some ts =>
        rw [et] at e
        cases e
        refine ⟨_, _, ts, rfl, SameF.rd fz hg, ?_, fun p hp => ?_⟩
        · rw [List.map_fst_zip (by omega)]
          exact textsK_of et
        · exact q p _ G _ (Nxt.newH fz ob hp) hp (gnone fz hp) upd_same (RpL.strsD _)
  · cases e
theorem dn_sortedD {e : Expr} {fa : DL.Env → M (List D)} {p pos : Pos} (hc : X.calm = true) (hg : Gl X "sorted") (hm : X.mg "sorted" = none) (ha : DA X [e] fa) (he : starEach [e] X.env = (false, eval e X.env) :: starEach [] X.env := by rfl) : DN X (.Call (.Name "sorted" p) [e] [] pos) (nCall sortedDF fa) :=
  dn_callB (cr_sortedDS hc) snd_sortedDS hg hm (by decide +kernel) ha (he := he)
theorem sortedDF_texts (xs : List (List Nat)) (ds : List D) : sortedDF [.dct (xs.map kS) ds] = M.ret ((sortS xs).map D.str) := by
  have : textsK (xs.map kS) = some xs := by
    induction xs with
    | nil => rfl
    | cons x r ih =>
      show (textsK (r.map kS)).map _ = _
      rw [ih]
      rfl
  show sortDK (textsK (xs.map kS)) = _
  rw [this]
  rfl
end
end DL
set_option Elab.async false
set_option maxRecDepth 100000
set_option autoImplicit false
set_option linter.unusedVariables false
set_option maxHeartbeats 4000000
namespace DL
open PySem L2 PySem.Spec PyProof.Rows
variable [TAB : TabList]
variable [EFF : Eff]
set_option linter.unusedSectionVars false
section
variable {X : Cx} {pos : Pos}
section
variable {a b : Expr} {f g : DL.Env → M D}
end
theorem q_flat_dct (ks : List Key) (ds : List D) : (D.dct ks ds).flat = false := rfl
theorem q_flat_dcT (ks : List (List Key)) (ds : List D) : (D.dcT ks ds).flat = false := rfl
end
end DL
set_option Elab.async false
set_option maxRecDepth 100000
set_option autoImplicit false
set_option linter.unusedVariables false
set_option maxHeartbeats 4000000
namespace DL
open PySem L2 PySem.Spec PyProof.Rows
variable [TAB : TabList]
variable [EFF : Eff]
set_option linter.unusedSectionVars false
inductive Src where
  | txt (x : Str) (t : Tok) | lst (a : Addr) | tup (a : Addr)
def Src.val : Src → Value
  | .txt x t => .str x t | .lst a => .ref a | .tup a => .ref a
def Src.own : Src → List Addr
  | .txt _ _ => [] | .lst a => [a] | .tup a => [a]
def Src.st (q : Src) (it : Addr) (i : Nat) (h : Heap) : Prop := match q with
  | .txt x t => h.IsStrIter it (strIterType x) x t i | .lst a => h.IsListIter it a i | .tup a => h.IsTupleIter it a i
def Src.has (K : PySem.W.Frag) (q : Src) (H : Hp) (xs : List V) : Prop := match q with
  | .txt x _ => xs = x.cps.toList.map fun c => V.str ⟨#[c]⟩ | .lst a => SqL K H a xs | .tup a => SqT K H a xs
section
variable {X : Cx} {pins : List (Addr × Obj)} {σ : L2.St} {H : Hp} {s : Shared}
end
inductive SrcV (K : PySem.W.Frag) (H : Hp) : V → (Tok → Src) → List V → Prop
  | txt (x : Str) : SrcV K H (.str x) (.txt x) (x.cps.toList.map fun c => V.str ⟨#[c]⟩)
  | lst {a : Addr} {xs : List V} (h : SqL K H a xs) : SrcV K H (.ref a) (fun _ => .lst a) xs
  | tup {a : Addr} {xs : List V} (h : SqT K H a xs) : SrcV K H (.ref a) (fun _ => .tup a) xs
theorem SrcV.at {X : Cx} {pins : List (Addr × Obj)} {σ : L2.St} {H : Hp} {s : Shared} (I : Inv X pins σ H s) {v : V} {u : Value} {f : Tok → Src} {xs : List V} (c : SrcV X.K H v f xs) (r : RelV v u) :
    ∃ t o B, u = (f t).val ∧ (f t).has X.K H xs ∧ Begins (f t).val o B ∧ B s.heap ∧ (∀ a ∈ (f t).own, a < s.heap.objs.size) ∧ ∀ (h : Heap) (it : Addr), h.get? it = some o → (f t).st it 0 h := by
  cases c with
  | txt x =>
    obtain ⟨t, rfl⟩ := r
    exact ⟨t, _, _, rfl, rfl, begins_text x t, trivial, (fun a ha => by cases ha), (fun h it e => ⟨_, e, rfl, rfl⟩)⟩
  | @lst a xs h =>
    cases r
    obtain ⟨its, rv, p, _⟩ := I.list h
    refine ⟨0, _, _, rfl, h, begins_list a its.toArray, p.isList, fun b hb => ?_, fun h it e => ⟨_, e, rfl, rfl⟩⟩
    rw [List.mem_singleton.mp hb]
    exact p.lt
  | @tup a xs h =>
    cases r
    obtain ⟨its, rv, p, _⟩ := I.tuple h
    refine ⟨0, _, _, rfl, h, begins_tuple a its.toArray, p, fun b hb => ?_, fun h it e => ⟨_, e, rfl, rfl⟩⟩
    rw [List.mem_singleton.mp hb]
    obtain ⟨o, ho, _⟩ := id p
    exact Heap.lt_size ho
end DL
set_option Elab.async false
set_option maxRecDepth 100000
set_option autoImplicit false
set_option linter.unusedVariables false
set_option maxHeartbeats 4000000
namespace DL
open PySem L2 PySem.Spec PyProof.Rows
variable [TAB : TabList]
variable [EFF : Eff]
set_option linter.unusedSectionVars false
section
variable {X : Cx} {c : Nat} {C : Addr} {e o : Expr} {es : List Expr} {f : Env → M D} {fa : Env → M (List D)} {p pos : Pos} {x : Str} {k : Nat} {g : Addr} {fd : FuncData} {ps : List Str} {n : Nat} {Fi : List D → M (List D)}
end
end DL
set_option Elab.async false
set_option maxRecDepth 100000
set_option autoImplicit false
set_option linter.unusedVariables false
set_option maxHeartbeats 4000000
namespace DL
open PySem L2 PySem.Spec PyProof.Rows
variable [TAB : TabList]
variable [EFF : Eff]
set_option linter.unusedSectionVars false
def memB {κ : Type} [DecidableEq κ] (ks : List κ) (j : κ) : Bool := decide (j ∈ ks)
theorem memB_iff {κ : Type} [DecidableEq κ] {ks : List κ} {j : κ} : memB ks j = true ↔ j ∈ ks := decide_eq_true_iff
def keyK (e : Int × Value) : Key := match e.2 with
  | .int k _ => .inl k
  | .str x _ => .inr x
  | _ => .inl 0
def GoodK (w : World) (e : Int × Value) : Prop := ∃ k : Key, RelV (kV k) e.2 ∧ e.1 = keyH w k
def SetQ (w : World) (h : Heap) (a : Addr) (S : Key → Bool) (n : Nat) : Prop :=
  ∃ o es ep t, h.get? a = some o ∧ o.ExactSet ∧ o.data = .set es ep t ∧ (∀ e ∈ es.toList, GoodK w e) ∧ (es.toList.map keyK).Nodup ∧ (∀ k, S k = true ↔ k ∈ es.toList.map keyK) ∧
    es.size < scanBound ∧ t.fits es.size = true ∧ es.size = n ∧ Ris t.place.toList ∧ (w.params.followText "set-order" = true ∨ t.led = true)
section
variable {P : Program} {w : World} {h h' : Heap} {a : Addr} {S : Key → Bool} {n : Nat}
theorem SetQ.at (R : SetQ w h a S n) (k : ∀ o, h.get? a = some o → h'.get? a = some o) : SetQ w h' a S n := by
  obtain ⟨o, es, ep, t, ho, r⟩ := R
  exact ⟨o, es, ep, t, k o ho, r⟩
theorem SetQ.congr {S' : Key → Bool} (R : SetQ w h a S n) (e : ∀ k, S' k = S k) : SetQ w h a S' n := by
  have q : S' = S := funext e
  rw [q]; exact R
end
section
variable {P : Program} {w : World} {A : Around} {E : Value → Shared → Prop} {s : Shared} {a : Addr} {S : Key → Bool} {n : Nat}
set_option maxRecDepth 100000 in
set_option maxHeartbeats 3200000 in
set_option maxRecDepth 100000 in
set_option maxHeartbeats 3200000 in
end
end DL
set_option Elab.async false
set_option maxRecDepth 100000
set_option autoImplicit false
set_option linter.unusedVariables false
set_option maxHeartbeats 4000000
namespace DL
open PySem L2 PySem.Spec PyProof.Rows
variable [TAB : TabList]
variable [EFF : Eff]
set_option linter.unusedSectionVars false
def dedB {κ : Type} [DecidableEq κ] : List κ → List κ
  | [] => []
  | x :: r => if memB (dedB r) x = true then dedB r else x :: dedB r
theorem mem_dedB {κ : Type} [DecidableEq κ] {a : κ} : ∀ {xs : List κ}, a ∈ dedB xs ↔ a ∈ xs
  | [] => Iff.rfl
  | x :: r => by
    unfold dedB
    split
    · rename_i h
      rw [mem_dedB, List.mem_cons]
      have := mem_dedB.mp (memB_iff.mp h)
      constructor
      · exact .inr
      · rintro (rfl | z)
        · exact this
        · exact z
    · rw [List.mem_cons, List.mem_cons, mem_dedB]
theorem nodup_dedB {κ : Type} [DecidableEq κ] : ∀ xs : List κ, (dedB xs).Nodup
  | [] => List.nodup_nil
  | x :: r => by
    unfold dedB
    split
    · exact nodup_dedB r
    · rename_i h
      exact List.nodup_cons.mpr ⟨fun z => h (memB_iff.mpr z), nodup_dedB r⟩
theorem perm_of_mem {κ : Type} {xs ys : List κ} (h1 : xs.Nodup) (h2 : ys.Nodup) (h : ∀ a, a ∈ xs ↔ a ∈ ys) : xs.Perm ys := (List.perm_ext_iff_of_nodup h1 h2).mpr h
section
open SrtO Srt
variable {P : Program} {w : World} {A : Around} {E : Value → Shared → Prop} {s : Shared} {a : Addr} {S : Key → Bool} {n : Nat}
end
section
open SrtO Srt
variable {X : Cx} {pins : List (Addr × Obj)} {σ : L2.St} {H : Hp} {s : Shared}
end
section
variable {X : Cx}
theorem SetQ.count {w : World} {h : Heap} {a : Addr} {ks : List Key} {n : Nat} (R : SetQ w h a (memB ks) n) : n = (dedB ks).length := by
  obtain ⟨_, es, _, _, _, _, _, _, nd, hm, _, _, hn, _⟩ := R
  have pk : (dedB ks).Perm (es.toList.map keyK) := perm_of_mem (nodup_dedB ks) nd fun k => by rw [mem_dedB, ← hm k, memB_iff]
  rw [pk.length_eq, List.length_map, Array.length_toList, hn]
end
section
variable {X : Cx}
end
end DL
set_option Elab.async false
set_option maxRecDepth 100000
set_option autoImplicit false
set_option linter.unusedVariables false
set_option maxHeartbeats 4000000
namespace DL
open PySem L2 PySem.Spec PyProof.Rows PpSet
variable [TAB : TabList]
variable [EFF : Eff]
set_option linter.unusedSectionVars false
section
variable {X : Cx}
end
end DL
set_option Elab.async false
set_option maxRecDepth 100000
set_option autoImplicit false
set_option linter.unusedVariables false
set_option maxHeartbeats 4000000
namespace QO
open PySem PySem.SeqAt
open AutoSeq1 (wpAny_loadPart')
open MeetsSeq MeetsSeq2 MeetsSeq3 SeqRoads2 GQ
section
variable {prog : Program} {w : World} {A : Around} {R : Result → Shared → Prop}
end
section
variable {prog : Program} {w : World} {A : Around} {E : Value → Shared → Prop} {s : Shared}
end
end QO
namespace DL
open PySem L2 PySem.Spec PyProof.Rows
variable [TAB : TabList]
variable [EFF : Eff]
set_option linter.unusedSectionVars false
section
variable {X : Cx} {pins : List (Addr × Obj)} {σ : L2.St} {H : Hp} {s : Shared} {C : Addr}
end
section
variable {X : Cx} {C g : Addr} {n : Nat} {R : List D → M D}
variable {a e : Expr} {f h : Env → M D} {pos : Pos} {fd : FuncData} {ps : List Str}
end
end DL
set_option Elab.async false
set_option maxRecDepth 100000
set_option autoImplicit false
set_option linter.unusedVariables false
set_option maxHeartbeats 4000000
namespace DL
open PySem L2 PySem.Spec PyProof.Rows
variable [TAB : TabList]
variable [EFF : Eff]
set_option linter.unusedSectionVars false
section
variable {P : Program} {w : World} {A : Around} {E : Value → Shared → Prop} {s : Shared} {a : Addr} {S : Key → Bool} {n : Nat}
set_option maxRecDepth 100000 in
set_option maxHeartbeats 3200000 in
end
section
variable {X : Cx}
end
end DL
set_option Elab.async false
set_option maxRecDepth 100000
set_option autoImplicit false
set_option linter.unusedVariables false
set_option maxHeartbeats 4000000
namespace DL
open PySem L2 PySem.Spec PyProof.Rows
variable [TAB : TabList]
variable [EFF : Eff]
set_option linter.unusedSectionVars false
section
variable {X : Cx} {a b : Expr} {f g : Env → M D} {pos : Pos}
theorem op_isntB : OpR X (compareOp .IsNot) (fun x y H Q => ∃ i j, x = .bl i ∧ y = .bl j ∧ Q (.bl (!decide (i = j))) H) := by
  intro pins s σ H x y v u Q I rx ry h
  obtain ⟨i, j, rfl, rfl, q⟩ := h
  cases (show v = Value.bool i from rx)
  cases (show u = Value.bool j from ry)
  exact wpAny_isNot_plain rfl (fin_bl I q (by cases i <;> cases j <;> rfl))
def isB (neg : Bool) : D → D → M D
  | .bl i, .bl j => M.ret (.bl (if neg then !decide (i = j) else decide (i = j)))
  | _, _ => M.fail
theorem snd_isntB {K : PySem.W.Frag} : SndR K (fun x y H Q => ∃ i j, x = .bl i ∧ y = .bl j ∧ Q (.bl (!decide (i = j))) H) (isB true) := by
  intro G H b x y dx dy d b' Q rx ry fz ob e q
  unfold isB at e
  split at e
  · cases e
    cases rx
    cases ry
    exact ⟨_, _, rfl, rfl, q _ G H (Nxt.refl fz ob) (.bl _)⟩
  · cases e
theorem t_isntB (ha : DE X a f) (hb : DE X b g) (hm : behindInMarks .IsNot b = false := by rfl) : DT X (.Compare a [.IsNot] [b] pos) (t2 (isB true) f g) := t_cmp op_isntB snd_isntB ha hb hm
end
theorem q_isB (i j : Bool) : isB false (.bl i) (.bl j) = M.ret (.bl (decide (i = j))) := rfl
theorem q_isntB (i j : Bool) : isB true (.bl i) (.bl j) = M.ret (.bl (!decide (i = j))) := rfl
end DL
set_option Elab.async false
set_option maxRecDepth 100000
set_option autoImplicit false
set_option linter.unusedVariables false
set_option maxHeartbeats 4000000
namespace DL
open PySem L2 PySem.Spec PyProof.Rows
variable [TAB : TabList]
variable [EFF : Eff]
set_option linter.unusedSectionVars false
section
variable {X : Cx} {a b : Expr} {f g : Env → M D} {pos : Pos}
end
end DL
set_option Elab.async false
set_option maxRecDepth 100000
set_option autoImplicit false
set_option linter.unusedVariables false
set_option maxHeartbeats 4000000
namespace DL
open PySem L2 PySem.Spec PyProof.Rows
variable [TAB : TabList]
variable [EFF : Eff]
set_option linter.unusedSectionVars false
structure SMetI (K : PySem.W.Frag) (C : Addr) (m : Str) (p g : Addr) : Prop where
  at_ : PySem.W.findIn K (.ref C) m = some (some (.ref p))
  ty : PySem.W.typeIn K (.ref p) = some (.type "staticmethod")
  ga : PySem.W.specialIn K (.ref p) "__get__" = some (some (.builtin "staticmethod.__get__"))
  tk : PySem.W.takesIn K (.ref p) = some false
  cp : PySem.W.copiedNames.contains m = false
  rc : ∃ rest, PySem.W.recIn K p "staticmethod" = some (.ref g :: rest)
  kp : PySem.W.keepIn K (.ref g) = true
section
variable {X : Cx} {CX : CXT} {k : Nat} {C p g : Addr} {sp : Sp} {E : XK} {o e : Expr} {es : List Expr} {m x : Str} {pos apos p2 : Pos} {ta : TE} {t : TA} {pl : Sem Bool} {fd : FuncData} {ps : List Str} {n : Nat} {Fl : List D → M (List D)} {f : Env → M D} {fa : Env → M (List D)} {c : Nat}
end
end DL
set_option Elab.async false
set_option maxRecDepth 100000
set_option autoImplicit false
set_option linter.unusedVariables false
set_option maxHeartbeats 4000000
namespace DL
open PySem L2 PySem.Spec PyProof.Rows
variable [TAB : TabList]
variable [EFF : Eff]
set_option linter.unusedSectionVars false
def n2 (h : D → D → M (List D)) (f g : Env → M D) : Env → M (List D) := fun ρ => M.bind (f ρ) fun x => M.bind (g ρ) fun y => h x y
section
variable {X : Cx} {a b : Expr} {f g : Env → M D} {pos : Pos}
end
theorem q_n2 (ρ : Env) (h : D → D → M (List D)) (f g : Env → M D) : n2 h f g ρ = bnd (f ρ) fun x => bnd (g ρ) fun y => h x y := rfl
end DL
set_option Elab.async false
set_option maxRecDepth 100000
set_option autoImplicit false
set_option linter.unusedVariables false
set_option maxHeartbeats 4000000
namespace DL
open PySem L2 PySem.Spec PyProof.Rows
variable [TAB : TabList]
variable [EFF : Eff]
set_option linter.unusedSectionVars false
mutual
def D.noL (n : Nat) : D → Bool
  | .lst ds => !(decide (ds.length = n)) && D.noLs n ds
  | .tup ds => D.noLs n ds
  | .dct _ ds => D.noLs n ds
  | .dcT _ ds => D.noLs n ds
  | .obj _ ds => D.noLs n ds
  | .scr _ => false
  | .exc _ _ _ _ => false
  | .clo _ _ => false
  | .cel _ => true
  | .non => true
  | .bl _ => true
  | .int _ => true
  | .str _ => true
  | .bag _ => true
def D.noLs (n : Nat) : List D → Bool
  | [] => true
  | d :: ds => D.noL n d && D.noLs n ds
end
mutual
def O.noL (n : Nat) : O → Bool
  | .v d => d.noL n
  | .l xs => O.noLs n xs
  | .k _ xs => O.noLs n xs
  | .t _ xs => O.noLs n xs
  | .u xs => O.noLs n xs
def O.noLs (n : Nat) : List O → Bool
  | [] => true
  | x :: r => O.noL n x && O.noLs n r
end
theorem Same.sqtC {K : PySem.W.Frag} {G G2 : Hp} {n : Nat} (e : ∀ a o, G a = some o → (∀ us, o = .lst us → us.length ≠ n) → G2 a = some o) {a : Addr} {xs : List V} (h : SqT K G a xs) : SqT K G2 a xs := by
  rcases h with (h | ⟨o, h⟩) | h
  · exact .inl (.inl (e _ _ h fun _ z => nomatch z))
  · exact .inl (.inr ⟨o, e _ _ h fun _ z => nomatch z⟩)
  · exact .inr h
theorem rd_if {G G2 : Hp} {P : HO → Prop} (e : ∀ a o, G a = some o → P o → G2 a = some o) {a : Addr} {u : HO} (h1 : P u) (h2 : ∀ o, P (.frz o u)) (h : Rd G a u) : Rd G2 a u := by
  rcases h with h | ⟨o, h⟩
  · exact .inl (e _ _ h h1)
  · exact .inr ⟨o, e _ _ h (h2 o)⟩
theorem rd_cutK {G G2 : Hp} {n : Nat} (e : ∀ a o, G a = some o → (∀ us, o = .lst us → us.length ≠ n) → G2 a = some o) {a : Addr} {kvs : List (L2.Key × V)} (h : Rd G a (.dK kvs)) : Rd G2 a (.dK kvs) :=
  rd_if (P := fun o => ∀ us, o = .lst us → us.length ≠ n) e (fun _ z => by cases z) (fun _ _ z => by cases z) h
theorem rd_cutT {G G2 : Hp} {n : Nat} (e : ∀ a o, G a = some o → (∀ us, o = .lst us → us.length ≠ n) → G2 a = some o) {a : Addr} {kvs : List (List L2.Key × V)} (h : Rd G a (.dT kvs)) : Rd G2 a (.dT kvs) :=
  rd_if (P := fun o => ∀ us, o = .lst us → us.length ≠ n) e (fun _ z => by cases z) (fun _ _ z => by cases z) h
mutual
theorem Rp.cutN {K : PySem.W.Frag} {G G2 : Hp} {n : Nat} (e : ∀ a o, G a = some o → (∀ us, o = .lst us → us.length ≠ n) → G2 a = some o) : ∀ {v : V} {d : D}, Rp K G v d → d.noL n = true → Rp K G2 v d
  | _, _, .non, _ => .non
  | _, _, .bl b, _ => .bl b
  | _, _, .int i, _ => .int i
  | _, _, .str x, _ => .str x
  | _, _, .lst (vs := vs) (ds := ds) h r, f => by
    have f := (Bool.and_eq_true _ _).mp (show (!(decide (ds.length = n)) && D.noLs n ds) = true from f)
    refine .lst (e _ _ h fun us z => ?_) (RpL.cutN e r f.2)
    cases z
    rw [r.length]
    simpa using f.1
  | _, _, .tup h r, f => .tup (Same.sqtC e h) (RpL.cutN e r f)
  | _, _, .dct h l r, f => .dct (rd_cutK e h) l (RpL.cutN e r f)
  | _, _, .dcT h l r, f => .dcT (rd_cutT e h) l (RpL.cutN e r f)
  | _, _, .obj h0 h h2 r, f => .obj h0 (e _ _ h fun _ z => nomatch z) (e _ _ h2 fun _ z => nomatch z) (RpL.cutN e r f)
  | _, _, .bag p, _ => .bag p
  | _, _, .scr h, f => nomatch f
  | _, _, .exc _ _, f => nomatch f
  | _, _, .clo _ _ _ _, f => nomatch f
  | _, _, .cel h, _ => .cel (e _ _ h fun _ z => nomatch z)
theorem RpL.cutN {K : PySem.W.Frag} {G G2 : Hp} {n : Nat} (e : ∀ a o, G a = some o → (∀ us, o = .lst us → us.length ≠ n) → G2 a = some o) : ∀ {vs : List V} {ds : List D}, RpL K G vs ds → D.noLs n ds = true → RpL K G2 vs ds
  | _, _, .nil, _ => .nil
  | _, _, .cons (d := d) (ds := ds) a b, f => by
    have f := (Bool.and_eq_true _ _).mp (show (D.noL n d && D.noLs n ds) = true from f)
    exact .cons (Rp.cutN e a f.1) (RpL.cutN e b f.2)
end
mutual
theorem Ow.cut {K : PySem.W.Frag} {G G2 H : Hp} {n : Nat} (e : ∀ a o, G a = some o → (∀ us, o = .lst us → us.length ≠ n) → G2 a = some o) : ∀ {v : V} {o : O} {fp : List Addr}, Ow K G H v o fp → o.noL n = true → Ow K G2 H v o fp
  | _, _, _, .v r, f => .v (r.cutN e f)
  | _, _, _, .l hp r, f => .l hp (OwL.cut e r f)
  | _, _, _, .k hp hl r, f => .k hp hl (OwL.cut e r f)
  | _, _, _, .t hp hl r, f => .t hp hl (OwL.cut e r f)
  | _, _, _, .u hp r, f => .u (Same.sqtC e hp) (OwL.cut e r f)
theorem OwL.cut {K : PySem.W.Frag} {G G2 H : Hp} {n : Nat} (e : ∀ a o, G a = some o → (∀ us, o = .lst us → us.length ≠ n) → G2 a = some o) : ∀ {vs : List V} {os : List O} {fp : List Addr}, OwL K G H vs os fp → O.noLs n os = true → OwL K G2 H vs os fp
  | _, _, _, .nil, _ => .nil
  | _, _, _, .cons (x := x) (xs := xs) a b, f => by
    have f := (Bool.and_eq_true _ _).mp (show (O.noL n x && O.noLs n xs) = true from f)
    exact .cons (Ow.cut e a f.1) (OwL.cut e b f.2)
end
section
variable {K : PySem.W.Frag} {E : En} {σ : L2.St} {ρ : Env2} {G H G' H' : Hp} {b b' : Bs}
end
section
variable {X : Cx} {pos : Pos}
end
end DL
set_option Elab.async false
set_option maxRecDepth 100000
set_option autoImplicit false
set_option linter.unusedVariables false
set_option maxHeartbeats 4000000
namespace DL
open PySem L2 PySem.Spec PyProof.Rows
variable [TAB : TabList]
variable [EFF : Eff]
set_option linter.unusedSectionVars false
section
variable {X : Cx} {pos : Pos} {f g : Env → M D} {fa : Env → M (List D)}
end
section
variable {prog : Program} {w : World} {A : Around} {E : Value → Shared → Prop} {s : Shared}
end
section
variable {X : Cx} {pos : Pos} {f g : Env → M D}
theorem RpL.reverse {K : PySem.W.Frag} {G : Hp} {vs : List V} {ds : List D} (r : RpL K G vs ds) : RpL K G vs.reverse ds.reverse := by
  induction ds generalizing vs with
  | nil => cases r; exact .nil
  | cons d ds ih =>
    cases r with
    | cons a b =>
      rw [List.reverse_cons, List.reverse_cons]
      exact RpL.append (ih b) (.cons a .nil)
end
end DL
set_option Elab.async false
set_option maxRecDepth 100000
set_option autoImplicit false
set_option linter.unusedVariables false
set_option maxHeartbeats 4000000
namespace DL
open PySem L2 PySem.Spec PyProof.Rows
variable [TAB : TabList]
variable [EFF : Eff]
set_option linter.unusedSectionVars false
section
variable {X : Cx} {a b : Expr} {f g : Env → M D} {pos : Pos}
end
def prsOf : List D → Option (List (D × D))
  | [] => some []
  | .tup [x, y] :: r => match prsOf r with
    | some l => some ((x, y) :: l)
    | none => none
  | _ => none
theorem prsOf_of {K : PySem.W.Frag} {G : Hp} : ∀ {vs : List V} {ds : List D} {l : List (D × D)}, RpL K G vs ds → prsOf ds = some l → ∃ (ps : List Addr) (us : List (V × V)), vs = ps.map V.ref ∧ Paired (fun p (kv : V × V) => SqT K G p [kv.1, kv.2]) ps us ∧ RpQ K G us l
  | _, _, _, .nil, h => by cases h; exact ⟨[], [], rfl, .nil, .nil⟩
  | _, _, l, .cons (d := d) (ds := ds) a b, h => by
    match d, h with
    | .tup [x, y], h =>
      unfold prsOf at h
      cases e : prsOf ds with
      | none => rw [e] at h; cases h
      | some l2 =>
        rw [e] at h
        cases h
        obtain ⟨ps, us, rfl, h2, h3⟩ := prsOf_of b e
        cases a with
        | @tup p vs _ h4 h5 =>
          cases h5 with
          | cons r1 h6 =>
            cases h6 with
            | cons r2 h7 =>
              cases h7
              exact ⟨p :: ps, (_, _) :: us, rfl, .cons h4 h2, .cons ⟨r1, r2⟩ h3⟩
def dictPK : Option (List Key × List D) → M D
  | some (ks, ds) => M.guard (decide ks.Nodup && decide (ks.length ≤ sizeLine)) (M.ret (.dct ks ds))
  | none => M.fail
def dictPO : Option (List (D × D)) → M D
  | some l => dictPK (dispD l)
  | none => M.fail
def dictPF : List D → M D
  | [.lst ds] => dictPO (prsOf ds)
  | _ => M.fail
theorem paired_map {K : PySem.W.Frag} {H : Hp} {ps : List Addr} : ∀ {ks : List Key} {us : List V}, Paired (fun p (kv : V × V) => SqT K H p [kv.1, kv.2]) ps ((ks.zip us).map fun kv => (kV kv.1, kv.2)) → Paired (fun p (kv : Key × V) => SqT K H p [kV kv.1, kv.2]) ps (ks.zip us) := by
  intro ks us h
  generalize ks.zip us = z at h ⊢
  induction z generalizing ps with
  | nil => cases h; exact .nil
  | cons a z ih =>
    cases h with
    | cons h1 h2 => exact .cons h1 (ih h2)
theorem paired_same {K : PySem.W.Frag} {G H : Hp} (fz : SameF G H) {ps : List Addr} {us : List (V × V)} (h : Paired (fun p (kv : V × V) => SqT K G p [kv.1, kv.2]) ps us) : Paired (fun p (kv : V × V) => SqT K H p [kv.1, kv.2]) ps us := by
  induction h with
  | nil => exact .nil
  | cons h1 _ ih => exact .cons (SameF.sqt fz h1) ih
section
variable {X : Cx} {pos : Pos} {fa : Env → M (List D)}
theorem snd_dictP : SndC X.K (fun xs H Q => ∃ (a : Addr) (ps : List Addr) (kvs : List (Key × V)), xs = [.ref a] ∧ SqL X.K H a (ps.map V.ref) ∧ Paired (fun p kv => SqT X.K H p [kV kv.1, kv.2]) ps kvs ∧
    ∀ p, H p = none → Q (.ref p) (upd H p (.dK (mergeK [] kvs)))) dictPF := by
  intro G H b vs ds d b' Q r fz ob e q
  unfold dictPF at e
  split at e
  · rename_i es
    obtain ⟨v, rfl, r1⟩ := r.one
    cases r1 with
    | lst h1 h2 =>
      cases e1 : prsOf es with
      | none => rw [e1] at e; cases e
      | some l =>
        rw [e1] at e
        obtain ⟨ps, us, rfl, hp, hq⟩ := prsOf_of h2 e1
        have e : dictPK (dispD l) b = some (d, b') := e
        cases e2 : dispD l with
        | none => rw [e2] at e; cases e
        | some kd =>
          obtain ⟨ks, xs⟩ := kd
          rw [e2] at e
          obtain ⟨c, e⟩ := M.guard_some e
          cases e
          rw [Bool.and_eq_true] at c
          have c1 := of_decide_eq_true c.1
          obtain ⟨ws, rfl, hk, hr⟩ := dispD_of hq e2
          refine ⟨_, ps, ks.zip ws, rfl, SqL.of (fz _ _ h1), paired_map (paired_same fz hp), fun p hp => ?_⟩
          have hz : (ks.zip ws).map (·.1) = ks := by rw [List.map_fst_zip]; omega
          rw [mergeK_new _ [] (by rw [List.nil_append, hz]; exact c1), List.nil_append]
          have m := Nxt.newF (o := .dK (ks.zip ws)) fz ob hp
          exact q _ _ _ m (.dct   (.of upd_same) hk (hr.mono m.gg))
  · cases e
theorem d_dictP {e : Expr} {p : Pos} (hc : X.calm = true) (hg : Gl X "dict") (hm : X.mg "dict" = none) (ha : DA X [e] fa) (he : starEach [e] X.env = (false, eval e X.env) :: starEach [] X.env := by rfl) : DE X (.Call (.Name "dict" p) [e] [] pos) (eCall dictPF fa) :=
  d_callTy (call_dictP hc) snd_dictP hg hm (by decide +kernel) ha (he := he)
end
def getK1 (ks : List Key) (ds : List D) (z : D) : Option Key → M D
  | some k => M.ret ((getK ks ds k).getD z)
  | none => M.fail
def getF2 (x y z : D) : M D := match x with
  | .dct ks ds => getK1 ks ds z (keyD y)
  | _ => M.fail
section
variable {X : Cx} {pos : Pos} {f g h : Env → M D}
end
theorem q_getF2 (ks : List Key) (ds : List D) (y z : D) : getF2 (.dct ks ds) y z = getK1 ks ds z (keyD y) := rfl
def e3D (F : D → D → D → M D) (f g h : Env → M D) : Env → M D := fun ρ => M.bind (f ρ) fun x => M.bind (g ρ) fun y => M.bind (h ρ) fun z => F x y z
theorem q_e3D (F : D → D → D → M D) (f g h : Env → M D) (ρ : Env) : e3D F f g h ρ = bnd (f ρ) fun x => bnd (g ρ) fun y => bnd (h ρ) fun z => F x y z := rfl
theorem q_dictPF (ds : List D) : dictPF [.lst ds] = dictPO (prsOf ds) := rfl
end DL
set_option Elab.async false
set_option maxRecDepth 100000
set_option autoImplicit false
set_option linter.unusedVariables false
set_option maxHeartbeats 4000000
namespace DL
open PySem L2 PySem.Spec PyProof.Rows
variable [TAB : TabList]
variable [EFF : Eff]
set_option linter.unusedSectionVars false
inductive FP : V → PyData → Prop
  | non : FP .non .none
  | bl (b : Bool) : FP (.bl b) (.bool b)
  | int (i : Int) : FP (.int i) (.int i)
  | str (x : Str) : FP (.str x) (.str x)
def fPy : D → Option PyData
  | .non => some .none
  | .bl b => some (.bool b)
  | .int i => some (.int i)
  | .str x => some (.str ⟨x.toArray⟩)
  | _ => none
theorem FP.of {K : PySem.W.Frag} {G : Hp} {v : V} {d : D} {p : PyData} (r : Rp K G v d) (h : fPy d = some p) : FP v p := by
  cases r <;> first | (cases h; constructor; done) | (cases h)
theorem FP.reads {h : Heap} {v : V} {p : PyData} {u : Value} (f : FP v p) (r : RelV v u) : Reads h u p [] := by
  cases f with
  | non => cases r; exact .none
  | bl b => cases r; exact .bool b
  | int i => obtain ⟨t, rfl⟩ := r; exact .int i t
  | str x => obtain ⟨t, rfl⟩ := r; exact .str x t
section
variable {X : Cx}
end
section
variable {X : Cx} {pos : Pos}
end
section
variable {X : Cx} {a b : Expr} {f g : Env → M D} {pos : Pos}
end
end DL
set_option Elab.async false
set_option maxRecDepth 100000
set_option autoImplicit false
set_option linter.unusedVariables false
set_option maxHeartbeats 4000000
namespace DL
open PySem L2 PySem.Spec PyProof.Rows
variable [TAB : TabList]
variable [EFF : Eff]
set_option linter.unusedSectionVars false
section
variable {X : Cx} {pos : Pos}
end
end DL
set_option Elab.async false
set_option maxRecDepth 100000
set_option autoImplicit false
set_option linter.unusedVariables false
set_option maxHeartbeats 4000000
namespace DL
open PySem L2 PySem.Spec PyProof.Rows
variable [TAB : TabList]
section
variable [EFF : Eff]
set_option linter.unusedSectionVars false
inductive XR where
  | d (x : D) | l (xs : List D)
def XR.toD : XR → D
  | .d x => x
  | .l xs => .lst xs
def QX (K : PySem.W.Frag) (G H : Hp) (b b' : Bs) (Q : VK) : XR → Prop
  | .d d => d.flat = true ∧ ∀ v G' H', Nxt G H b G' H' b' → Rp K G' v d → Q v H'
  | .l xs => ∀ p ws G' H', Nxt G H b G' H' b' → H p = none → G' p = none → H' p = some (.lst ws) → RpL K G' ws xs → Q (.ref p) H'
end
section
variable {P : Program} {w : World} {K : PySem.W.Frag} {mg : Str → Option Value} {base : Heap}
variable {x qual : Str} {st : Stmt} {f : Addr} {fd : FuncData} {N ps : List Str} {k : Nat} {Fs : Env2 → M Out}
end
variable [EFF : Eff]
section
variable {X : Cx} {k : Nat} {f : Addr} {fd : FuncData} {ps : List Str} {x : Str} {p pos : Pos} {e : Expr} {es : List Expr} {n : Nat} {Fl : List D → M XR} {fa : Env → M (List D)}
theorem QX.weak {K : PySem.W.Frag} {G H G1 H1 : Hp} {b b1 b' : Bs} {Q : VK} {x : XR} (n : Nxt G H b G1 H1 b1) (q : QX K G H b b' Q x) : QX K G1 H1 b1 b' Q x := by
  cases x with
  | d d => exact ⟨q.1, fun v G2 H2 n2 r => q.2 v G2 H2 (n.trans n2) r⟩
  | l xs => exact fun p ws G2 H2 n2 hp gp hh r => q p ws G2 H2 (n.trans n2) (n.free hp) gp hh r
theorem q_guardT {α : Type} (m : M α) : M.guard true m = m := rfl
end
end DL
set_option Elab.async false
set_option maxRecDepth 100000
set_option autoImplicit false
set_option linter.unusedVariables false
set_option maxHeartbeats 4000000
namespace DL
open PySem L2 PySem.Spec PyProof.Rows
variable [TAB : TabList]
variable [EFF : Eff]
set_option linter.unusedSectionVars false
section
open SrtO Srt
abbrev TKey := Int × List Nat
variable {prog : Program} {w : World} {A : Around} {s : Shared}
section
variable {X : Cx}
inductive Tps (K : PySem.W.Frag) (G : Hp) : List V → List TKey → Prop
  | nil : Tps K G [] []
  | cons {t : Addr} {k : TKey} {xs : List V} {ks : List TKey} : SqT K G t [.int k.1, .str ⟨k.2.toArray⟩] → Tps K G xs ks → Tps K G (.ref t :: xs) (k :: ks)
def PT (K : PySem.W.Frag) (G : Hp) (u : Value) (k : TKey) : Prop := ∃ t, u = .ref t ∧ SqT K G t [.int k.1, .str ⟨k.2.toArray⟩]
end
end
end DL
set_option Elab.async false
set_option maxRecDepth 100000
set_option autoImplicit false
set_option linter.unusedVariables false
set_option maxHeartbeats 4000000
namespace DL
open PySem L2 PySem.Spec PyProof.Rows
variable [TAB : TabList]
variable [EFF : Eff]
set_option linter.unusedSectionVars false
section
variable {X : Cx} {pos : Pos}
end
end DL
set_option Elab.async false
set_option maxRecDepth 100000
set_option autoImplicit false
set_option linter.unusedVariables false
set_option maxHeartbeats 4000000
namespace DL
open PySem L2 PySem.Spec PyProof.Rows
variable [TAB : TabList]
variable [EFF : Eff]
set_option linter.unusedSectionVars false
section
variable {X : Cx} {pos : Pos} {a b : Expr} {rest : List Expr}
end
end DL
set_option Elab.async false
set_option maxRecDepth 100000
set_option autoImplicit false
set_option linter.unusedVariables false
set_option maxHeartbeats 4000000
namespace PySem
namespace ErrX
open PySem.W PySem.Calls PyProof.Rows PySem.HandSPX
def iA (f : Str) (p1 p2 : Pos) : Arguments := { posonlyargs := [], args := [{ arg := "self", annotation := none, pos := p1 }, { arg := f, annotation := none, pos := p2 }], vararg := none, kwonlyargs := [], kw_defaults := [], kwarg := none, defaults := [] }
def iB (t f : Str) (j : Nat) (q0 q1 q2 q3 q4 q5 q6 q7 q8 q9 : Pos) : List Stmt := [.Expr (.Call (.Attribute (.Call (.Name "super" q0) [] [] q1) "__init__" q2) [.Constant (.str t) j q3] [] q4) q5, .Assign [.Attribute (.Name "self" q6) f q7] (.Name f q8) q9]
def iS (f : Str) : Scope := { kind := .function, names := [(PySem.Str.ofString "self", .local), (f, .local), (PySem.Str.ofString "__class__", .free), (PySem.Str.ofString "super", .globalImplicit)], isGenerator := false, isCoroutine := false, more := [] }
structure PrOk (P : Program) (file : Str) : Prop where
  fl : (P.main.file == file) = true
  top : (P.main.scope.names.lookup ("super" : Str)).isSome = false
structure ErrTxt (P : Program) (K : Frag) (mg : Str → Option Value) (x f : Str) (C fI : Addr) : Prop where
  gC : mg x = some (.ref C)
  cls : ∃ nm q N bs bm sn sub ab col dd k0 k1 k2 k3 k5, K.lookup C = some (excClassObj nm q C N bs bm true sn sub ab col dd k0 k1 k2 k3 k5 "ValueError.__new__") ∧ refsVE bm = true
  sa : findIn K (.ref C) "__setattr__" = some (some (.builtin "object.__setattr__"))
  xf : L2.XfC K C
  isx : L2.ExcC K C
  noN : findIn K (.ref C) f = some none
  iC : findIn K (.ref C) "__init__" = some (some (.ref fI))
  tC : typeIn K (.ref fI) = some (.type "function")
  kC : keepIn K (.ref C) = true
  tyC : typeIn K (.ref C) = some (.type "type")
  su : ks_superIn K C C "__init__" = some (some (.builtin "ValueError.__init__"))
  sub : mroIn K C (.ref C) = some true
  subV : subIn K (.ref C) (.type "ValueError") = some true
  noS : nsIn K mainGlobals "super" = some none
  opq : nsIn K cStatics "thirdparty.any" = some none
  lkf : (iS f).names.lookup f = some .local
  lkS : (iS f).names.lookup ("super" : Str) = some .globalImplicit
  lkC : (iS f).names.lookup ("__class__" : Str) = some .free
  fne : (("self" : Str) == f) = false
  fdb : (f == ("__debug__" : Str)) = false
  fn : ∃ (oc : Value) (od : Option Addr) (dV kV doc pm : Value) (an : Option Addr) (cda cc : Addr) (ct : Value) (osl : Array (Option Value)) (qual t : Str) (j : Nat) (p1 p2 q0 q1 q2 q3 q4 q5 q6 q7 q8 q9 : Pos) (fd : FuncData) (ccl cl : Value) (cdd cld : Option Addr) (vs : Array Value) (ccs csl : Array (Option Value)) (file : Str) (tf : Tok),
    (∀ L : Addr, ∃ pl : Sem Bool, eval (.Call (.Attribute (.Call (.Name "super" q0) [] [] q1) "__init__" q2) [.Constant (.str t) j q3] [] q4) (ksEnv qual (iS f) L fI (.ref cda) cc) = (do
      let ov ← attributeBase (.Call (.Name "super" q0) [] [] q1) "__init__" (ksEnv qual (iS f) L fI (.ref cda) cc) (eval (.Call (.Name "super" q0) [] [] q1) (ksEnv qual (iS f) L fI (.ref cda) cc))
      standAt q2.atName
      let (fu, first) ← holding [ov] (getMethod ov "__init__" pl)
      callWith q4 fu first (backTo q4 (starEach [.Constant (.str t) j q3] (ksEnv qual (iS f) L fI (.ref cda) cc))) [])) ∧
    K.lookup fI = some ⟨oc, od, .func fd, osl⟩ ∧ fd = ksFn "__init__" qual (iA f p1 p2) (iB t f j q0 q1 q2 q3 q4 q5 q6 q7 q8 q9) (iS f) dV kV doc pm an (.ref cda) ct cc ∧ codeIn K (.ref cda) qual = true ∧ (∀ (s : Shared) (a b : Value), BindsTo s fd ⟨[a, b], []⟩ [("self", a), (f, b)]) ∧
    K.lookup cda = some ⟨ccl, cdd, .fields vs, ccs⟩ ∧ vs[2]? = some (.str file tf) ∧ PrOk P file ∧ K.lookup cc = some ⟨cl, cld, .cell (some (.ref C)), csl⟩
structure InitEnd (h h' : Heap) (x C dx t1 : Addr) (f : Str) (v : Value) : Prop where
  keep : ∀ b o, b ≠ x → h.get? b = some o → h'.get? b = some o
  obj : h'.get? x = some { cls := .ref C, dict := some dx, data := .fields #[.ref t1, .none, .none, .none, .bool false, .none] }
  dbig : h.objs.size ≤ dx
  dne : dx ≠ x
  ns : h'.Ns1 dx (fun y => if y = f then some v else none)
structure OwnMade (h h' : Heap) (e C d : Addr) (f : Str) (v : Value) : Prop where
  keep : ∀ b o, h.get? b = some o → h'.get? b = some o
  new : h.objs.size ≤ e
  obj : ∃ oe vs, h'.get? e = some oe ∧ oe.cls = .ref C ∧ oe.dict = some d ∧ oe.data = .fields vs ∧ vs[1]? = some .none
  dbig : h.objs.size ≤ d
  dne : d ≠ e
  ns : h'.Ns1 d (fun y => if y = f then some v else none)
section
variable {prog : Program} {w : World} {A : Around} {E : Value → Shared → Prop} {h : Heap} {g : Array GenState} {d : Drawn} {t : Nat} {os : OsState}
variable {nm q : Str} {C N : Addr} {bs bm : List Value} {hdct : Bool} {sn : List Str} {sub : List Value} {ab : Bool} {col : Option Bool} {dd : Option Addr} {k0 k1 k2 k3 k5 : Option Value}
end
section
variable {P : Program} {w : World} {A : Around} {E : Value → Shared → Prop} {R : Result → Shared → Prop} {s : Shared} {K : Frag} {mg mb : Str → Option Value} {C fI : Addr} {x0 f : Str}
end
end ErrX
end PySem
namespace PySem
namespace ErrX
open PySem.W PySem.Calls PyProof.Rows PySem.HandSPX
section
variable {P : Program} {w : World} {A : Around} {E : Value → Shared → Prop} {R : Result → Shared → Prop} {s : Shared} {K : Frag} {mg mb : Str → Option Value} {C fI : Addr} {x0 f : Str}
end
end ErrX
end PySem
namespace PySem.W
open PySem PySem.Spec PySem.Calls PyProof.Rows
section
variable {prog : Program} {w : World} {A : Around} {E : Value → Shared → Prop} {s : Shared} {K : Frag} {x D : Addr} {ox : Obj} {od : Option Obj}
end
end PySem.W
namespace L2
open PySem PySem.Spec PyProof.Rows
section
variable {X : Cx} {C fI : Addr} {x f : Str}
end
end L2
set_option Elab.async false
set_option maxRecDepth 100000
set_option autoImplicit false
set_option linter.unusedVariables false
set_option maxHeartbeats 4000000
namespace DL
open PySem L2 PySem.Spec PyProof.Rows
variable [TAB : TabList]
section
variable [EFF : Eff]
set_option linter.unusedSectionVars false
inductive OutE where
  | o (x : Out) | ex (c : Nat) (fs : List D) (ρ : Env2)
inductive ER where
  | ok (d : D) | ex (c : Nat) (fs : List D)
abbrev ErrC (K : PySem.W.Frag) (c : Nat) (C : Addr) : Prop := PySem.W.nsIn K mainGlobals (errName c) = some (some (.ref C))
def ExP (K : PySem.W.Frag) (c : Nat) (fs : List D) (G : Hp) (cls : Value) (d : Option Addr) : Prop := ∃ C vs, ErrC K c C ∧ cls = .ref C ∧ ExD G d c vs ∧ RpL K G vs fs
def FinE (K : PySem.W.Frag) (E : En) (Dn : Ends) (W : WX) (b' : Bs) : OutE → Prop
  | .o x => Fin K E Dn b' x
  | .ex c fs ρ => ∀ σ' G' H' cls d, SI K E σ' ρ G' H' b' → ExP K c fs G' cls d → W cls d σ' H'
def tSE (K : PySem.W.Frag) (W : WX) (F : Env2 → M OutE) : TS := fun Dn σ H => ∃ E ρ G b o b', SI K E σ ρ G H b ∧ F ρ b = some (o, b') ∧ FinE K E Dn W b' o
abbrev DSE (X : Cx) (W : WX) (st : Stmt) (F : Env2 → M OutE) : Prop := PS X st (tSE X.K W F)
abbrev DSsE (X : Cx) (W : WX) (st : List Stmt) (F : Env2 → M OutE) : Prop := PSs X st (tSE X.K W F)
def QE (K : PySem.W.Frag) (G H : Hp) (b b' : Bs) (Q : VK) (Ex : XK) : ER → Prop
  | .ok d => ∀ v G' H', NxtB EFF.x G H b G' H' b' → Rp K G' v d → Q v H'
  | .ex c fs => ∀ G' H' cls d, NxtB EFF.x G H b G' H' b' → ExP K c fs G' cls d → Ex cls d H'
def spE (K : PySem.W.Frag) (n : Nat) (F : List D → M ER) : Sp := fun vs H Q Ex => ∃ G b ds r b', RpL K G vs ds ∧ ds.length = n ∧ SameF G H ∧ BagOk G H b ∧ F ds b = some (r, b') ∧ QE K G H b b' Q Ex r
def runEK : OutE → M ER
  | .o (.rt d) => M.ret (.ok d)
  | .o (.rn xs) => M.ret (.ok (.lst xs))
  | .o (.nx _) => M.ret (.ok .non)
  | .o _ => M.fail
  | .ex c fs _ => M.ret (.ex c fs)
def runE (m : Nat) (F : Env2 → M OutE) (ds : List D) : M ER := M.bind (F (startD m ds)) runEK
theorem freezeN {z : Bool} {K : PySem.W.Frag} {G H G' H' : Hp} {b b' : Bs} {p : Addr} {ws : List V} {xs : List D} {Q : VK} (ob : BagOk G H b) (n : NxtB z G H b G' H' b') (hp : H p = none) (gp : G' p = none) (hh : H' p = some (.lst ws)) (r : RpL K G' ws xs)
    (q : ∀ v G' H', NxtB z G H b G' H' b' → Rp K G' v (.lst xs) → Q v H') : Q (.ref p) H' :=
  q _ _ _ (n.freeze ob hp gp hh) (.lst upd_same (r.mono (upd_more gp)))
theorem run_e {K : PySem.W.Frag} {N : List Str} {n : Nat} {Fs : Env2 → M OutE} {vs : List V} {H : Hp} {Q : VK} {Ex : XK} (h : spE K n (runE N.length Fs) vs H Q Ex) : tSE K (fun cls d _ H' => Ex cls d H') Fs { nx := fun _ H' => Q .non H', rt := Q } (L2.start N vs) H := by
  obtain ⟨G, b, ds, r0, b', r, hn, fz, ob, e, q⟩ := h
  obtain ⟨o, b1, e1, e2⟩ := M.bind_some e
  refine ⟨⟨G, H, b⟩, _, G, b, o, b1, SI.start r fz ob, e1, ?_⟩
  cases o with
  | ex c fs ρ => cases e2; exact fun σ' G' H' cls d I' x => q G' H' cls d I'.nxt x
  | o x =>
    cases x with
    | rt d => cases e2; exact fun v G' H' n r => q v G' H' n r
    | rn xs => cases e2; exact fun p ws G' H' n hp gp hh r => freezeN ob n hp gp hh r q
    | nx ρ => cases e2; exact fun σ' G' H' I => q .non G' H' I.nxt .non
    | bk ρ => cases e2
    | ct ρ => cases e2
section
variable {P : Program} {w : World} {K : PySem.W.Frag} {mg : Str → Option Value} {base : Heap}
variable {x qual : Str} {st : Stmt} {f : Addr} {fd : FuncData} {N ps : List Str} {k : Nat} {Fs : Env2 → M OutE}
theorem fnE (F : Fun K x qual st f fd) (S : FnScope N ps (defScope st)) (hb : ∀ (cdv : Value) (A : Around) (outer : List PySem.Env) (s : Shared) (H : Hp) (E : XK) (W : WX), Room k (A.deeper (envOfC qual (defScope st) s.heap.objs.size f cdv)) →
      Takes (cxOf (L2.CX P w) P w K mg base N qual (defScope st) f cdv A outer s H E) W → DSsE (cxOf (L2.CX P w) P w K mg base N qual (defScope st) f cdv A outer s H E) W (defBody st) Fs) : FnOk P w K mg base (L2.CX P w) (k + 1) f fd ps (spE K ps.length (runE N.length Fs)) :=
  F.okX S (by
    rintro vs H Q E ⟨G, b, ds, d, b', r, h, _⟩
    rw [r.length, h]) fun cdv A outer s H vs Q E hr h => ⟨_, hb cdv A outer s H E _ hr (takes_of rfl rfl rfl rfl), run_e h⟩
end
def liftE (F : Env2 → M Out) (ρ : Env2) : M OutE := M.bind (F ρ) fun o => M.ret (.o o)
def seqEK (F2 : Env2 → M OutE) : OutE → M OutE
  | .o (.nx ρ) => F2 ρ
  | o => M.ret o
def seqE (F1 F2 : Env2 → M OutE) (ρ : Env2) : M OutE := M.bind (F1 ρ) (seqEK F2)
def ifE (ms : List Nat) (t : Env → M Bool) (F F2 : Env2 → M OutE) (ρ : Env2) : M OutE := M.bind (t (view ms ρ)) fun k => if k = true then F ρ else F2 ρ
section
variable {X : Cx} {W : WX} {st : Stmt} {rest : List Stmt} {F : Env2 → M Out} {F1 F2 : Env2 → M OutE} {pos : Pos}
theorem se_lift (h : DS X st F) : DSE X W st (liftE F) := by
  refine PSimp h ?_
  rintro D σ H ⟨E, ρ, G, b, o, b', I, e, q⟩
  obtain ⟨o1, b1, e1, e2⟩ := M.bind_some e
  cases e2
  exact ⟨E, ρ, G, b, o1, b', I, e1, q⟩
theorem sse_lift (h : DSs X rest F) : DSsE X W rest (liftE F) := by
  refine PSsimp h ?_
  rintro D σ H ⟨E, ρ, G, b, o, b', I, e, q⟩
  obtain ⟨o1, b1, e1, e2⟩ := M.bind_some e
  cases e2
  exact ⟨E, ρ, G, b, o1, b', I, e1, q⟩
theorem sse_one (h : DSE X W st F1) : DSsE X W [st] F1 := pss_one h
theorem sse_cons (h : DSE X W st F1) (h2 : DSsE X W rest F2) : DSsE X W (st :: rest) (seqE F1 F2) := by
  refine PSsimp (pss_cons h h2) ?_
  rintro D σ H ⟨E, ρ, G, b, o, b', I, e, q⟩
  obtain ⟨o1, b1, e1, e2⟩ := M.bind_some e
  refine ⟨E, ρ, G, b, o1, b1, I, e1, ?_⟩
  cases o1 with
  | ex c fs ρ1 => cases e2; exact q
  | o x =>
    cases x with
    | nx ρ1 => exact fun σ' G' H' I' => ⟨E, ρ1, G', b1, o, b', I', e2, q⟩
    | bk ρ1 => cases e2; exact q
    | ct ρ1 => cases e2; exact q
    | rt d => cases e2; exact q
    | rn xs => cases e2; exact q
theorem se_if (ms : List Nat) {c : Expr} {a b : List Stmt} {t : Env → M Bool} (hc : DT X c t) (ha : DSsE X W a F1) (hb : DSsE X W b F2) : DSE X W (.If c a b pos) (ifE ms t F1 F2) := by
  refine PSimp (ps_if hc ha hb) ?_
  rintro D σ H ⟨E, ρ, G, b, o, b', I, e, q⟩
  obtain ⟨k, b1, e1, e2⟩ := M.bind_some e
  refine ⟨_, _, b, k, b1, I.rs ms, I.gp2 ms, I.gpb ms, e1, fun G1 H1 n1 => ?_⟩
  have I1 := I.flat n1
  cases k with
  | true => exact iteT ⟨E, ρ, G, b1, o, b', I1, e2, q⟩
  | false => exact iteF ⟨E, ρ, G, b1, o, b', I1, e2, q⟩
end
def tEE (K : PySem.W.Frag) (W : WX) (f : Env → M ER) : TE := fun σ H Q => ∃ ρ G b r b', RS K G σ ρ ∧ SameF G H ∧ BagOk G H b ∧ f ρ b = some (r, b') ∧ QE K G H b b' Q (fun cls d H' => W cls d σ H') r
abbrev DEE (X : Cx) (W : WX) (e : Expr) (f : Env → M ER) : Prop := PE X e (tEE X.K W f)
def eCallE (Fl : List D → M ER) (fa : Env → M (List D)) : Env → M ER := fun ρ => M.bind (fa ρ) Fl
theorem QE.weak {K : PySem.W.Frag} {G H G1 H1 : Hp} {b b1 b' : Bs} {Q : VK} {Ex : XK} {x : ER} (n : Nxt G H b G1 H1 b1) (q : QE K G H b b' Q Ex x) : QE K G1 H1 b1 b' Q Ex x := by
  cases x with
  | ok d => exact fun v G2 H2 n2 r => q v G2 H2 (n.upB.trans n2) r
  | ex c fs => exact fun G2 H2 cls d n2 r => q G2 H2 cls d (n.upB.trans n2) r
section
variable {X : Cx} {W : WX} {k : Nat} {f : Addr} {fd : FuncData} {ps : List Str} {x : Str} {p pos : Pos} {e a a2 : Expr} {es : List Expr} {n : Nat} {Fl : List D → M ER} {fa : Env → M (List D)}
theorem ee_call (F : FnOk X.prog X.w X.K X.mg X.base (L2.CX X.prog X.w) k f fd ps (spE X.K n Fl)) (hr : Room k X.A) (hg : Gl X x) (hm : X.mg x = some (.ref f)) (hk : PySem.W.keepIn X.K (.ref f) = true) (hb : Binds X.K fd ps []) (tk : Takes X W) (ha : DA X (e :: es) fa) (hn : ArN fa n)
    (hdb : (x == ("__debug__" : Str)) = false := by decide) (he : starEach (e :: es) X.env = (false, eval e X.env) :: starEach es X.env := by rfl) (hpl : (backTo pos (starEach es X.env)).any (·.1) = false := by rfl) :
    DEE X W (.Call (.Name x p) (e :: es) [] pos) (eCallE Fl fa) := by
  refine PEimp (pe_callS F hr hg hm hk hb (fun σ => passAt tk σ) ha hdb he hpl) ?_
  rintro σ H Q ⟨ρ, G, b, r, b', rs, fz, ob, e, q⟩
  obtain ⟨ds, b1, e1, e2⟩ := M.bind_some e
  refine ⟨ρ, G, b, ds, b1, rs, fz, ob, e1, fun vs G1 H1 n1 r1 => ?_⟩
  exact ⟨G1, b1, ds, r, b', r1, hn _ _ _ _ e1, n1.fz, n1.bag, e2, q.weak n1⟩
theorem ee_lift {f : Env → M D} (h : DE X e f) : DEE X W e (fun ρ => M.bind (f ρ) fun d => M.ret (.ok d)) := by
  refine PEimp h ?_
  rintro σ H Q ⟨ρ, G, b, r, b', rs, fz, ob, e, q⟩
  obtain ⟨d, b1, e1, e2⟩ := M.bind_some e
  cases e2
  exact ⟨ρ, G, b, d, b', rs, fz, ob, e1, fun v G' H' n r => q v G' H' n.upB r⟩
end
theorem SI.clear {K : PySem.W.Frag} {E : En} {σ : L2.St} {ρ : Env2} {G H : Hp} {b : Bs} (I : SI K E σ ρ G H b) (i : Nat) : SI K E (σ.set i none) (ρ.set i none) G H b := by
  obtain ⟨fp, w⟩ := I.own
  have old : ∀ {j : Nat} {s : Slot}, (ρ.set i none)[j]? = some (some s) → i ≠ j ∧ ρ[j]? = some (some s) := fun {j s} h => by
    by_cases hj : i = j
    · subst hj
      by_cases hi : i < ρ.length
      · rw [List.getElem?_set_self hi] at h; cases h
      · rw [List.getElem?_eq_none (by simpa using hi)] at h; cases h
    · exact ⟨hj, by rw [List.getElem?_set_ne hj] at h; exact h⟩
  refine ⟨I.fz, I.g0, I.new, I.keep, I.bag, I.like, by simpa using I.len, fun j d' h => ?_, fp, fun j s o h1 h2 => ?_, w.ok, w.nd, w.dj⟩
  · obtain ⟨hj, h⟩ := old h
    obtain ⟨u, e1, e2⟩ := I.val j d' h
    exact ⟨u, by rw [List.getElem?_set_ne hj]; exact e1, e2⟩
  · obtain ⟨hj, h1⟩ := old h1
    obtain ⟨u, e1, e2⟩ := w.at_ j s o h1 h2
    exact ⟨u, by rw [List.getElem?_set_ne hj]; exact e1, e2⟩
section
variable {X : Cx} {x n : Str} {cw : Value} {i : Nat} {body suite : List Stmt} {b₀ : Stmt} {np pos pos' : Pos} {cs : List Nat} {Fb : Env2 → M OutE} {Fh : Addr → Option Addr → Nat → Env2 → M Out}
end
section
variable {X : Cx} {a : Addr} {oe : Obj} {c c' : Nat} {C C' : Addr} {d : Option Addr} {pn : List (Addr × Obj)} {x : Str} {e : Expr} {f : Env → M D} {p p2 pos : Pos}
end
def liftK (o : Out) : M OutE := M.ret (.o o)
section
variable (ρ : Env) (ρ2 : Env2) (ms : List Nat)
theorem q_liftE (F : Env2 → M Out) : liftE F ρ2 = bnd (F ρ2) liftK := rfl
theorem q_liftK (o : Out) : liftK o = M.ret (.o o) := rfl
theorem q_seqE (F1 F2 : Env2 → M OutE) : seqE F1 F2 ρ2 = bnd (F1 ρ2) (seqEK F2) := rfl
theorem q_seqEK_nx (F2 : Env2 → M OutE) (r : Env2) : seqEK F2 (.o (.nx r)) = F2 r := rfl
theorem q_seqEK_rt (F2 : Env2 → M OutE) (d : D) : seqEK F2 (.o (.rt d)) = M.ret (.o (.rt d)) := rfl
theorem q_seqEK_rn (F2 : Env2 → M OutE) (d : List D) : seqEK F2 (.o (.rn d)) = M.ret (.o (.rn d)) := rfl
theorem q_seqEK_ex (F2 : Env2 → M OutE) (c : Nat) (fs : List D) (r : Env2) : seqEK F2 (.ex c fs r) = M.ret (.ex c fs r) := rfl
theorem q_ifE (t : Env → M Bool) (F F2 : Env2 → M OutE) : ifE ms t F F2 ρ2 = bnd (t (view ms ρ2)) fun k => cnd k (F ρ2) (F2 ρ2) := rfl
theorem q_eCallE (Fl : List D → M ER) (fa : Env → M (List D)) : eCallE Fl fa ρ = bnd (fa ρ) Fl := rfl
theorem q_runE (m : Nat) (F : Env2 → M OutE) (ds : List D) : runE m F ds = bnd (F (startD m ds)) runEK := rfl
theorem q_runEK_rt (d : D) : runEK (.o (.rt d)) = M.ret (.ok d) := rfl
theorem q_runEK_rn (xs : List D) : runEK (.o (.rn xs)) = M.ret (.ok (.lst xs)) := rfl
theorem q_runEK_nx (r : Env2) : runEK (.o (.nx r)) = M.ret (.ok .non) := rfl
theorem q_runEK_ex (c : Nat) (fs : List D) (r : Env2) : runEK (.ex c fs r) = M.ret (.ex c fs) := rfl
end
end
section
variable {X : Cx} {W : WX} {e : Expr} {pos : Pos}
end
end DL
set_option Elab.async false
set_option maxRecDepth 100000
set_option autoImplicit false
set_option linter.unusedVariables false
set_option maxHeartbeats 4000000
namespace DL
open PySem L2 PySem.Spec PyProof.Rows PySem.ErrX PySem.W
variable [TAB : TabList]
variable [EFF : Eff]
set_option linter.unusedSectionVars false
section
variable {X : Cx} {W : WX} {st : Stmt} {rest : List Stmt} {F : Env2 → M Out}
theorem se_liftN (h : DS X.nox st F) : DSE X W st (liftE F) := by
  refine se_lift ⟨fun pins s σ H D I q => ?_⟩
  exact wpAny_mono (h.run pins s σ H D (I.wish _) q) (fun f s1 z => SP.unwish z) fun e s1 z => z.elim
theorem sse_liftN (h : DSs X.nox rest F) : DSsE X W rest (liftE F) := by
  refine sse_lift ⟨fun pins s σ H D I q => ?_⟩
  exact wpAny_mono (h.run pins s σ H D (I.wish _) q) (fun f s1 z => SP.unwish z) fun e s1 z => z.elim
end
structure ErrText (st : Stmt) (f : Str) : Prop where
  ex : ∃ (t : Str) (j : Nat) (p1 p2 q0 q1 q2 q3 q4 q5 q6 q7 q8 q9 : Pos), defArgs st = iA f p1 p2 ∧ defBody st = iB t f j q0 q1 q2 q3 q4 q5 q6 q7 q8 q9 ∧ defScope st = iS f ∧
    (∀ (qual : Str) (L fI cda cc : Addr), ∃ pl : Sem Bool, eval (.Call (.Attribute (.Call (.Name "super" q0) [] [] q1) "__init__" q2) [.Constant (.str t) j q3] [] q4) (ksEnv qual (iS f) L fI (.ref cda) cc) = (do
      let ov ← attributeBase (.Call (.Name "super" q0) [] [] q1) "__init__" (ksEnv qual (iS f) L fI (.ref cda) cc) (eval (.Call (.Name "super" q0) [] [] q1) (ksEnv qual (iS f) L fI (.ref cda) cc))
      standAt q2.atName
      let (fu, first) ← holding [ov] (getMethod ov "__init__" pl)
      callWith q4 fu first (backTo q4 (starEach [.Constant (.str t) j q3] (ksEnv qual (iS f) L fI (.ref cda) cc))) []))
structure FldOk (f : Str) : Prop where
  lkf : (iS f).names.lookup f = some .local
  lkS : (iS f).names.lookup ("super" : Str) = some .globalImplicit
  lkC : (iS f).names.lookup ("__class__" : Str) = some .free
  fne : (("self" : Str) == f) = false
  fdb : (f == ("__debug__" : Str)) = false
structure ErrAt (P : Program) (K : PySem.W.Frag) (mg : Str → Option Value) (c : Nat) (C fI : Addr) : Prop where
  at_ : ErrC K c C
  tx : ErrTxt P K mg (errName c) (errFld c) C fI
  ic : PySem.W.isClsIn K C = true
theorem ErrAt.uniq {P : Program} {K : PySem.W.Frag} {mg : Str → Option Value} {c : Nat} {C C2 fI : Addr} (h : ErrAt P K mg c C fI) (h2 : ErrC K c C2) : C2 = C := by
  have := h.at_.symm.trans h2
  cases this
  rfl
def eLiftE (f : Env → M D) : Env → M ER := fun ρ => M.bind (f ρ) fun d => M.ret (.ok d)
theorem q_eLiftE (f : Env → M D) (ρ : Env) : eLiftE f ρ = bnd (f ρ) fun d => M.ret (.ok d) := rfl
end DL
set_option Elab.async false
set_option maxRecDepth 100000
set_option autoImplicit false
set_option linter.unusedVariables false
set_option maxHeartbeats 4000000
namespace DL
open PySem L2 PySem.Spec PyProof.Rows
variable [TAB : TabList]
variable [EFF : Eff]
set_option linter.unusedSectionVars false
section
variable {X : Cx} {k : Nat} {f : Addr} {fd : FuncData} {ps : List Str} {x : Str} {p pos : Pos} {e : Expr} {es : List Expr} {n : Nat} {Fn : List D → M D} {fa : Env → M (List D)}
end
theorem SI.flatV {K : PySem.W.Frag} {E : En} {σ : L2.St} {ρ : Env2} {G H G' H' : Hp} {b b' : Bs} (I : SI K E σ ρ G H b) {ms : List Nat} {fp : Nat → List Addr} (w : OwnAll K E.H σ ρ G H b fp) (n : Nxt (I.gp ms) H b G' H' b') : OwnAll K E.H σ ρ G H' b' fp := by
  refine ⟨fun i s o h1 h2 => ?_, fun i a ha => ?_, w.nd, w.dj⟩
  · obtain ⟨v, h3, h4⟩ := w.at_ i s o h1 h2
    refine ⟨v, h3, h4.mono (fun _ _ h => h) fun a ha => ?_⟩
    obtain ⟨_, _, k3, k4⟩ := w.ok i a ha
    obtain ⟨u, hu⟩ := some_of k4
    rw [n.keep a u hu k3, hu]
  · obtain ⟨k1, k2, k3, k4⟩ := w.ok i a ha
    obtain ⟨u, hu⟩ := some_of k4
    refine ⟨k1, k2, by rw [← Bs.like_at n.like]; exact k3, ?_⟩
    rw [n.keep a u hu k3]
    exact fun z => nomatch z
theorem q_toDu (xs : List O) : (O.u xs).toD = .tup (O.toDs xs) := rfl
theorem q_flu (xs : List O) : (O.u xs).fl = false := rfl
theorem q_sloU (xs : List O) : slotO (.u xs) = .tr (.u xs) := rfl
section
variable {X : Cx} {pos : Pos}
end
end DL
set_option Elab.async false
set_option maxRecDepth 100000
set_option autoImplicit false
set_option linter.unusedVariables false
set_option maxHeartbeats 4000000
namespace DL
open PySem L2 PySem.Spec PyProof.Rows
variable [TAB : TabList]
variable [EFF : Eff]
set_option linter.unusedSectionVars false
section
variable {K : PySem.W.Frag} {E : En} {σ : L2.St} {ρ : Env2} {G H : Hp} {b b' : Bs}
theorem OwL.snoc {vs : List V} {os : List O} {fp : List Addr} {v : V} {o : O} {fq : List Addr} : OwL K G H vs os fp → Ow K G H v o fq → OwL K G H (vs ++ [v]) (os ++ [o]) (fp ++ fq) := by
  intro h w
  induction vs generalizing os fp with
  | nil =>
    cases h
    have := OwL.cons w .nil
    simpa using this
  | cons x vs ih =>
    cases h with
    | cons a r =>
      have := OwL.cons a (ih r)
      simpa [List.append_assoc] using this
end
section
variable {X : Cx} {pos : Pos}
end
end DL
set_option Elab.async false
set_option maxRecDepth 100000
set_option autoImplicit false
set_option linter.unusedVariables false
set_option maxHeartbeats 4000000
namespace DL
open PySem L2 PySem.Spec PyProof.Rows PySem.W
variable [TAB : TabList]
variable [EFF : Eff]
set_option linter.unusedSectionVars false
def encD (d : D) : PyData := (toPy d).getD .none
structure SortD (ds : List D) : Prop where
  py : ∀ d ∈ ds, ∃ e, toPy d = some e ∧ encD d = e
  al : AllAlike (ds.map encD)
  so : Sortable (ds.map encD)
  dp : ∀ d ∈ ds, (encD d).depth ≤ 60
  sz : ds.length ≤ sizeLine
section
variable {X : Cx}
end
section
variable {X : Cx} {a b : Expr} {f g : DL.Env → M D} {pos : Pos}
end
end DL
set_option Elab.async false
set_option maxRecDepth 100000
set_option autoImplicit false
set_option linter.unusedVariables false
set_option maxHeartbeats 4000000
namespace DL
open PySem L2 PySem.Spec PyProof.Rows
variable [TAB : TabList]
variable [EFF : Eff]
set_option linter.unusedSectionVars false
end DL
set_option Elab.async false
set_option maxRecDepth 100000
set_option autoImplicit false
set_option linter.unusedVariables false
set_option maxHeartbeats 4000000
namespace DL
open PySem L2 PySem.Spec PyProof.Rows
variable [TAB : TabList]
variable [EFF : Eff]
set_option linter.unusedSectionVars false
def kD : L2.Key → D
  | .inl i => .int i
  | .inr x => .str x.cps.toList
theorem kD_rp {K : PySem.W.Frag} {G : Hp} : ∀ k : L2.Key, Rp K G (kV k) (kD k)
  | .inl i => .int i
  | .inr x => by
    have e : (⟨x.cps.toList.toArray⟩ : Str) = x := by cases x; simp
    have := Rp.str (K := K) (G := G) x.cps.toList
    rw [e] at this
    exact this
def itemL (ks : List L2.Key) (ds : List D) : List D := (ks.zip ds).map fun kx => .tup [kD kx.1, kx.2]
end DL
set_option Elab.async false
set_option maxRecDepth 100000
set_option autoImplicit false
set_option linter.unusedVariables false
set_option maxHeartbeats 4000000
namespace DL
open PySem L2 PySem.Spec PyProof.Rows
variable [TAB : TabList]
variable [EFF : Eff]
set_option linter.unusedSectionVars false
section
variable {X : Cx}
def InCl (cl : List (Str × Addr)) (a : Addr) : Prop := ∃ y, cl.lookup y = some a
variable {cl : List (Str × Addr)} {G G' H H' H1 H2 : Hp} {a : Addr} {o : HO}
structure AddC (cl : List (Str × Addr)) (l : LamI) (is : List Nat) (σ : L2.St) (H H2 : Hp) : Prop where
  ck : ClK l cl
  out : ∀ a, ¬ InCl cl a → H2 a = H a
  inn : ∀ a, InCl cl a → H a = none ∧ ∃ o v, H2 a = some (CellX a o) ∧ o.data = .cell v
  val : ∀ (j : Nat) (y : Str) (i : Nat) (v : V), l.frees[j]? = some y → is[j]? = some i → σ[i]? = some (some v) → ∃ c o u, cl.lookup y = some c ∧ H2 c = some (CellX c o) ∧ o.data = .cell (some u) ∧ RelV v u
structure OwnCl (X : Cx) (l : LamI) (cl : List (Str × Addr)) (is : List Nat) : Prop where
  ours : ∀ y c, cl.lookup y = some c → X.env.cells.lookup y = some c ∧ X.fn y = true ∧ y ∈ l.frees
  has : ∀ (j : Nat) (y : Str) (i : Nat), l.frees[j]? = some y → is[j]? = some i → X.N[i]? = some y ∧ X.env.scope.names.lookup y = some .cell ∧ ∃ c, cl.lookup y = some c
section
variable {pins : List (Addr × Obj)} {σ : L2.St} {s : Shared} {l : LamI} {is : List Nat}
end
end
def Pln (o : HO) : Prop := (∀ φ, o ≠ .ext φ) ∨ ∃ a C dx vs, o = SlX.SlO a C dx vs
theorem cell_ne_ext {φ : Heap → Prop} {a : Addr} {oc : Obj} {v : Option Value} (hc : oc.data = .cell v) (h : ∀ hp : Heap, φ hp → ∃ a o, hp.get? a = some o ∧ ∀ v, o.data ≠ .cell v) : HO.ext φ ≠ CellX a oc := fun z => by
  unfold CellX at z
  have e := HO.ext.inj z
  have hd : oc.data ≠ .freed := fun z => by rw [hc] at z; cases z
  have p : φ { objs := Array.replicate (a + 1) oc } := by
    rw [e]
    exact rep_get? _ oc hd (Nat.lt_succ_self a)
  obtain ⟨b, o, h1, h2⟩ := h _ p
  have := get?_rep _ oc hd h1
  subst this
  exact h2 _ hc
theorem slO_data {a C dx : Addr} {vs : List (Option V)} {hp : Heap} (h : ∃ sl : Array (Option Value), hp.get? a = some { PySem.W.instObj C dx with slots := sl } ∧ SlX.SlR vs sl) : ∃ a o, hp.get? a = some o ∧ o.data = .plain := by
  obtain ⟨sl, h1, _⟩ := h
  exact ⟨a, _, h1, rfl⟩
theorem Pln.cell {o : HO} {a : Addr} {oc : Obj} {v : Option Value} (p : Pln o) (hc : oc.data = .cell v) : o ≠ CellX a oc := by
  rcases p with p | ⟨a2, C, dx, vs, rfl⟩
  · intro z
    unfold CellX at z
    exact p _ z
  · refine cell_ne_ext hc fun hp h => ?_
    obtain ⟨a, o, h1, h2⟩ := slO_data h
    exact ⟨a, o, h1, fun v z => by rw [h2] at z; cases z⟩
theorem Pln.code {o : HO} {c : Addr} {q : Str} (p : Pln o) : o ≠ LamX.CodeO c q := by
  rcases p with p | ⟨a2, C, dx, vs, rfl⟩
  · exact codeO_ne p
  · refine ext_ne fun hp h => ?_
    obtain ⟨a, o, h1, h2⟩ := slO_data h
    exact ⟨a, o, h1, fun v z => by rw [h2] at z; cases z⟩
theorem BagP.noCode {G H : Hp} {b : Bs} {a c : Addr} {q : Str} {k : Nat} (ob : BagP G H b) (g : G a = some (ghost k)) : H a ≠ some (LamX.CodeO c q) := by
  cases b with
  | none => exact absurd g (ob a k)
  | some b =>
    have cs := ob.2.2.2
    obtain ⟨a2, h2, x⟩ := cs.at_ k _ (List.getElem?_eq_getElem (cs.lt a k g))
    cases cs.one a2 a k h2 g
    generalize b.st[k]'(cs.lt a k g) = ce at x
    cases ce with
    | lst xs => obtain ⟨_, _, _, _, p, _⟩ := x; rw [p]; exact fun z => codeO_ne (fun φ z => by cases z) (Option.some.inj z)
    | dK ks xs => obtain ⟨_, _, _, _, p, _⟩ := x; rw [p]; exact fun z => codeO_ne (fun φ z => by cases z) (Option.some.inj z)
    | dT ks xs => obtain ⟨_, _, _, _, p, _⟩ := x; rw [p]; exact fun z => codeO_ne (fun φ z => by cases z) (Option.some.inj z)
    | obj cc xs => obtain ⟨_, _, _, _, _, _, _, p, _⟩ := x; rw [p]; exact fun z => Pln.code (.inr ⟨_, _, _, _, rfl⟩) (Option.some.inj z)
theorem Same.sqtW {K : PySem.W.Frag} {G G' : Hp} {a : Addr} {xs : List V} (h : ∀ a o, G a = some o → Pln o → G' a = some o) (r : SqT K G a xs) : SqT K G' a xs := by
  rcases r with (r | ⟨o, r⟩) | r
  · exact .inl (.inl (h _ _ r (.inl fun φ z => by cases z)))
  · exact .inl (.inr ⟨o, h _ _ r (.inl fun φ z => by cases z)⟩)
  · exact .inr r
theorem Same.sqlW {K : PySem.W.Frag} {G G' : Hp} {a : Addr} {xs : List V} (h : ∀ a o, G a = some o → Pln o → G' a = some o) (r : SqL K G a xs) : SqL K G' a xs := by
  rcases r with (r | ⟨o, r⟩) | r
  · exact .inl (.inl (h _ _ r (.inl fun φ z => by cases z)))
  · exact .inl (.inr ⟨o, h _ _ r (.inl fun φ z => by cases z)⟩)
  · exact .inr r
theorem ExD.weak {G G' : Hp} (h : ∀ a o, G a = some o → Pln o → G' a = some o) : ∀ {dx : Option Addr} {c : Nat} {vs : List V}, ExD G dx c vs → ExD G' dx c vs
  | some _, _, [_], e => h _ _ e (.inl fun φ z => by cases z)
  | none, _, [], _ => trivial
  | some _, _, [], e => e.elim
  | some _, _, _ :: _ :: _, e => e.elim
  | none, _, _ :: _, e => e.elim
theorem rd_plnK {G G' : Hp} (h : ∀ a o, G a = some o → Pln o → G' a = some o) {a : Addr} {kvs : List (L2.Key × V)} (e : Rd G a (.dK kvs)) : Rd G' a (.dK kvs) := rd_if h (.inl fun φ z => by cases z) (fun o => .inl fun φ z => by cases z) e
theorem rd_plnT {G G' : Hp} (h : ∀ a o, G a = some o → Pln o → G' a = some o) {a : Addr} {kvs : List (List L2.Key × V)} (e : Rd G a (.dT kvs)) : Rd G' a (.dT kvs) := rd_if h (.inl fun φ z => by cases z) (fun o => .inl fun φ z => by cases z) e
mutual
theorem Rp.weak {K : PySem.W.Frag} {G G' : Hp} (h : ∀ a o, G a = some o → Pln o → G' a = some o) : ∀ {v : V} {d : D}, d.noc = true → Rp K G v d → Rp K G' v d
  | _, _, _, .non => .non
  | _, _, _, .bl b => .bl b
  | _, _, _, .int i => .int i
  | _, _, _, .str x => .str x
  | _, _, p, .lst e r => .lst (h _ _ e (.inl fun φ z => by cases z)) (RpL.weak h p r)
  | _, _, p, .tup e r => .tup (Same.sqtW h e) (RpL.weak h p r)
  | _, _, p, .dct e l r => .dct (rd_plnK h e) l (RpL.weak h p r)
  | _, _, p, .dcT e l r => .dcT (rd_plnT h e) l (RpL.weak h p r)
  | _, _, p, .obj h0 e h2 r => .obj h0 (h _ _ e (.inr ⟨_, _, _, _, rfl⟩)) (h _ _ h2 (.inl fun φ z => by cases z)) (RpL.weak h p r)
  | _, _, _, .bag p => .bag p
  | _, _, _, .scr e => .scr (Same.sqlW h e)
  | _, _, p, .exc e r => .exc (ExD.weak h e) (RpL.weak h p r)
  | _, _, p, .clo _ _ _ _ => by cases p
  | _, _, _, .cel e => .cel (h _ _ e (.inl fun φ z => by cases z))
theorem RpL.weak {K : PySem.W.Frag} {G G' : Hp} (h : ∀ a o, G a = some o → Pln o → G' a = some o) : ∀ {vs : List V} {ds : List D}, nocL ds = true → RpL K G vs ds → RpL K G' vs ds
  | _, _, _, .nil => .nil
  | _, _, p, .cons a r => by
    unfold nocL at p
    rw [Bool.and_eq_true] at p
    exact .cons (Rp.weak h p.1 a) (RpL.weak h p.2 r)
end
theorem RpO.weak {K : PySem.W.Frag} {G G' : Hp} (h : ∀ a o, G a = some o → Pln o → G' a = some o) : ∀ {vs : List (Option V)} {ds : List (Option D)}, nocO ds = true → RpO K G vs ds → RpO K G' vs ds
  | _, _, _, .nil => .nil
  | _, _, p, .no r => .no (RpO.weak h p r)
  | _, _, p, .yes a r => by
    unfold nocO at p
    rw [Bool.and_eq_true] at p
    exact .yes (Rp.weak h p.1 a) (RpO.weak h p.2 r)
theorem CelOk.weak {G H G' H' : Hp} {st : List Cell} (x : CelOk G H st) (h : ∀ a o, G a = some o → Pln o → G' a = some o) (gi : ∀ a k, G' a = some (ghost k) → G a = some (ghost k)) (ec : ∀ a k, G a = some (ghost k) → H' a = H a) : CelOk G' H' st := by
  refine ⟨fun k c e => ?_, fun a b k p q => x.one a b k (gi _ _ p) (gi _ _ q), fun a k p => x.lt a k (gi _ _ p)⟩
  obtain ⟨a, g, y⟩ := x.at_ k c e
  refine ⟨a, h _ _ g (.inl fun φ z => by cases z), ?_⟩
  have hh := ec a k g
  cases c with
  | lst xs => obtain ⟨K, vs, k1, nc, p, r⟩ := y; exact ⟨K, vs, k1, nc, by rw [hh]; exact p, RpL.weak h nc r⟩
  | dK ks xs => obtain ⟨K, vs, k1, nc, p, l, r⟩ := y; exact ⟨K, vs, k1, nc, by rw [hh]; exact p, l, RpL.weak h nc r⟩
  | dT ks xs => obtain ⟨K, vs, k1, nc, p, l, r⟩ := y; exact ⟨K, vs, k1, nc, by rw [hh]; exact p, l, RpL.weak h nc r⟩
  | obj c xs => obtain ⟨K, C, dx, vs, k1, nc, n, p, d, r⟩ := y; exact ⟨K, C, dx, vs, k1, nc, n, by rw [hh]; exact p, h _ _ d (.inl fun φ z => by cases z), RpO.weak h nc r⟩
theorem nocL_app {xs ys : List D} : nocL (xs ++ ys) = (nocL xs && nocL ys) := by
  induction xs with
  | nil => rfl
  | cons x r ih => show (x.noc && nocL (r ++ ys)) = (x.noc && nocL r && nocL ys); rw [ih, Bool.and_assoc]
theorem BagOk.sub {G H G' H' : Hp} {b : Bs} (ob : BagOk G H b) (g0 : ∀ a, b.hit a → G' a = none) (g1 : ∀ a vs, G a = some (.lst vs) → G' a = some (.lst vs)) (h1 : ∀ a o, H a = some o → (∀ φ, o ≠ .ext φ) → H' a = some o)
    (h2 : ∀ c q, H c = some (LamX.CodeO c q) → H' c = some (LamX.CodeO c q)) (gi : ∀ a k, G' a = some (ghost k) → G a = some (ghost k)) (cs : ∀ g, b = some g → CelOk G' H' g.st) : BagOk G' H' b := by
  refine ⟨?_, fun p hp => ⟨g0 _ (.inr ⟨p.2, hp⟩), ?_⟩⟩
  · have o1 := ob.1
    cases b with
    | none => exact fun a k z => o1 a k (gi a k z)
    | some g =>
      obtain ⟨k1, k2, k3, _⟩ := o1
      exact ⟨g0 _ (.inl rfl), h1 _ _ k2 (fun φ z => by cases z), g1 _ _ k3, cs g rfl⟩
  · obtain ⟨_, ps, z1, z2, z3⟩ := ob.2 p hp
    refine ⟨ps, h1 _ _ z1 (fun φ z => by cases z), z2, fun pos cv hc => ?_⟩
    obtain ⟨c, e1, e2⟩ := z3 pos cv hc
    exact ⟨c, e1, h2 _ _ e2⟩
theorem BagOk.hitX {G H : Hp} {b : Bs} {a : Addr} {φ : Heap → Prop} (ob : BagOk G H b) (h : H a = some (.ext φ)) : ¬ b.hit a := fun z => by
  rcases z with z | ⟨q, z⟩
  · cases b with
    | none => cases z
    | some g =>
      cases z
      rw [ob.1.2.1] at h
      cases h
  · obtain ⟨_, ps, e, _⟩ := ob.2 _ z
    have e : H a = some (.tbl ps) := e
    rw [h] at e
    cases e
inductive RpA (K : PySem.W.Frag) (G H : Hp) (l : LamI) (cl : List (Str × Addr)) (cs : List D) : List V → List D → Prop
  | nil : RpA K G H l cl cs [] []
  | cons {v : V} {vs : List V} {d : D} {ds : List D} : Rp K G v d → RpA K G H l cl cs vs ds → RpA K G H l cl cs (v :: vs) (d :: ds)
  | lam {f c : Addr} {vs : List V} {ds : List D} : G f = some (FunX f l cl c) → H c = some (LamX.CodeO c l.qual) → RpA K G H l cl cs vs ds → RpA K G H l cl cs (.ref f :: vs) (.clo l cs :: ds)
section
variable {X : Cx} {l : LamI} {cl : List (Str × Addr)} {is : List Nat} {e : Expr} {es : List Expr} {f : Env → M D} {fa : Env → M (List D)}
end
end DL
set_option Elab.async false
set_option maxRecDepth 100000
set_option autoImplicit false
set_option linter.unusedVariables false
set_option maxHeartbeats 4000000
namespace DL
open PySem L2 PySem.Spec PyProof.Rows
variable [TAB : TabList]
variable [EFF : Eff]
set_option linter.unusedSectionVars false
def lamC (prog : Program) (w : World) (K : PySem.W.Frag) (mg : Str → Option Value) (base : Heap) (A : Around) (outer : List PySem.Env) (s : Shared) (H : Hp) (l : LamI) (N : List Str) (f c : Addr) (cl : List (Str × Addr)) : Cx where
  prog := prog
  w := w
  K := K
  mg := mg
  base := base
  A := A.deeper (PySem.W.envX l.qual l.scope s.heap.objs.size f (.ref c) cl)
  N := N
  s_0 := s
  H_0 := H
  env := PySem.W.envX l.qual l.scope s.heap.objs.size f (.ref c) cl
  outer := outer
  stack := PySem.W.envX l.qual l.scope s.heap.objs.size f (.ref c) cl :: outer
  ex := []
  fn := fun _ => false
  calm := true
  pn := []
  xe := fun e s1 => wpAny (model prog w) (A.deeper (PySem.W.envX l.qual l.scope s.heap.objs.size f (.ref c) cl)) (leaving (PySem.W.envX l.qual l.scope s.heap.objs.size f (.ref c) cl) e) (fun _ _ => False) (fun _ _ => False) s1
structure LamOk (P : Program) (w : World) (K : PySem.W.Frag) (mg : Str → Option Value) (base : Heap) (k : Nat) (l : LamI) (x : Str) (Fl : Env → M D) : Prop where
  kind : l.scope.kind = .function
  co : l.scope.isCoroutine = false
  gen : l.scope.isGenerator = false
  nm : ∀ y ∈ l.scope.names, y.2 ≠ .cell ∧ (y.2 = .free → y.1 ∈ l.frees) ∧ (y.2 = .local → y.1 = x)
  par : l.scope.names.lookup x = some .local
  fre : ∀ y ∈ l.frees, l.scope.names.lookup y = some .free
  bind : ∀ (cl : List (Str × Addr)) (pm c ctv u : Value), bindArgs (PySem.W.kla_fn "<lambda>" l.qual l.params l.body l.scope cl pm c ctv) ⟨[u], []⟩ = pure [(x, u)]
  body : ∀ (A : Around) (outer : List PySem.Env) (s : Shared) (H : Hp) (f c : Addr) (cl : List (Str × Addr)), Room k (A.deeper (PySem.W.envX l.qual l.scope s.heap.objs.size f (.ref c) cl)) → DE (lamC P w K mg base A outer s H l (x :: l.frees) f c cl) l.body Fl
theorem CellsAt.get {G : Hp} {cl : List (Str × Addr)} : ∀ {fr : List Str} {vs : List V} {j : Nat} {y : Str} {v : V}, CellsAt G cl fr vs → fr[j]? = some y → vs[j]? = some v → ∃ c o u, cl.lookup y = some c ∧ G c = some (CellX c o) ∧ o.data = .cell (some u) ∧ RelV v u
  | [], _, _, _, _, _, h, _ => by simp at h
  | _ :: _, [], _, _, _, h, _, _ => h.elim
  | y0 :: fr, v0 :: vs, 0, y, v, h, h1, h2 => by
    cases h1
    cases h2
    exact h.1
  | y0 :: fr, v0 :: vs, j + 1, y, v, h, h1, h2 => CellsAt.get (j := j) h.2 (by simpa using h1) (by simpa using h2)
theorem CellsAt.len {G : Hp} {cl : List (Str × Addr)} : ∀ {fr : List Str} {vs : List V}, CellsAt G cl fr vs → vs.length = fr.length
  | [], [], _ => rfl
  | [], _ :: _, h => h.elim
  | _ :: _, [], h => h.elim
  | _ :: fr, _ :: vs, h => by simp [CellsAt.len (fr := fr) h.2]
theorem CellsAt.mem {G : Hp} {cl : List (Str × Addr)} : ∀ {fr : List Str} {vs : List V} {y : Str}, CellsAt G cl fr vs → y ∈ fr → ∃ c o u, cl.lookup y = some c ∧ G c = some (CellX c o) ∧ o.data = .cell (some u)
  | [], _, _, _, h => nomatch h
  | _ :: _, [], _, h, _ => h.elim
  | y0 :: fr, v0 :: vs, y, h, hm => by
    rcases List.mem_cons.mp hm with rfl | hm
    · obtain ⟨c, o, u, h1, h2, h3, _⟩ := h.1
      exact ⟨c, o, u, h1, h2, h3⟩
    · exact CellsAt.mem h.2 hm
section
variable {P : Program} {w : World} {K : PySem.W.Frag} {mg : Str → Option Value} {base : Heap} {k : Nat} {l : LamI} {x : Str} {Fl : Env → M D} {A : Around} {outer : List PySem.Env} {s : Shared} {H : Hp} {f c : Addr} {cl : List (Str × Addr)} {vsc : List V}
end
section
variable {X : Cx} {k : Nat} {LT : List (LamI × (Env → M D))} {f : Env → M D} {e : Expr} {x : Str} {p pos : Pos}
end
end DL
set_option Elab.async false
set_option maxRecDepth 100000
set_option autoImplicit false
set_option linter.unusedVariables false
set_option maxHeartbeats 4000000
namespace DL
open PySem L2 PySem.Spec PyProof.Rows
variable [TAB : TabList]
set_option linter.unusedSectionVars false
section
variable {P : Program} {w : World} {K : PySem.W.Frag} {mg : Str → Option Value} {base : Heap} {x qual : Str} {st : Stmt} {f c0 : Addr} {fd : FuncData} {N ps : List Str} {k : Nat} {Fs : Env2 → M Out} {l : LamI} {is : List Nat}
end
end DL
set_option Elab.async false
set_option maxRecDepth 100000
set_option autoImplicit false
set_option linter.unusedVariables false
set_option maxHeartbeats 4000000
namespace DL
open PySem L2 PySem.Spec PyProof.Rows
section
variable {P : Program} {w : World} {K : PySem.W.Frag} {mg : Str → Option Value} {base : Heap} {k j : Nat} {l : LamI} {x : Str} {F : Env → M D} [TAB : TabList]
theorem LamOk.mono (h : LamOk P w K mg base j l x F) (hk : j ≤ k) : LamOk P w K mg base k l x F := ⟨h.kind, h.co, h.gen, h.nm, h.par, h.fre, h.bind, fun A outer s H f c cl hr => h.body A outer s H f c cl (hr.mono hk)⟩
end
theorem all_nil {α : Type} {φ : α → Prop} : ∀ c ∈ ([] : List α), φ c := fun c hc => nomatch hc
theorem all_cons {α : Type} {φ : α → Prop} {a : α} {l : List α} (h : φ a) (r : ∀ c ∈ l, φ c) : ∀ c ∈ a :: l, φ c := fun c hc => by
  rcases List.mem_cons.mp hc with rfl | hc
  · exact h
  · exact r c hc
abbrev tabsOf (K : PySem.W.Frag) (cs : List (Addr × Addr × Str)) : TabList := ⟨cs.map (·.2), some K⟩
theorem law_callT {P : Program} {w : World} {K : PySem.W.Frag} {mg mb : Str → Option Value} {k : Nat} {fa a : Addr} {fd : FuncData} {x : Str} {s1 : Shared} {vs : List Value} {ns : List Int} {cs : List (Addr × Addr × Str)}
    (KX : K.In s1.heap) (hns : s1.heap.Ns mainGlobals mg) (hb : s1.heap.Ns builtinsNs mb) (hbb : ∀ x : Str, x ≠ "__name__" → mb x = bootBuiltins x) (hlim : s1.heap.NoLimit) (hg : s1.gens = #[])
    (hE : ∀ c ∈ cs, s1.heap.get? c.2.1 = some { cls := .none, data := .fields #[] }) (nE : ∀ c ∈ cs, K.lookup c.2.1 = none) (hC : ∀ c ∈ cs, PySem.W.CodeHd s1.heap c.1 c.2.1)
    (hbm : ∃ bm ob, mg "__builtins__" = some (.ref bm) ∧ bm ≠ builtinsNs ∧ s1.heap.get? bm = some ob ∧ ob.cls = .type "module" ∧ ob.dict = some builtinsNs ∧ ob.data = .plain)
    (ha : s1.heap.get? a = some { cls := .type "list", data := .seq vs.toArray }) (hi : IntsAre vs ns) (hl : ns.length ≤ 63) (hr : Room k callerA)
    (F : ∀ base : Heap, K.In base → base.Ns mainGlobals mg → (∀ c ∈ cs, LamX.TabB base mg c.1 c.2.1) → FnG P w K mg base k fa fd [x] (@spLaw (tabsOf K cs) K)) (hbind : ∀ (s : Shared) (u : Value), BindsTo s fd ⟨[u], []⟩ [(x, u)]) :
    codeAny (model P w) callerA (.call (.ref fa) ⟨[.ref a], []⟩) (fun r s' => r = .ok (.ret (.bool true)) ∧ OldK s1.heap s'.heap ∧ s'.os = s1.os ∧ AllBare s'.gens) s1 := by
  have rv := vals_ints hi
  have hsz : ns.length ≤ sizeLine := Nat.le_trans hl (by decide)
  let Tb : Addr → Prop := fun b => ∃ c ∈ cs, c.2.1 = b
  have atT : ∀ b, Tb b → s1.heap.get? b = some { cls := .none, data := .fields #[] } := fun b ⟨c, hc, e⟩ => by
    rw [← e]; exact hE c hc
  have naT : ¬ Tb a := fun z => by
    have h := atT a z
    rw [ha] at h
    have h2 := congrArg Obj.data (Option.some.inj h)
    cases h2
  have main : ∀ H : Hp, (∀ b, Tb b → H b = some (.tbl #[])) → (∀ b, H b = none ∨ Tb b ∨ ∃ o xs, H b = some (.frz o (.lst xs))) → SqL K H a (ns.map V.int) → HOk P w H s1.heap → (∀ b u, H b = some u → ¬ Tb b → b = a ∧ K.lookup a = none) →
      codeAny (model P w) callerA (.call (.ref fa) ⟨[.ref a], []⟩) (fun r s' => r = .ok (.ret (.bool true)) ∧ OldK s1.heap s'.heap ∧ s'.os = s1.os ∧ AllBare s'.gens) s1 := by
    intro H hT hO hS hok hA
    haveI := fun b => Classical.propDecidable (Tb b)
    have out : ∀ {b : Addr} {o : Obj}, s1.heap.get? b = some o → (∀ vs n, o.data ≠ .seq vs n) → o.data ≠ .fields #[] → H b = none := by
      intro b o e n1 n2
      cases q : H b with
      | none => rfl
      | some u =>
        by_cases z : Tb b
        · rw [atT b z] at e
          cases e
          exact absurd rfl n2
        · obtain ⟨rfl, _⟩ := hA b u q z
          rw [ha] at e
          cases e
          exact absurd rfl (n1 _ _)
    have dict_free : ∀ {b : Addr} {o : Obj} {es : Array DictEntry} {ep : Nat}, s1.heap.get? b = some o → o.data = .dict es ep → H b = none := fun e d => out e (fun vs n z => by rw [d] at z; cases z) (fun z => by rw [d] at z; cases z)
    have nsK : ∀ {b : Addr} {m : Str → Option Value}, s1.heap.Ns b m → (hidT s1.heap H).Ns b m := by
      rintro b m ⟨o, es, ep, e, d, r⟩
      exact ⟨o, es, ep, hidT_get e (dict_free e d), d, r⟩
    have hKb : K.In (hidT s1.heap H) := by
      intro b o e
      refine hidT_get (KX b o e) ?_
      cases q : H b with
      | none => rfl
      | some u =>
        by_cases z : Tb b
        · obtain ⟨c, hc, ec⟩ := z
          rw [← ec, nE c hc] at e
          cases e
        · obtain ⟨rfl, h2⟩ := hA b u q z
          rw [h2] at e; cases e
    have lim : (hidT s1.heap H).NoLimit := by
      obtain ⟨mc, h1, h2⟩ := hlim
      exact ⟨mc, nsK h1, h2⟩
    have tb : ∀ c ∈ cs, LamX.TabB (hidT s1.heap H) mg c.1 c.2.1 := by
      intro c hc
      have hp := hE c hc
      have nG : mainGlobals ≠ c.2.1 := by
        intro z
        obtain ⟨o, es, ep, e, hd, _⟩ := hns
        rw [z, hp] at e
        cases e
        cases hd
      refine ⟨?_, ?_, nG⟩
      · obtain ⟨oc, fl, fi, t1, t2, t3, t4, t5, t6, g1, g2, g3, g4⟩ := hC c hc
        refine ⟨oc, fl, fi, t1, t2, t3, t4, t5, t6, hidT_get g1 (out g1 (fun vs n z => ?_) fun z => ?_), g2, g3, g4⟩
        · rw [g3] at z; cases z
        · rw [g3] at z
          cases z
          obtain ⟨g5, _⟩ := g4
          simp at g5
      · obtain ⟨bm, ob, b1, b2, b3, b4, b5, b6⟩ := hbm
        refine ⟨bm, ob, b1, b2, fun z => ?_, fun z => ?_, hidT_get b3 (out b3 (fun vs n z => ?_) fun z => ?_), b4, b5, b6⟩
        · obtain ⟨o, es, ep, e, hd, _⟩ := hns
          rw [z, e] at b3
          cases b3
          rw [hd] at b6
          cases b6
        · rw [z, hp] at b3
          cases b3
          cases b6
        · rw [b6] at z; cases z
        · rw [b6] at z; cases z
    have e0 : Env0 P w K mg (hidT s1.heap H) callerA [] s1 H :=
      ⟨rfl, ⟨hKb, nsK hns, ⟨mb, nsK hb, hbb⟩, lim⟩, fun b o e => of_hidT e, Nat.le_of_eq (hidT_size _ _), trivial, fun b hb => (nomatch (show b ∈ ([] : List Addr) from hb)), hok, .of_eq hg⟩
    have sp : @spLaw (tabsOf K cs) K [.ref a] H (fun v _ => v = .bl true) E0 := by
      refine ⟨a, ns, rfl, hS, hl, fun p hp => ?_, fun _ => rfl⟩
      obtain ⟨c, hc, e⟩ := List.mem_map.mp hp
      refine LamX.TabS.nil (hT _ ⟨c, hc, ?_⟩)
      rw [← e]
    have fin := (F _ hKb (nsK hns) tb).run callerA [] s1 H ⟨[.ref a], []⟩ [.ref a] [.ref a] (fun v _ => v = .bl true) hr rfl e0 (hbind s1 (.ref a)) (.cons rfl .nil) sp
    refine codeAny_mono fin fun r s' h => ?_
    cases r with
    | error e => exact False.elim h
    | ok fl =>
      cases fl with
      | next => exact False.elim h
      | brk => exact False.elim h
      | cont => exact False.elim h
      | ret u =>
        obtain ⟨v, H', os, bare, un, hok', r', q⟩ := h
        have q : v = .bl true := q
        subst q
        cases (show u = Value.bool true from r')
        have same : ∀ b o, ¬ Tb b → s1.heap.get? b = some o → s'.heap.get? b = some o := fun b o nb e => by
          rcases hO b with z | z | ⟨ob, xs, z⟩
          · exact un.keep b o e z (by intro h; cases h) (by intro h; cases h)
          · exact absurd z nb
          · have e1 := (hok b _ z).1
            have e2 := (hok' b _ (un.frzs b ob _ z)).1
            rw [e] at e1
            cases e1
            exact e2
        have more : ∀ b, Tb b → ∃ ps : Array Value, s'.heap.get? b = some { cls := .none, data := .fields ps } := fun b z => by
          obtain ⟨m, hm⟩ := un.tbls b #[] (hT b z)
          exact ⟨_, hok' b _ hm⟩
        refine ⟨rfl, ⟨fun b o e => ?_, fun b o e => ?_⟩, os, bare⟩
        · by_cases z : Tb b
          · obtain ⟨ps, hm⟩ := more b z
            obtain ⟨c, hc, ec⟩ := z
            have ee := hE c hc
            rw [ec, e] at ee
            cases ee
            refine .inr (.inl ⟨?_, rfl, #[], ps, rfl, by rw [Array.empty_append]; exact hm⟩)
            have t := ((hC c hc).tab (hE c hc)).isCodeTable
            rw [ec] at t
            exact t
          · exact .inl (same b o z e)
        · by_cases z : Tb b
          · obtain ⟨ps, hm⟩ := more b z
            exact ⟨_, hm⟩
          · exact ⟨o, same b o z e⟩
  haveI := fun b => Classical.propDecidable (Tb b)
  cases hk : K.lookup a with
  | some o =>
    have e := KX a o hk
    rw [ha] at e
    cases e
    refine main (fun b => if Tb b then some (.tbl #[]) else none) (fun b z => if_pos z) (fun b => ?_) (.inr ⟨_, vs.toArray, _, hk, rfl, rfl, rfl, ?_, by simpa using rv⟩) (fun b u z => ?_) (fun b u z nz => ?_)
    · by_cases z : Tb b
      · exact .inr (.inl z)
      · exact .inl (if_neg z)
    · rw [List.size_toArray, hi.length]; exact hsz
    · by_cases y : Tb b
      · have z := (if_pos y).symm.trans z
        cases z
        exact atT b y
      · have z := (if_neg y).symm.trans z
        cases z
    · have z := (if_neg nz).symm.trans z
      cases z
  | none =>
    let ob : Obj := { cls := .type "list", data := .seq vs.toArray }
    refine main (fun b => if Tb b then some (.tbl #[]) else if b = a then some (.frz ob (.lst (ns.map V.int))) else none) (fun b z => if_pos z) (fun b => ?_) (.inl (.inr ⟨ob, (if_neg naT).trans (if_pos rfl)⟩)) (fun b u z => ?_) (fun b u z nz => ?_)
    · by_cases z : Tb b
      · exact .inr (.inl z)
      · by_cases hb : b = a
        · exact .inr (.inr ⟨_, _, (if_neg z).trans (if_pos hb)⟩)
        · exact .inl ((if_neg z).trans (if_neg hb))
    · by_cases y : Tb b
      · have z := (if_pos y).symm.trans z
        cases z
        exact atT b y
      · have z := (if_neg y).symm.trans z
        by_cases hb : b = a
        · have z := (if_pos hb).symm.trans z
          cases z
          subst hb
          exact ⟨ha, by rw [List.length_map]; exact hsz, vs, _, rv, ha⟩
        · have z := (if_neg hb).symm.trans z
          cases z
    · have z := (if_neg nz).symm.trans z
      by_cases hb : b = a
      · exact ⟨hb, hk⟩
      · have z := (if_neg hb).symm.trans z
        cases z
def TabsAt (K : PySem.W.Frag) (mg : Str → Option Value) (names : List Str) (h : Heap) : Prop := ∀ n ∈ names, ∀ (a c P : Addr) (o : Obj) (fd : FuncData) (e : Value) (dd : Option Addr) (fl : Array Value) (sl : Array (Option Value)),
  mg n = some (.ref a) → K.lookup a = some o → o.data = .func fd → fd.code = .ref c → K.lookup c = some ⟨e, dd, .fields fl, sl⟩ → fl[11]? = some (.ref P) → h.get? P = some { cls := .none, data := .fields #[] } ∧ PySem.W.CodeHd h c P
theorem walk_gT {l : PySem.W.OpenLaw} {k : Nat} {q : Program} {loose : List Str} {XP : (Str → Option Value) → Heap → Prop} {YP : World → Heap → Prop} {d : DefRec} {K : Params → PySem.W.Frag} {x : Str} {names : List Str}
    (hn : l.most = some 63) (hdf : d.params.defaults = []) (hr : Room k callerA) (hrec : (names.all fun n => (recsOf q).any fun e => e.name == n) = true) (hY : ∀ (w : World) (h : Heap), YP w h → (K w.params).In h)
    (F : ∀ (w : World) (mg : Str → Option Value) (fa : Addr) (h : Heap), (K w.params).In h → h.Ns mainGlobals mg → mg d.name = some (.ref fa) → TabsAt (K w.params) mg names h →
      ∃ (fd : FuncData) (cs : List (Addr × Addr × Str)), (∀ c ∈ cs, h.get? c.2.1 = some { cls := .none, data := .fields #[] } ∧ PySem.W.CodeHd h c.1 c.2.1) ∧ (∀ c ∈ cs, (K w.params).lookup c.2.1 = none) ∧ (∀ (s : Shared) (u : Value), BindsTo s fd ⟨[u], []⟩ [(x, u)]) ∧
        ∀ base : Heap, (K w.params).In base → base.Ns mainGlobals mg → (∀ c ∈ cs, LamX.TabB base mg c.1 c.2.1) → FnG l.prog w (K w.params) mg base k fa fd [x] (@spLaw (tabsOf (K w.params) cs) (K w.params))) :
    PySem.W.WalkO q loose XP YP l.row.toRowW d [] (fun f vs => PySem.call f vs) := by
  refine Att.attach_call hn hdf fun w s0 s1 mg mb fa o pm cd doc a vs ns G Y ho hd hcd hmg hobj hints hlen hg => ?_
  have KX := hY w _ Y
  have tabs : TabsAt (K w.params) mg names s1.heap := fun n hn a1 c P o1 fd1 e dd fl sl k0 k1 k2 k3 k4 k5 => by
    have h0 := List.all_eq_true.mp hrec n hn
    obtain ⟨dn, hm, he⟩ := List.any_eq_true.mp h0
    obtain ⟨a2, o2, fd2, c2, P2, h1, h2, h3, h4, h5, h6⟩ := G.T.tab dn hm
    rw [beq_iff_eq.mp he, k0] at h1
    cases h1
    rw [KX _ _ k1] at h2
    cases h2
    rw [k2] at h3
    cases h3
    rw [k3] at h4
    cases h4
    have hd2 := PySem.W.CodeHd.of h5 h6
    obtain ⟨⟨oc, vc, e1, _, e3, e4⟩, hP⟩ := h6
    rw [KX _ _ k4] at e1
    cases e1
    cases e3
    rw [k5] at e4
    cases e4
    exact ⟨hP, hd2⟩
  obtain ⟨fd, cs, h1, h2, hb, hF⟩ := F w mg fa _ KX G.T.g hmg tabs
  exact law_callT KX G.T.g G.T.b G.T.builtins G.T.nolimit hg (fun c hc => (h1 c hc).1) h2 (fun c hc => (h1 c hc).2) G.T.bmain hobj hints hlen hr hF hb
end DL
set_option Elab.async false
set_option maxRecDepth 100000
set_option autoImplicit false
set_option linter.unusedVariables false
set_option maxHeartbeats 4000000
namespace DL
open PySem L2 PySem.Spec PyProof.Rows
variable [TAB : TabList]
variable [EFF : Eff]
set_option linter.unusedSectionVars false
section
variable {X : Cx} {k : Nat} {f : Addr} {fd : FuncData} {ps : List Str} {x : Str} {p pos : Pos} {e : Expr} {es : List Expr} {n : Nat} {Fn : List D → M (List D)} {fa : Env → M (List D)}
end
section
variable {X : Cx} {pos : Pos}
end
end DL
set_option Elab.async false
set_option maxRecDepth 100000
set_option autoImplicit false
set_option linter.unusedVariables false
set_option maxHeartbeats 4000000
namespace DL
open PySem L2 PySem.Spec PyProof.Rows
variable [TAB : TabList]
variable [EFF : Eff]
set_option linter.unusedSectionVars false
end DL
set_option Elab.async false
set_option maxRecDepth 100000
set_option autoImplicit false
set_option linter.unusedVariables false
set_option maxHeartbeats 4000000
namespace DL
section
open PySem PySem.Calls PyProof.Rows PySem.W
variable {prog : Program} {w : World} {A : Around} {E : Value → Shared → Prop} {s : Shared} {a kS : Addr} {b : Bool} {vs : List Value} {keys : Array Value} {e e1 : Nat} {P : PySem.Fin → Shared → Prop} {kz : List PyData}
def KB (a c : Addr) (h h' : Heap) : Prop := ∀ b o, b ≠ a → b ≠ c → h.get? b = some o → h'.get? b = some o
theorem KB.same {a c d : Addr} {h h' h'' : Heap} (k : KB a c h h') (hs : Heap.SameBut d h' h'') (hd : d = a ∨ d = c) : KB a c h h'' := fun b o hb hc e => by
  have hbd : b ≠ d := by
    rintro rfl
    rcases hd with rfl | rfl
    · exact hb rfl
    · exact hc rfl
  exact (hs.2 b hbd).trans (k b o hb hc e)
end
section
open PySem L2 PySem.Spec PyProof.Rows PySem.W
variable [TAB : TabList]
variable [EFF : Eff]
set_option linter.unusedSectionVars false
section
variable {X : Cx} {pins : List (Addr × Obj)} {σ : L2.St} {H : Hp} {s : Shared}
def Lam0 (H : Hp) (l : LamI) (f c : Addr) : Prop := H f = some (FunX f l [] c) ∧ H c = some (LamX.CodeO c l.qual) ∧ l.frees = []
theorem Lam0.next {G G' H' : Hp} {b b' : Bs} {l : LamI} {f c : Addr} (h : Lam0 H l f c) (ob : BagOk G H b) (n : Nxt G H b G' H' b') : Lam0 H' l f c := by
  obtain ⟨h1, h2, h3⟩ := h
  have h1' : H f = some (.ext _) := h1
  have h2' : H c = some (.ext _) := h2
  exact ⟨n.keep _ _ h1 (ob.hitX h1'), n.keep _ _ h2 (ob.hitX h2'), h3⟩
end
section
variable {X : Cx}
end
end
end DL
set_option Elab.async false
set_option maxRecDepth 100000
set_option autoImplicit false
set_option linter.unusedVariables false
set_option maxHeartbeats 4000000
namespace DL
open PySem L2 PySem.Spec PyProof.Rows PySem.W
variable [TAB : TabList]
variable [EFF : Eff]
set_option linter.unusedSectionVars false
section
variable {X : Cx} {a b : Expr} {f g : DL.Env → M D} {pos : Pos}
end
end DL
set_option Elab.async false
set_option maxRecDepth 100000
set_option autoImplicit false
set_option linter.unusedVariables false
set_option maxHeartbeats 4000000
namespace DL
open PySem L2 PySem.Spec PyProof.Rows
variable [TAB : TabList]
variable [EFF : Eff]
set_option linter.unusedSectionVars false
section
variable {X : Cx} {pins : List (Addr × Obj)} {σ : L2.St} {H : Hp} {s : Shared}
end
section
variable {X : Cx} {a b : Expr} {f g : DL.Env → M D} {pos : Pos}
end
section
variable {X : Cx} {pins : List (Addr × Obj)} {σ : L2.St} {H G : Hp} {s : Shared}
end
section
variable {X : Cx} {pos : Pos}
end
end DL
set_option Elab.async false
set_option maxRecDepth 100000
set_option autoImplicit false
set_option linter.unusedVariables false
set_option maxHeartbeats 4000000
namespace DL
open PySem L2 PySem.Spec PyProof.Rows
variable [TAB : TabList]
variable [EFF : Eff]
set_option linter.unusedSectionVars false
section
variable {X : Cx} {pos : Pos}
end
end DL
set_option Elab.async false
set_option maxRecDepth 100000
set_option autoImplicit false
set_option linter.unusedVariables false
set_option maxHeartbeats 4000000
namespace DL
open PySem L2 PySem.Spec PyProof.Rows
variable [TAB : TabList]
variable [EFF : Eff]
set_option linter.unusedSectionVars false
abbrev KVs := List (L2.Key × V)
structure LD (d : Addr) (kvs : KVs) (G G' : Hp) : Prop where
  ne : ∀ a o, a ≠ d → G a = some o → G' a = some o
  g : Rd G d (.dK kvs)
  g' : Rd G' d (.dK kvs)
def Lkd (o : HO) : Prop := (∃ k, o = .dK k) ∨ ∃ od k, o = .frz od (.dK k)
theorem LD.at_ {d : Addr} {kvs : KVs} {G G' : Hp} (l : LD d kvs G G') {a : Addr} {o : HO} (h : G a = some o) (n : ¬ Lkd o) : G' a = some o := by
  by_cases e : a = d
  · subst e
    rcases l.g with z | ⟨od, z⟩
    · rw [h] at z; cases z; exact absurd (.inl ⟨_, rfl⟩) n
    · rw [h] at z; cases z; exact absurd (.inr ⟨_, _, rfl⟩) n
  · exact l.ne a o e h
theorem rd_inj {G : Hp} {a : Addr} {k k' : KVs} (h : Rd G a (.dK k)) (h' : Rd G a (.dK k')) : k = k' := by
  rcases h with h | ⟨o, h⟩ <;> rcases h' with h' | ⟨o', h'⟩ <;> (rw [h] at h'; cases h') <;> rfl
theorem LD.rd {d : Addr} {kvs : KVs} {G G' : Hp} (l : LD d kvs G G') {a : Addr} {k : KVs} (h : Rd G a (.dK k)) : Rd G' a (.dK k) := by
  by_cases e : a = d
  · subst e
    rw [rd_inj h l.g]
    exact l.g'
  · rcases h with h | ⟨o, h⟩
    · exact .inl (l.ne _ _ e h)
    · exact .inr ⟨o, l.ne _ _ e h⟩
theorem nl_ext {φ : Heap → Prop} : ¬ Lkd (.ext φ) := by
  rintro (⟨k, z⟩ | ⟨od, k, z⟩) <;> cases z
theorem LD.sqt {K : PySem.W.Frag} {d : Addr} {kvs : KVs} {G G' : Hp} (l : LD d kvs G G') {a : Addr} {xs : List V} (h : SqT K G a xs) : SqT K G' a xs := by
  rcases h with (h | ⟨o, h⟩) | h
  · exact .inl (.inl (l.at_ h (by rintro (⟨k, z⟩ | ⟨od, k, z⟩) <;> cases z)))
  · exact .inl (.inr ⟨o, l.at_ h (by rintro (⟨k, z⟩ | ⟨od, k, z⟩) <;> cases z)⟩)
  · exact .inr h
theorem LD.sql {K : PySem.W.Frag} {d : Addr} {kvs : KVs} {G G' : Hp} (l : LD d kvs G G') {a : Addr} {xs : List V} (h : SqL K G a xs) : SqL K G' a xs := by
  rcases h with (h | ⟨o, h⟩) | h
  · exact .inl (.inl (l.at_ h (by rintro (⟨k, z⟩ | ⟨od, k, z⟩) <;> cases z)))
  · exact .inl (.inr ⟨o, l.at_ h (by rintro (⟨k, z⟩ | ⟨od, k, z⟩) <;> cases z)⟩)
  · exact .inr h
theorem LD.dT {d : Addr} {kvs : KVs} {G G' : Hp} (l : LD d kvs G G') {a : Addr} {k : List (List L2.Key × V)} (h : Rd G a (.dT k)) : Rd G' a (.dT k) := by
  rcases h with h | ⟨o, h⟩
  · exact .inl (l.at_ h (by rintro (⟨k, z⟩ | ⟨od, k, z⟩) <;> cases z))
  · exact .inr ⟨o, l.at_ h (by rintro (⟨k, z⟩ | ⟨od, k, z⟩) <;> cases z)⟩
theorem LD.cells {d : Addr} {kvs : KVs} {G G' : Hp} (l : LD d kvs G G') {cl : List (Str × Addr)} : ∀ {ys : List Str} {vs : List V}, CellsAt G cl ys vs → CellsAt G' cl ys vs
  | [], [], _ => trivial
  | _ :: _, _ :: _, ⟨⟨c, o, u, h1, h2, h3⟩, r⟩ => ⟨⟨c, o, u, h1, l.at_ h2 nl_ext, h3⟩, LD.cells l r⟩
  | [], _ :: _, h => h.elim
  | _ :: _, [], h => h.elim
theorem LD.exd {dd : Addr} {kvs : KVs} {G G' : Hp} (l : LD dd kvs G G') : ∀ {dx : Option Addr} {c : Nat} {vs : List V}, ExD G dx c vs → ExD G' dx c vs
  | some _, _, [_], h => l.at_ h (by rintro (⟨k, z⟩ | ⟨od, k, z⟩) <;> cases z)
  | none, _, [], _ => trivial
  | some _, _, [], h => h.elim
  | some _, _, _ :: _ :: _, h => h.elim
  | none, _, _ :: _, h => h.elim
theorem nl_slo {a C dx : Addr} {vs : List (Option V)} : ¬ Lkd (SlX.SlO a C dx vs) := by
  unfold SlX.SlO
  exact nl_ext
mutual
theorem Rp.ld {K : PySem.W.Frag} {dd : Addr} {kvs : KVs} {G G' : Hp} (e : LD dd kvs G G') : ∀ {v : V} {d : D}, Rp K G v d → Rp K G' v d
  | _, _, .non => .non
  | _, _, .bl b => .bl b
  | _, _, .int i => .int i
  | _, _, .str x => .str x
  | _, _, .lst h r => .lst (e.at_ h (by rintro (⟨k, z⟩ | ⟨od, k, z⟩) <;> cases z)) (RpL.ld e r)
  | _, _, .tup h r => .tup (e.sqt h) (RpL.ld e r)
  | _, _, .dct h l r => .dct (e.rd h) l (RpL.ld e r)
  | _, _, .dcT h l r => .dcT (e.dT h) l (RpL.ld e r)
  | _, _, .obj h0 h h2 r => .obj h0 (e.at_ h nl_slo) (e.at_ h2 (by rintro (⟨k, z⟩ | ⟨od, k, z⟩) <;> cases z)) (RpL.ld e r)
  | _, _, .bag p => .bag p
  | _, _, .scr h => .scr (e.sql h)
  | _, _, .exc h r => .exc (e.exd h) (RpL.ld e r)
  | _, _, .clo h h2 h3 r => .clo (e.at_ h nl_ext) (e.at_ h2 nl_ext) ⟨h3.1, e.cells h3.2⟩ (RpL.ld e r)
  | _, _, .cel h => .cel (e.at_ h (by rintro (⟨k, z⟩ | ⟨od, k, z⟩) <;> cases z))
theorem RpL.ld {K : PySem.W.Frag} {dd : Addr} {kvs : KVs} {G G' : Hp} (e : LD dd kvs G G') : ∀ {vs : List V} {ds : List D}, RpL K G vs ds → RpL K G' vs ds
  | _, _, .nil => .nil
  | _, _, .cons a b => .cons (Rp.ld e a) (RpL.ld e b)
end
theorem RpO.ld {K : PySem.W.Frag} {dd : Addr} {kvs : KVs} {G G' : Hp} (e : LD dd kvs G G') : ∀ {vs : List (Option V)} {ds : List (Option D)}, RpO K G vs ds → RpO K G' vs ds
  | _, _, .nil => .nil
  | _, _, .no r => .no (RpO.ld e r)
  | _, _, .yes a r => .yes (a.ld e) (RpO.ld e r)
theorem LD.gi {dd : Addr} {kvs : KVs} {G G' : Hp} (e : LD dd kvs G G') (back : ∀ a o, a ≠ dd → G' a = some o → G a = some o) (a : Addr) (k : Nat) (h : G' a = some (ghost k)) : G a = some (ghost k) := by
  by_cases z : a = dd
  · subst z
    rcases e.g' with y | ⟨od, y⟩ <;> rw [y] at h <;> cases h
  · exact back a _ z h
theorem CelOk.ld {dd : Addr} {kvs : KVs} {G G' H H' : Hp} {st : List Cell} (e : LD dd kvs G G') (x : CelOk G H st) (back : ∀ a o, a ≠ dd → G' a = some o → G a = some o) (ec : ∀ a, a ≠ dd → H' a = H a) : CelOk G' H' st := by
  have gi := e.gi back
  refine ⟨fun k c i => ?_, fun a b k p q => x.one a b k (gi _ _ p) (gi _ _ q), fun a k p => x.lt a k (gi _ _ p)⟩
  obtain ⟨a, g, y⟩ := x.at_ k c i
  have gn : ∀ {k : Nat}, ¬ Lkd (ghost k) := by rintro k (⟨k, z⟩ | ⟨od, k, z⟩) <;> cases z
  refine ⟨a, e.at_ g gn, ?_⟩
  have hh : H' a = H a := ec a fun z => by
    subst z
    rcases e.g with y | ⟨od, y⟩ <;> rw [y] at g <;> cases g
  cases c with
  | lst xs => obtain ⟨K, vs, k1, nc, p, r⟩ := y; exact ⟨K, vs, k1, nc, by rw [hh]; exact p, r.ld e⟩
  | dK ks xs => obtain ⟨K, vs, k1, nc, p, l, r⟩ := y; exact ⟨K, vs, k1, nc, by rw [hh]; exact p, l, r.ld e⟩
  | dT ks xs => obtain ⟨K, vs, k1, nc, p, l, r⟩ := y; exact ⟨K, vs, k1, nc, by rw [hh]; exact p, l, r.ld e⟩
  | obj c xs => obtain ⟨K, C, dx, vs, k1, nc, n, p, d, r⟩ := y; exact ⟨K, C, dx, vs, k1, nc, n, by rw [hh]; exact p, e.at_ d (by rintro (⟨k, z⟩ | ⟨od, k, z⟩) <;> cases z), r.ld e⟩
theorem RS.ld {K : PySem.W.Frag} {dd : Addr} {kvs : KVs} {G G' : Hp} {σ : L2.St} {ρ : DL.Env} (e : LD dd kvs G G') (h : RS K G σ ρ) : RS K G' σ ρ := ⟨h.len, fun i d q => by
  obtain ⟨v, h1, h2⟩ := h.get i d q
  exact ⟨v, h1, h2.ld e⟩⟩
mutual
theorem Ow.ld {K : PySem.W.Frag} {dd : Addr} {kvs : KVs} {G G' H H' : Hp} (e : LD dd kvs G G') : ∀ {v : V} {o : O} {fp : List Addr}, (∀ a ∈ fp, H' a = H a) → Ow K G H v o fp → Ow K G' H' v o fp
  | _, _, _, _, .v r => .v (r.ld e)
  | _, _, _, h, .l hp r => .l (by rw [h _ List.mem_cons_self]; exact hp) (OwL.ld e (fun a ha => h a (List.mem_cons_of_mem _ ha)) r)
  | _, _, _, h, .k hp hl r => .k (by rw [h _ List.mem_cons_self]; exact hp) hl (OwL.ld e (fun a ha => h a (List.mem_cons_of_mem _ ha)) r)
  | _, _, _, h, .t hp hl r => .t (by rw [h _ List.mem_cons_self]; exact hp) hl (OwL.ld e (fun a ha => h a (List.mem_cons_of_mem _ ha)) r)
  | _, _, _, h, .u hp r => .u (e.sqt hp) (OwL.ld e h r)
theorem OwL.ld {K : PySem.W.Frag} {dd : Addr} {kvs : KVs} {G G' H H' : Hp} (e : LD dd kvs G G') : ∀ {vs : List V} {os : List O} {fp : List Addr}, (∀ a ∈ fp, H' a = H a) → OwL K G H vs os fp → OwL K G' H' vs os fp
  | _, _, _, _, .nil => .nil
  | _, _, _, h, .cons a b => .cons (Ow.ld e (fun z hz => h z (List.mem_append_left _ hz)) a) (OwL.ld e (fun z hz => h z (List.mem_append_right _ hz)) b)
end
theorem ld_lock {G : Hp} {d : Addr} {kvs : KVs} {od : Obj} (h : G d = some (.dK kvs)) : LD d kvs G (upd G d (.frz od (.dK kvs))) := ⟨fun a o n e => by rw [upd_ne n]; exact e, .inl h, .inr ⟨od, upd_same⟩⟩
theorem ld_unl {G : Hp} {d : Addr} {kvs : KVs} {od : Obj} (h : G d = some (.frz od (.dK kvs))) : LD d kvs G (upd G d (.dK kvs)) := ⟨fun a o n e => by rw [upd_ne n]; exact e, .inr ⟨od, h⟩, .inl upd_same⟩
theorem same_upd {G H : Hp} {d : Addr} {o : HO} (f : SameF G H) : SameF (upd G d o) (upd H d o) := f.newF
theorem bag_upd {G H : Hp} {b : Bs} {d : Addr} {o u : HO} (ob : BagOk G H b) (h : G d = some u) (hu : ∀ xs, u ≠ .lst xs) (nc : ∀ c q, H d ≠ some (LamX.CodeO c q)) {kvs : KVs} (ld : LD d kvs G (upd G d o)) : BagOk (upd G d o) (upd H d o) b := by
  have nh := bag_not ob h
  have back : ∀ a w, a ≠ d → upd G d o a = some w → G a = some w := fun a w n z => by rwa [upd_ne n] at z
  refine ⟨?_, fun p hp => ?_⟩
  · have o1 := ob.1
    cases b with
    | none => exact fun a k z => o1 a k (ld.gi back a k z)
    | some g =>
      obtain ⟨b1, b2, b3, b4⟩ := o1
      have n1 : g.p ≠ d := fun z => nh (.inl (by rw [← z]; rfl))
      by_cases n2 : g.q = d
      · rw [n2, h] at b3
        exact absurd (Option.some.inj b3) (hu _)
      · exact ⟨by rw [upd_ne n1]; exact b1, by rw [upd_ne n1]; exact b2, by rw [upd_ne n2]; exact b3, CelOk.ld ld b4 back fun a n => upd_ne n⟩
  · obtain ⟨k1, k2⟩ := ob.2 p hp
    have n1 : p.1 ≠ d := fun z => by rw [z, h] at k1; cases k1
    exact ⟨by rw [upd_ne n1]; exact k1, TabS.mut k2 n1 nc⟩
def lkE (d : Addr) (o : HO) (H : Hp) : Hp := fun a => if a = d ∧ H d ≠ none then some o else H a
theorem lkE_ne {d a : Addr} {o : HO} {H : Hp} (h : a ≠ d) : lkE d o H a = H a := if_neg fun z => h z.1
theorem lkE_none {d a : Addr} {o : HO} {H : Hp} (h : lkE d o H a = none) : H a = none := by
  unfold lkE at h
  split at h
  · cases h
  · exact h
theorem lkE_some {d a : Addr} {o u : HO} {H : Hp} (h : lkE d o H a = some u) (e : a = d) : u = o := by
  unfold lkE at h
  split at h
  · exact (Option.some.inj h).symm
  · rename_i z
    subst e
    exact absurd ⟨rfl, by rw [h]; exact fun z => nomatch z⟩ z
theorem lkE_of {d a : Addr} {o : HO} {H : Hp} (h : H a = none) : lkE d o H a = none := by
  unfold lkE
  split
  · rename_i z
    obtain ⟨rfl, z⟩ := z
    exact absurd h z
  · exact h
section
variable {K : PySem.W.Frag} {E : En} {σ σ' : L2.St} {ρ ρ' : Env2} {G H G' H' : Hp} {b b' : Bs} {d : Addr} {kvs : KVs} {od : Obj}
theorem SI.lock (I : SI K E σ ρ G H b) (hd : G d = some (.dK kvs)) : SI K ⟨upd G d (.frz od (.dK kvs)), lkE d (.frz od (.dK kvs)) E.H, E.b⟩ σ ρ (upd G d (.frz od (.dK kvs))) (upd H d (.frz od (.dK kvs))) b := by
  obtain ⟨fp, w⟩ := I.own
  have dfp : ∀ i, d ∉ fp i := fun i h => by
    rw [(w.ok i d h).2.1] at hd
    cases hd
  refine ⟨same_upd I.fz, fun _ _ h => h, fun a o h1 h2 => h2, fun a o h nb hg => ?_, bag_upd I.bag hd (fun _ z => nomatch z) (nc_of (I.fz _ _ hd)) (ld_lock hd), I.like, I.len, fun i x h => ?_, fp, fun i s o h1 h2 => ?_, fun i a ha => ?_, w.nd, w.dj⟩
  · by_cases e : a = d
    · rw [lkE_some h e, e, upd_same]
    · rw [upd_ne e]
      have h : lkE d _ E.H a = some o := h
      rw [lkE_ne e] at h
      exact I.keep a o h nb fun z k y => hg z k (by show upd G d _ a = _; rw [upd_ne e]; exact I.g0 _ _ y)
  · obtain ⟨v, h1, h2⟩ := I.val i x h
    exact ⟨v, h1, h2.ld (ld_lock hd)⟩
  · obtain ⟨v, h3, h4⟩ := w.at_ i s o h1 h2
    exact ⟨v, h3, h4.ld (ld_lock hd) fun a ha => upd_ne fun z => dfp i (by rw [← z]; exact ha)⟩
  · obtain ⟨k1, k2, k3, k4⟩ := w.ok i a ha
    have ad : a ≠ d := fun z => dfp i (by rw [← z]; exact ha)
    exact ⟨lkE_of k1, by rw [upd_ne ad]; exact k2, k3, by rw [upd_ne ad]; exact k4⟩
theorem SI.unlock (I : SI K E σ ρ G H b) (hd : G d = some (.dK kvs)) (J : SI K ⟨upd G d (.frz od (.dK kvs)), lkE d (.frz od (.dK kvs)) E.H, E.b⟩ σ' ρ' G' H' b') : SI K E σ' ρ' (upd G' d (.dK kvs)) (upd H' d (.dK kvs)) b' := by
  obtain ⟨fp, w⟩ := J.own
  have gd : G' d = some (.frz od (.dK kvs)) := J.g0 d _ upd_same
  have hd' : H' d = some (.frz od (.dK kvs)) := J.fz _ _ gd
  have dfp : ∀ i, d ∉ fp i := fun i h => by
    rw [(w.ok i d h).2.1] at gd
    cases gd
  refine ⟨same_upd J.fz, fun a o h => ?_, fun a o h1 h2 => ?_, fun a o h nb hg => ?_, bag_upd J.bag gd (fun _ z => nomatch z) (nc_of hd') (ld_unl gd), J.like, J.len, fun i x h => ?_, fp, fun i s o h1 h2 => ?_, fun i a ha => ?_, w.nd, w.dj⟩
  · have hg := I.g0 a o h
    by_cases e : a = d
    · subst e
      rw [hd] at hg
      cases hg
      exact upd_same
    · rw [upd_ne e]
      exact J.g0 a o (by show upd G d _ a = _; rw [upd_ne e]; exact hg)
  · have e : a ≠ d := fun z => by
      have := I.new a o h1 h2
      rw [z, hd] at this
      cases this
    rw [upd_ne e]
    exact J.new a o (by show lkE d _ E.H a = _; rw [lkE_ne e]; exact h1) (by show upd G d _ a = _; rw [upd_ne e]; exact I.new a o h1 h2)
  · by_cases e : a = d
    · have h1 := I.keep a o h nb hg
      have hh : H d = some (.dK kvs) := I.fz _ _ hd
      rw [e, hh] at h1
      cases h1
      rw [e]
      exact upd_same
    · rw [upd_ne e]
      exact J.keep a o (by show lkE d _ E.H a = _; rw [lkE_ne e]; exact h) nb fun z k y => no_ghost I.g0 I.new h (hg z) k (by have y : upd G d _ a = _ := y; rwa [upd_ne e] at y)
  · obtain ⟨v, h1, h2⟩ := J.val i x h
    exact ⟨v, h1, h2.ld (ld_unl gd)⟩
  · obtain ⟨v, h3, h4⟩ := w.at_ i s o h1 h2
    exact ⟨v, h3, h4.ld (ld_unl gd) fun a ha => upd_ne fun z => dfp i (by rw [← z]; exact ha)⟩
  · obtain ⟨k1, k2, k3, k4⟩ := w.ok i a ha
    have ad : a ≠ d := fun z => dfp i (by rw [← z]; exact ha)
    exact ⟨lkE_none k1, by rw [upd_ne ad]; exact k2, k3, by rw [upd_ne ad]; exact k4⟩
theorem Nxt.unlE (I : SI K E σ ρ G H b) (hd : G d = some (.dK kvs)) (J : NxtB EFF.x (upd G d (.frz od (.dK kvs))) (lkE d (.frz od (.dK kvs)) E.H) E.b G' H' b') : NxtB EFF.x E.G E.H E.b (upd G' d (.dK kvs)) (upd H' d (.dK kvs)) b' := by
  have gd : G' d = some (.frz od (.dK kvs)) := J.gg d _ upd_same
  have hd' : H' d = some (.frz od (.dK kvs)) := J.fz _ _ gd
  refine ⟨fun a o h => ?_, same_upd J.fz, fun a o h nb hg => ?_, fun a o h1 h2 => ?_, bag_upd J.bag gd (fun _ z => nomatch z) (nc_of hd') (ld_unl gd), J.like⟩
  · have hg := I.g0 a o h
    by_cases e : a = d
    · subst e
      rw [hd] at hg
      cases hg
      exact upd_same
    · rw [upd_ne e]
      exact J.gg a o (by rw [upd_ne e]; exact hg)
  · by_cases e : a = d
    · have h1 := I.keep a o h nb hg
      have hh : H d = some (.dK kvs) := I.fz _ _ hd
      rw [e, hh] at h1
      cases h1
      rw [e]
      exact upd_same
    · rw [upd_ne e]
      exact J.keepB a o (by rw [lkE_ne e]; exact h) nb fun z k y => no_ghost I.g0 I.new h (hg z) k (by rwa [upd_ne e] at y)
  · have e : a ≠ d := fun z => by
      have := I.new a o h1 h2
      rw [z, hd] at this
      cases this
    rw [upd_ne e]
    exact J.new a o (by rw [lkE_ne e]; exact h1) (by rw [upd_ne e]; exact I.new a o h1 h2)
theorem Nxt.unl (f : SameF G H) (hd : G d = some (.dK kvs)) (J : Nxt (upd G d (.frz od (.dK kvs))) (upd H d (.frz od (.dK kvs))) b G' H' b') : Nxt G H b (upd G' d (.dK kvs)) (upd H' d (.dK kvs)) b' := by
  have gd : G' d = some (.frz od (.dK kvs)) := J.gg d _ upd_same
  have hd' : H' d = some (.frz od (.dK kvs)) := J.fz _ _ gd
  refine .mk' (fun a o hg => ?_) (same_upd J.fz) (fun a o h nb => ?_) (fun a o h1 h2 => ?_) (bag_upd J.bag gd (fun _ z => nomatch z) (nc_of hd') (ld_unl gd)) J.like
  · by_cases e : a = d
    · subst e
      rw [hd] at hg
      cases hg
      exact upd_same
    · rw [upd_ne e]
      exact J.gg a o (by rw [upd_ne e]; exact hg)
  · by_cases e : a = d
    · have hh : H d = some (.dK kvs) := f _ _ hd
      rw [e, hh] at h
      cases h
      rw [e]
      exact upd_same
    · rw [upd_ne e]
      exact J.keep a o (by rw [upd_ne e]; exact h) nb
  · have e : a ≠ d := fun z => by
      rw [z, hd] at h2
      cases h2
    rw [upd_ne e]
    exact J.new a o (by rw [upd_ne e]; exact h1) (by rw [upd_ne e]; exact h2)
end
def NF (X : Cx) (d : Addr) : Prop := ∀ o' u', X.H_0 d ≠ some (.frz o' u')
def UnlTo (X : Cx) (H : Hp) (P : Hp → Prop) : Prop := P H ∨ ∃ d od u, H d = some (.frz od u) ∧ NF X d ∧ P (upd H d u)
def tUnl (X : Cx) (t : TS) : TS := fun D σ H => t ⟨fun σ' H' => UnlTo X H' (D.nx σ'), fun v H' => UnlTo X H' (D.rt v), fun σ' H' => UnlTo X H' (D.bk σ'), fun σ' H' => UnlTo X H' (D.ct σ')⟩ σ H
def tLkR (X : Cx) (t : TE) : TE := fun σ H Q => t σ H fun v H' => ∃ d kvs, v = .ref d ∧ ((H' d = some (.dK kvs) ∧ (NF X d → ∀ od, Q v (upd H' d (.frz od (.dK kvs))))) ∨ ∃ od, H' d = some (.frz od (.dK kvs)) ∧ Q v H')
section
variable {X : Cx}
theorem unl_inv {pins : List (Addr × Obj)} {σ : L2.St} {H : Hp} {s : Shared} {P : Hp → Prop} (I : Inv X pins σ H s) (h : UnlTo X H P) : ∃ H', Inv X pins σ H' s ∧ P H' := by
  rcases h with h | ⟨d, od, u, h1, h2, h3⟩
  · exact ⟨H, I, h⟩
  · exact ⟨_, I.unlock h1 h2, h3⟩
theorem ps_unl {st : Stmt} {t : TS} (h : PS X st t) : PS X st (tUnl X t) := by
  refine ⟨fun pins s σ H D I hw => ?_⟩
  refine thn (h.run pins s σ _ _ I hw) fun f s1 q => ?_
  cases f with
  | next => obtain ⟨σ', H', I2, q⟩ := q; obtain ⟨H2, I3, q2⟩ := unl_inv I2 q; exact ⟨σ', H2, I3, q2⟩
  | brk => obtain ⟨σ', H', I2, q⟩ := q; obtain ⟨H2, I3, q2⟩ := unl_inv I2 q; exact ⟨σ', H2, I3, q2⟩
  | cont => obtain ⟨σ', H', I2, q⟩ := q; obtain ⟨H2, I3, q2⟩ := unl_inv I2 q; exact ⟨σ', H2, I3, q2⟩
  | ret v => obtain ⟨x, σ', H', I2, r, q⟩ := q; obtain ⟨H2, I3, q2⟩ := unl_inv I2 q; exact ⟨x, σ', H2, I3, r, q2⟩
theorem pe_lkR {e : Expr} {t : TE} (h : PE X e t) : PE X e (tLkR X t) := by
  refine ⟨fun pins s σ H Q I hw => ?_⟩
  refine thn (h.run pins s σ _ _ I hw) fun v s1 ⟨x, H1, I2, r, d, kvs, ex, q⟩ => ?_
  rcases q with ⟨hd, q⟩ | ⟨od, hd, q⟩
  · obtain ⟨od, I3⟩ := I2.lock hd trivial
    exact ⟨x, _, I3, r, q (I2.nofrz hd trivial) od⟩
  · exact ⟨x, H1, I2, r, q⟩
end
def LkOk (X : Cx) (G H GL HL : Hp) : Prop := (GL = G ∧ HL = H) ∨ ∃ d kvs od, G d = some (.dK kvs) ∧ NF X d ∧ GL = upd G d (.frz od (.dK kvs)) ∧ HL = upd H d (.frz od (.dK kvs))
def iL (X : Cx) (g : DL.Env → M (List D)) : TI := fun σ H R => ∃ ρ G b ds b', RS X.K G σ ρ ∧ SameF G H ∧ BagOk G H b ∧ g ρ b = some (ds, b') ∧
  ∀ J G' H' GL HL, Nxt G H b G' H' b' → LkOk X G' H' GL HL → Yl X.K GL J ds → R J HL
abbrev DIL (X : Cx) (tg e : Expr) (g : DL.Env → M (List D)) : Prop := PI X tg e (iL X g)
def keysD0 : D → M (List D)
  | .dct ks _ => M.ret (ks.map kD)
  | x => itemsD x
def pairsD0 : D → M (List D)
  | .dct ks ds => M.ret (itemL ks ds)
  | _ => M.fail
def iKeysD (f : DL.Env → M D) : DL.Env → M (List D) := fun ρ => M.bind (f ρ) keysD0
theorem q_iKeysD (f : DL.Env → M D) (ρ : DL.Env) : iKeysD f ρ = bnd (f ρ) keysD0 := rfl
theorem q_keysD0 (ks : List L2.Key) (ds : List D) : keysD0 (.dct ks ds) = M.ret (ks.map kD) := rfl
theorem q_keysD0l (ds : List D) : keysD0 (.lst ds) = M.ret ds := rfl
theorem q_keysD0s (x : List Nat) : keysD0 (.str x) = M.ret (x.map fun c => .str [c]) := rfl
theorem q_pairsD0 (ks : List L2.Key) (ds : List D) : pairsD0 (.dct ks ds) = M.ret (itemL ks ds) := rfl
theorem yl_keys {K : PySem.W.Frag} {G : Hp} {d : Addr} {od : Obj} {ks : List L2.Key} {vs : List V} (h : G d = some (.frz od (.dK (ks.zip vs)))) (hl : ks.length = vs.length) : Yl K G (Itk d od (ks.zip vs)) (ks.map kD) := by
  intro i G1 H1 b s1 s2 ob
  have hd1 := s2 _ _ (s1 _ _ h)
  have lz : (ks.zip vs).length = (ks.map kD).length := by
    rw [List.length_map, List.length_zip]
    omega
  refine ⟨fun e he => ?_, fun hl => ⟨hd1, by rw [lz]; exact hl⟩⟩
  have hi : i < (ks.map kD).length := (List.getElem?_eq_some_iff.mp he).1
  refine ⟨⟨hd1, by rw [lz]; exact hi⟩, ?_⟩
  rintro x H' ⟨rfl, k, v, e1, rfl⟩
  refine ⟨_, Nxt.refl s2 ob, ?_⟩
  obtain ⟨e2, e3⟩ := List.getElem?_zip_eq_some.mp e1
  rw [List.getElem?_map, e2] at he
  cases he
  exact kD_rp k
section
variable {X : Cx} {tg : Expr} {p pos : Pos}
theorem di_keys {e : Expr} {f : DL.Env → M D} (h : DE X e f) : DIL X tg e (iKeysD f) := by
  have pk := pi_keys (tg := tg) (pe_lkR h)
  have pa := di_any (tg := tg) h
  refine ⟨fun pins s σ H R I q0 => ?_⟩
  obtain ⟨ρ, G, b, ds, b', rs, fz, ob, e, q⟩ := q0
  obtain ⟨d, b1, e1, e2⟩ := M.bind_some e
  have other : itemsD d b1 = some (ds, b') → wpAny (model X.prog X.w) X.A (eval _ X.env) (fun v s1 => wpAny (model X.prog X.w) X.A (pyIter v) (PIE X pins σ tg R) X.xe s1) X.xe s := fun e2 =>
    pa.run pins s σ H R I ⟨ρ, G, b, ds, b', rs, fz, ob, (M.bind_eq e1).trans e2, fun J G' H' n y => q J G' H' G' H' n (.inl ⟨rfl, rfl⟩) y⟩
  cases d with
  | dct ks xs =>
    cases e2
    refine pk.run pins s σ H R I ⟨ρ, G, b, _, b', rs, fz, ob, e1, fun v G' H' n r => ?_⟩
    cases r with
    | @dct a _ vs _ h1 hl rl =>
      refine ⟨a, ks.zip vs, rfl, ?_⟩
      rcases h1 with h1 | ⟨od, h1⟩
      · refine .inl ⟨n.fz _ _ h1, fun nf od => ⟨a, od, rfl, .inl ⟨_, upd_same, ?_⟩⟩⟩
        exact q _ G' H' _ _ n (.inr ⟨a, _, od, h1, nf, rfl, rfl⟩) (yl_keys upd_same hl)
      · exact .inr ⟨od, n.fz _ _ h1, a, od, rfl, .inl ⟨_, n.fz _ _ h1, q _ G' H' _ _ n (.inl ⟨rfl, rfl⟩) (yl_keys h1 hl)⟩⟩
  | lst xs => exact other e2
  | tup xs => exact other e2
  | str x => exact other e2
  | dcT _ _ => cases e2
  | non => cases e2
  | bl _ => cases e2
  | int _ => cases e2
  | obj _ _ => cases e2
  | bag _ => cases e2
  | scr _ => cases e2
  | exc _ _ _ _ => cases e2
  | clo _ _ => cases e2
  | cel _ => cases e2
end
def Ends.unl (X : Cx) (D : Ends) : Ends := ⟨fun σ' H' => UnlTo X H' (D.nx σ'), fun v H' => UnlTo X H' (D.rt v), fun σ' H' => UnlTo X H' (D.bk σ'), fun σ' H' => UnlTo X H' (D.ct σ')⟩
theorem Fin.unl0 {X : Cx} {K : PySem.W.Frag} {E : En} {D : Ends} {b' : Bs} {o : Out} (q : Fin K E D b' o) : Fin K E (Ends.unl X D) b' o := by
  cases o with
  | nx ρ => exact fun σ' G' H' J => .inl (q σ' G' H' J)
  | bk ρ => exact fun σ' G' H' J => .inl (q σ' G' H' J)
  | ct ρ => exact fun σ' G' H' J => .inl (q σ' G' H' J)
  | rt d => exact fun v G' H' n r => .inl (q v G' H' n r)
  | rn xs => exact fun p vs G' H' n h1 h2 h3 r => .inl (q p vs G' H' n h1 h2 h3 r)
theorem Fin.unl1 {X : Cx} {K : PySem.W.Frag} {E : En} {σ : L2.St} {ρ : Env2} {G H : Hp} {b : Bs} {d : Addr} {kvs : KVs} {od : Obj} (I : SI K E σ ρ G H b) (hd : G d = some (.dK kvs)) (nf : NF X d) {D : Ends} {b' : Bs} {o : Out} (q : Fin K E D b' o) :
    Fin K ⟨upd G d (.frz od (.dK kvs)), lkE d (.frz od (.dK kvs)) E.H, E.b⟩ (Ends.unl X D) b' o := by
  cases o with
  | nx ρ => exact fun σ' G' H' J => .inr ⟨d, od, _, J.fz _ _ (J.g0 d _ upd_same), nf, q _ _ _ (I.unlock hd J)⟩
  | bk ρ => exact fun σ' G' H' J => .inr ⟨d, od, _, J.fz _ _ (J.g0 d _ upd_same), nf, q _ _ _ (I.unlock hd J)⟩
  | ct ρ => exact fun σ' G' H' J => .inr ⟨d, od, _, J.fz _ _ (J.g0 d _ upd_same), nf, q _ _ _ (I.unlock hd J)⟩
  | rt x => exact fun v G' H' n r => .inr ⟨d, od, _, n.fz _ _ (n.gg d _ upd_same), nf, q v _ _ (Nxt.unlE I hd n) (r.ld (ld_unl (n.gg d _ upd_same)))⟩
  | rn xs =>
    refine fun p vs G' H' n h1 h2 h3 r => ?_
    have gd := n.gg d _ upd_same
    have pd : p ≠ d := fun z => by
      rw [z] at h2
      have gd : G' d = _ := gd
      rw [gd] at h2
      cases h2
    refine .inr ⟨d, od, _, n.fz _ _ gd, nf, q p vs _ _ (Nxt.unlE I hd n) (lkE_none h1) ?_ ?_ (r.ld (ld_unl gd))⟩
    · rw [upd_ne pd]; exact h2
    · rw [upd_ne pd]; exact h3
section
variable {X : Cx} {pos : Pos}
theorem s_forL (ms : List Nat) {tg iter : Expr} {body : List Stmt} {gi : DL.Env → M (List D)} {g : TG} {bs : D → Option (List (Nat × D))} {is : List Nat} {Fb : Env2 → M Out} (hp : PassesOwn (model X.prog X.w) X.A X.env X.xe) (hc : X.calm = true) (hi : DIL X tg iter gi) (hg : PG X tg g) (ht : TgOk X.K g bs is) (hb : DSs X body Fb)
    (hs : ∀ x, foldedSetIterable iter X.env x = pure x := by intro _; rfl) : DS X (.For tg iter body [] pos) (forA ms gi bs Fb) := by
  refine PSimp (ps_unl (ps_for hp hc hi hg hb hs)) ?_
  rintro D σ H ⟨E, ρ, G, b, o, b', I, e, q⟩
  obtain ⟨xs, b1, e1, e2⟩ := M.bind_some e
  refine ⟨_, _, b, xs, b1, I.rs ms, I.gp2 ms, I.gpb ms, e1, fun J G1 H1 GL HL n1 lk yl => ?_⟩
  have I1 := I.frz n1
  rcases lk with ⟨rfl, rfl⟩ | ⟨d, kvs, od, hd, nf, rfl, rfl⟩
  · exact loop_f (E := ⟨GL, E.H, E.b⟩) ht (fun _ _ h => h) yl I1.up e2 (q.unl0.up I1)
  · exact loop_f (E := ⟨upd G1 d (.frz od (.dK kvs)), lkE d (.frz od (.dK kvs)) E.H, E.b⟩) ht (fun _ _ h => h) yl (I1.lock hd) e2 (Fin.unl1 I1 hd nf q)
end
end DL
set_option Elab.async false
set_option maxRecDepth 100000
set_option autoImplicit false
set_option linter.unusedVariables false
set_option maxHeartbeats 4000000
namespace DL
open PySem L2 PySem.Spec PyProof.Rows
variable [TAB : TabList]
variable [EFF : Eff]
set_option linter.unusedSectionVars false
def mergeK (ks ls : KVs) : KVs := ls.foldl (fun acc p => putK acc p.1 p.2) ks
def updK {α : Type} : List L2.Key → List α → List L2.Key → List α → List L2.Key × List α
  | ks, xs, k :: ls, y :: ys => updK (setKs ks k) (setVs ks xs k y) ls ys
  | ks, xs, _, _ => (ks, xs)
theorem RpL.updK {K : PySem.W.Frag} {G : Hp} : ∀ {ls : List L2.Key} {ys : List V} {es : List D}, RpL K G ys es → ∀ {ks : List L2.Key} {xs : List V} {ds : List D}, RpL K G xs ds → RpL K G (DL.updK ks xs ls ys).2 (DL.updK ks ds ls es).2
  | k :: ls, _, _, .cons a b, ks, xs, ds, r => RpL.updK b (RpL.setVs a r)
  | [], _, _, _, ks, xs, ds, r => r
  | _ :: _, _, _, .nil, ks, xs, ds, r => r
section
variable {X : Cx} {pos : Pos}
end
def popL (i j : Nat) (ρ : Env2) (xs : List D) : Option D → M Out
  | some d => M.ret (.nx ((ρ.set j (some (.own xs.dropLast))).set i (some (.val d))))
  | none => M.fail
def popK (i j : Nat) (ρ : Env2) : Option (Option Slot) → M Out
  | some (some (.own xs)) => popL i j ρ xs xs[xs.length - 1]?
  | _ => M.fail
def popM (i j : Nat) (ρ : Env2) : M Out := popK i j ρ ρ[j]?
section
variable {X : Cx} {pos : Pos}
theorem RpL.dropLast {K : PySem.W.Frag} {G : Hp} {vs : List V} {ds : List D} (r : RpL K G vs ds) : RpL K G vs.dropLast ds.dropLast := by
  rw [List.dropLast_eq_take, List.dropLast_eq_take, r.length]
  exact r.take _
theorem q_popM (i j : Nat) (ρ : Env2) : popM i j ρ = popK i j ρ ρ[j]? := rfl
theorem q_popK {i j : Nat} {ρ : Env2} {xs : List D} {d : D} : popK i j ρ (some (some (.own (xs ++ [d])))) = M.ret (.nx ((ρ.set j (some (.own xs))).set i (some (.val d)))) := by
  show popL i j ρ (xs ++ [d]) (xs ++ [d])[(xs ++ [d]).length - 1]? = _
  rw [show (xs ++ [d])[(xs ++ [d]).length - 1]? = some d by simp]
  show M.ret _ = _
  rw [List.dropLast_concat]
def exvK (j : Nat) (ρ : Env2) (ds : List D) : Option (Option Slot) → M Out
  | some (some (.own xs)) => M.guard (decide (xs.length + ds.length ≤ sizeLine)) (M.ret (.nx (ρ.set j (some (.own (xs ++ ds))))))
  | _ => M.fail
def exvD (j : Nat) (ms : List Nat) (ρ : Env2) : D → M Out
  | .lst ds => exvK j (keepIf (ds.all D.flat) ms ρ) ds (keepIf (ds.all D.flat) ms ρ)[j]?
  | _ => M.fail
def exvM (j : Nat) (ms : List Nat) (f : DL.Env → M D) (ρ : Env2) : M Out := M.bind (f (view ms ρ)) (exvD j ms ρ)
theorem q_exvM (j : Nat) (ms : List Nat) (f : DL.Env → M D) (ρ : Env2) : exvM j ms f ρ = bnd (f (view ms ρ)) (exvD j ms ρ) := rfl
theorem q_exvD (j : Nat) (ms : List Nat) (ρ : Env2) (ds : List D) : exvD j ms ρ (.lst ds) = exvK j (keepIf (ds.all D.flat) ms ρ) ds (keepIf (ds.all D.flat) ms ρ)[j]? := rfl
theorem q_exvK {j : Nat} {ρ : Env2} {xs ds : List D} (h : xs.length + ds.length ≤ 16777216) : exvK j ρ ds (some (some (.own xs))) = M.ret (.nx (ρ.set j (some (.own (xs ++ ds))))) := M.guard_of (decide_eq_true (by rw [sizeLine_eq]; exact h))
end
section
variable {X : Cx} {tg : Expr} {p pos : Pos}
def listKF : List D → M (List D)
  | [.dct ks _] => M.ret (ks.map kD)
  | _ => M.fail
theorem q_listKF (ks : List L2.Key) (ds : List D) : listKF [.dct ks ds] = M.ret (ks.map kD) := rfl
end
end DL
set_option Elab.async false
set_option maxRecDepth 100000
set_option autoImplicit false
set_option linter.unusedVariables false
set_option maxHeartbeats 4000000
namespace DL
open PySem L2 PySem.Spec PyProof.Rows
variable [TAB : TabList]
variable [EFF : Eff]
set_option linter.unusedSectionVars false
section
variable {X : Cx} {l : LamI} {cl : List (Str × Addr)} {is : List Nat} {e : Expr} {es : List Expr} {f : Env → M D} {fa : Env → M (List D)}
end
section
variable {X : Cx} {pos : Pos}
end
end DL
set_option Elab.async false
set_option maxRecDepth 100000
set_option autoImplicit false
set_option linter.unusedVariables false
set_option maxHeartbeats 4000000
namespace DL
open PySem L2 PySem.Spec PyProof.Rows
variable [TAB : TabList]
set_option linter.unusedSectionVars false
theorem slo_nc {a C dx : Addr} {vs : List (Option V)} {c : Addr} {q : Str} : SlX.SlO a C dx vs ≠ LamX.CodeO c q := by
  unfold SlX.SlO
  refine ext_ne ?_
  rintro hp ⟨sl, h, _⟩
  exact ⟨a, _, h, fun us z => by cases z⟩
def frE (C x dx : Addr) (H : Hp) : Hp := upd (upd H dx (.own x)) x (.ins C dx [])
structure TW (X : Cx) (E : En) (C x dx : Addr) (σ : L2.St) (δ : DL.Env) (G H : Hp) (b : Bs) (vs : List (Option V)) : Prop where
  rs : RS X.K G σ δ
  me : σ[0]? = some (some (.ref x))
  gx : G x = none
  gd : G dx = none
  ox : H x = some (SlX.SlO x C dx vs)
  od : H dx = some (.xd [])
  ne : dx ≠ x
  hx : ¬ b.hit x
  hd : ¬ b.hit dx
  ex : E.H x = some (.ins C dx [])
  ed : E.H dx = some (.own x)
  nx : Nxt E.G E.H E.b G (frE C x dx H) b
section
variable {X : Cx} {E : En} {C x dx : Addr} {σ : L2.St} {δ : DL.Env} {G H G1 H1 : Hp} {b b1 : Bs} {vs : List (Option V)}
theorem TW.fz (T : TW X E C x dx σ δ G H b vs) : SameF G H := fun a o h => by
  have h2 := T.nx.fz a o h
  unfold frE at h2
  rw [upd_ne (fun z => by rw [z, T.gx] at h; cases h), upd_ne (fun z => by rw [z, T.gd] at h; cases h)] at h2
  exact h2
theorem TW.back (T : TW X E C x dx σ δ G H b vs) : upd (upd (frE C x dx H) dx (.xd [])) x (SlX.SlO x C dx vs) = H := by
  funext a
  unfold frE
  by_cases h1 : a = x
  · rw [h1, upd_same, T.ox]
  · rw [upd_ne h1]
    by_cases h2 : a = dx
    · rw [h2, upd_same, T.od]
    · rw [upd_ne h2, upd_ne h1, upd_ne h2]
theorem TW.bag (T : TW X E C x dx σ δ G H b vs) : BagOk G H b := by
  have h1 := T.nx.bag.mut (o := .xd []) T.hd (nc_of (u := .own x) (by unfold frE; rw [upd_ne T.ne, upd_same])) T.gd
  have h2 := h1.mut (o := SlX.SlO x C dx vs) T.hx (nc_of (u := .ins C dx []) (by rw [upd_ne (Ne.symm T.ne)]; unfold frE; rw [upd_same])) T.gx
  rw [T.back] at h2
  exact h2
theorem TW.ev (T : TW X E C x dx σ δ G H b vs) (n : Nxt G H b G1 H1 b1) : TW X E C x dx σ δ G1 H1 b1 vs := by
  have gx1 := n.new x _ T.ox T.gx
  have gd1 := n.new dx _ T.od T.gd
  have ox1 := n.keep x _ T.ox T.hx
  have od1 := n.keep dx _ T.od T.hd
  have hx1 : ¬ b1.hit x := by rw [← Bs.like_at n.like]; exact T.hx
  have hd1 : ¬ b1.hit dx := by rw [← Bs.like_at n.like]; exact T.hd
  refine ⟨T.rs.mono n.gg, T.me, gx1, gd1, ox1, od1, T.ne, hx1, hd1, T.ex, T.ed, .mk' (fun a o h => n.gg a o (T.nx.gg a o h)) (fun a o h => ?_) (fun a o h hb => ?_) (fun a o h hn => ?_) ?_ (Bs.like_trans T.nx.like n.like)⟩
  · unfold frE
    rw [upd_ne (fun z => by rw [z, gx1] at h; cases h), upd_ne (fun z => by rw [z, gd1] at h; cases h)]
    exact n.fz a o h
  · have k := T.nx.keep a o h hb
    unfold frE at k ⊢
    by_cases h1 : a = x
    · rw [h1, upd_same] at k ⊢
      exact k
    · rw [upd_ne h1] at k ⊢
      by_cases h2 : a = dx
      · rw [h2, upd_same] at k ⊢
        exact k
      · rw [upd_ne h2] at k ⊢
        exact n.keep a o k (by rw [← Bs.like_at T.nx.like]; exact hb)
  · have k := T.nx.new a o h hn
    by_cases h1 : a = x
    · rw [h1]; exact gx1
    · by_cases h2 : a = dx
      · rw [h2]; exact gd1
      · by_cases hb : E.b.hit a
        · exact n.bag.hitG (by rw [← Bs.like_at n.like, ← Bs.like_at T.nx.like]; exact hb)
        · have k2 := T.nx.keep a o h hb
          unfold frE at k2
          rw [upd_ne h1, upd_ne h2] at k2
          exact n.new a o k2 k
  · have k1 := n.bag.mut (o := .own x) hd1 (nc_of od1) gd1
    exact k1.mut (o := .ins C dx []) hx1 (fun c q z => by
      rw [upd_ne (Ne.symm T.ne), ox1] at z
      exact slo_nc (Option.some.inj z)) gx1
theorem TW.put (T : TW X E C x dx σ δ G H b vs) (vs' : List (Option V)) : TW X E C x dx σ δ G (SlX.slH H x C dx vs') b vs' := by
  have e : frE C x dx (SlX.slH H x C dx vs') = frE C x dx H := by
    funext a
    unfold frE SlX.slH
    by_cases h1 : a = x
    · rw [h1, upd_same, upd_same]
    · rw [upd_ne h1, upd_ne h1]
      by_cases h2 : a = dx
      · rw [h2, upd_same, upd_same]
      · rw [upd_ne h2, upd_ne h2, upd_ne h1, upd_ne h2]
  refine ⟨T.rs, T.me, T.gx, T.gd, ?_, ?_, T.ne, T.hx, T.hd, T.ex, T.ed, by rw [e]; exact T.nx⟩
  · unfold SlX.slH
    exact upd_same
  · unfold SlX.slH
    rw [upd_ne T.ne, upd_same]
theorem TW.set (T : TW X E C x dx σ δ G H b vs) {i : Nat} (hi : i ≠ 0) {v : V} {d : D} (r : Rp X.K G v d) : TW X E C x dx (σ.set i (some v)) (δ.set i (some d)) G H b vs :=
  ⟨T.rs.set r, by rw [List.getElem?_set_ne hi]; exact T.me, T.gx, T.gd, T.ox, T.od, T.ne, T.hx, T.hd, T.ex, T.ed, T.nx⟩
theorem TW.mut (T : TW X E C x dx σ δ G H b vs) {p : Addr} {o : HO} (h : E.H p = none) (gp : G p = none) (px : p ≠ x) (pd : p ≠ dx) (hb : ¬ b.hit p) (nc : ∀ c q, H p ≠ some (LamX.CodeO c q)) : TW X E C x dx σ δ G (upd H p o) b vs := by
  have e : frE C x dx (upd H p o) = upd (frE C x dx H) p o := by
    funext a
    unfold frE
    by_cases h0 : a = p
    · rw [h0, upd_ne px, upd_ne pd, upd_same, upd_same]
    · rw [upd_ne h0]
      by_cases h1 : a = x
      · rw [h1, upd_same, upd_same]
      · rw [upd_ne h1, upd_ne h1]
        by_cases h2 : a = dx
        · rw [h2, upd_same, upd_same]
        · rw [upd_ne h2, upd_ne h2, upd_ne h0]
  have nc2 : ∀ c q, frE C x dx H p ≠ some (LamX.CodeO c q) := fun c q => by
    unfold frE
    rw [upd_ne px, upd_ne pd]
    exact nc c q
  refine ⟨T.rs, T.me, T.gx, T.gd, by rw [upd_ne (Ne.symm px)]; exact T.ox, by rw [upd_ne (Ne.symm pd)]; exact T.od, T.ne, T.hx, T.hd, T.ex, T.ed, ?_⟩
  rw [e]
  refine .mk' T.nx.gg (fun a u k => ?_) (fun a u k z => ?_) T.nx.new (T.nx.bag.mut hb nc2 gp) T.nx.like
  · rw [upd_ne (ne_of_none k gp)]
    exact T.nx.fz a u k
  · rw [upd_ne (ne_of_none k h)]
    exact T.nx.keep a u k z
theorem TW.start {ρ : Env2} {ms : List Nat} (I : SI X.K E σ ρ G H b) (n : Nxt (I.gp ms) H b G1 H1 b1) (ex : E.H x = some (.ins C dx [])) (ed : E.H dx = some (.own x)) (ne : dx ≠ x) (bx : ¬ E.b.hit x) (bd : ¬ E.b.hit dx) (gx : E.G x = none) (gd : E.G dx = none) (me : σ[0]? = some (some (.ref x))) (vs : List (Option V)) :
    TW X E C x dx σ (view ms ρ) G1 (SlX.slH H1 x C dx vs) b1 vs := by
  have m : Nxt E.G E.H E.b G1 H1 b1 := (I.frz n).nxt
  have kx := m.keep x _ ex bx
  have kd := m.keep dx _ ed bd
  have e : frE C x dx (SlX.slH H1 x C dx vs) = H1 := by
    funext a
    unfold frE SlX.slH
    by_cases h1 : a = x
    · rw [h1, upd_same, kx]
    · rw [upd_ne h1]
      by_cases h2 : a = dx
      · rw [h2, upd_same, kd]
      · rw [upd_ne h2, upd_ne h1, upd_ne h2]
  refine ⟨(I.rs ms).mono n.gg, me, m.new x _ ex gx, m.new dx _ ed gd, ?_, ?_, ne, by rw [← Bs.like_at m.like]; exact bx, by rw [← Bs.like_at m.like]; exact bd, ex, ed, by rw [e]; exact m⟩
  · unfold SlX.slH
    exact upd_same
  · unfold SlX.slH
    rw [upd_ne ne, upd_same]
end
section
variable {X : Cx} {C : Addr} {p0 p1 p2 p3 p4 p5 : Addr}
end
end DL
set_option Elab.async false
set_option maxRecDepth 100000
set_option autoImplicit false
set_option linter.unusedVariables false
set_option maxHeartbeats 4000000
namespace DL
open PySem L2 PySem.Spec PyProof.Rows
section
variable {prog : Program} {w : World} {A : Around} {E : Value → Shared → Prop} {s : Shared} {K : PySem.W.Frag} {x C f : Addr} {ox : Obj} {od : Option Obj}
end
section
variable [TAB : TabList]
variable [EFF : Eff]
set_option linter.unusedSectionVars false
variable {X : Cx} {C g : Addr} {c k : Nat} {CX : CXT} {n : Nat} {sp : Sp} {E : XK} {fd : FuncData} {ps : List Str} {Fn : List D → M D} {e : Expr} {fa : DL.Env → M (List D)} {p pos : Pos}
end
section
variable [TAB : TabList]
variable [EFF : Eff]
set_option linter.unusedSectionVars false
variable {X : Cx} {pos : Pos}
end
end DL
set_option Elab.async false
set_option maxRecDepth 100000
set_option autoImplicit false
set_option linter.unusedVariables false
set_option maxHeartbeats 4000000
namespace DL
open PySem L2 PySem.Spec PyProof.Rows
section
variable [TAB : TabList]
variable [EFF : Eff]
set_option linter.unusedSectionVars false
variable {X : Cx}
end
end DL
set_option Elab.async false
set_option maxRecDepth 100000
set_option autoImplicit false
set_option linter.unusedVariables false
set_option maxHeartbeats 4000000
namespace DL
open PySem L2 PySem.Spec PyProof.Rows
section
variable [TAB : TabList]
variable [EFF : Eff]
set_option linter.unusedSectionVars false
variable {X : Cx}
variable {a b : Expr} {f g : DL.Env → M D} {pos : Pos}
end
end DL
set_option Elab.async false
set_option maxRecDepth 100000
set_option autoImplicit false
set_option linter.unusedVariables false
set_option maxHeartbeats 4000000
namespace DL
open PySem L2 PySem.Spec PyProof.Rows
variable [TAB : TabList]
set_option linter.unusedSectionVars false
section
variable {P : Program} {w : World} {K : PySem.W.Frag} {mg : Str → Option Value} {base : Heap} {x qual : Str} {st st1 : Stmt} {f c0 P0 : Addr} {fd : FuncData} {N ps : List Str} {k : Nat} {Fs : Env2 → M Out} {l : LamI} {is : List Nat} {lp rp : Pos}
end
inductive RpE (K : PySem.W.Frag) (G H : Hp) (l : LamI) : List V → List D → Prop
  | nil : RpE K G H l [] []
  | cons {v : V} {vs : List V} {d : D} {ds : List D} : Rp K G v d → RpE K G H l vs ds → RpE K G H l (v :: vs) (d :: ds)
  | esc {f c : Addr} {cl : List (Str × Addr)} {ws vs : List V} {cs ds : List D} : G f = some (FunX f l cl c) → H c = some (LamX.CodeO c l.qual) → ClAt G l cl ws → RpL K G ws cs → RpE K G H l vs ds → RpE K G H l (.ref f :: vs) (.clo l cs :: ds)
section
variable {X : Cx} {l : LamI} {e : Expr} {es : List Expr} {f : DL.Env → M D} {fa fb : DL.Env → M (List D)}
end
end DL
set_option Elab.async false
set_option maxRecDepth 100000
set_option autoImplicit false
set_option linter.unusedVariables false
set_option maxHeartbeats 4000000
namespace DL
open PySem L2 PySem.Spec PyProof.Rows
variable [TAB : TabList]
variable [EFF : Eff]
set_option linter.unusedSectionVars false
def asLK : D → M (List D)
  | .lst xs => M.guard (decide (xs.length ≤ sizeLine)) (M.ret xs)
  | _ => M.fail
def asLF (fe : DL.Env → M D) : DL.Env → M (List D) := fun ρ => M.bind (fe ρ) asLK
theorem q_asLF (fe : DL.Env → M D) (ρ : DL.Env) : asLF fe ρ = bnd (fe ρ) asLK := rfl
theorem q_asLK {xs : List D} (h : xs.length ≤ 16777216) : asLK (.lst xs) = M.ret xs := M.guard_of (decide_eq_true h)
section
variable {X : Cx} {pos : Pos}
theorem pe_tupC {e0 : Expr} {fe : DL.Env → M D} {pp p2 : Pos} (hgt : Gl X "tuple") (hmt : X.mg "tuple" = none) (h : DE X e0 fe) (hes : starEach [e0] X.env = (false, eval e0 X.env) :: starEach [] X.env) :
    PE X (.Call (.Name "tuple" pp) [e0] [] p2) (tTup (tFA X.K (asLF fe))) := by
  refine PEimp (pe_callTy call_tuple_of hgt hmt (by decide +kernel) (da_cons h da_nil hes) (by decide) (by decide) hes rfl) ?_
  rintro σ H Q ⟨ρ, G, b, xs, b', rs, fz, ob, e, q⟩
  obtain ⟨d, b1, e1, e2⟩ := M.bind_some e
  cases d with
  | lst ys =>
    obtain ⟨hz, e3⟩ := M.guard_some e2
    cases e3
    refine ⟨ρ, G, b, [.lst xs], b', rs, fz, ob, ?_, fun vs G' H' n r => ?_⟩
    · show M.bind (fe ρ) (fun x => M.bind (M.ret []) fun xs => M.ret (x :: xs)) b = _
      rw [M.bind_eq e1]
      rfl
    · obtain ⟨v, rfl, r1⟩ := r.one
      cases r1 with
      | lst h1 h2 => exact ⟨_, _, rfl, .inl ⟨SqL.of (n.fz _ _ h1), fun l hl => (q _ G' H' n h2).2 l hl⟩⟩
  | _ => cases e2
theorem s_tputC (j : Nat) (ms : List Nat) {x : Str} {e0 e : Expr} {pp : Pos} {fv : DL.Env → M D} {fe : DL.Env → M D} {p pos' p2 : Pos} (hu : X.A.units + 64 < cLine) (hgt : Gl X "tuple") (hmt : X.mg "tuple" = none) (hi : DE X e0 fe) (hes : starEach [e0] X.env = (false, eval e0 X.env) :: starEach [] X.env := by rfl) (he : DE X e fv) (hN : X.N[j]? = some x := by rfl) (hv : Vis X.env.scope x := by first | exact Or.inl rfl | exact Or.inr (Or.inl rfl) | exact Or.inr (Or.inr rfl))
    (hd : (x == ("__debug__" : Str)) = false := by decide) (hcd : (x == ("__classdict__" : Str)) = false := by decide) (hs : swapsWith e (some (.Subscript (.Name x p) (.Call (.Name "tuple" pp) [e0] [] p2) pos')) pos.line X.env = pure false := by rfl) :
    DS X (.Assign [.Subscript (.Name x p) (.Call (.Name "tuple" pp) [e0] [] p2) pos'] e pos) (tputM j ms fv (asLF fe)) := by
  refine PSimp (ps_dput (by omega) (pe_var hN hv hd hcd) (pe_tupC hgt hmt hi hes) he hs) ?_
  rintro D σ H ⟨E, ρ, G, b, o, b', I, e, q⟩
  obtain ⟨d, b1, e1, e2⟩ := M.bind_some e
  obtain ⟨ys, b2, e2, e3⟩ := M.bind_some e2
  obtain ⟨hsz, e3⟩ := M.guard_some e3
  refine ⟨_, _, b, d, b1, I.rs ms, I.gp2 ms, I.gpb ms, e1, fun v G1 H1 n1 r => ?_⟩
  obtain ⟨G2, I2, r2⟩ := I.after n1 r
  obtain ⟨ks, os, ej⟩ : ∃ ks os, (keepIf d.flat ms ρ)[j]? = some (some (.tr (.t ks os))) := by
    cases ej : (keepIf d.flat ms ρ)[j]? with
    | none => rw [ej] at e3; cases e3
    | some s => cases s with
      | none => rw [ej] at e3; cases e3
      | some s => cases s with
        | val _ => rw [ej] at e3; cases e3
        | own _ => rw [ej] at e3; cases e3
        | tr o => cases o with
          | t ks os => exact ⟨ks, os, rfl⟩
          | v _ => rw [ej] at e3; cases e3
          | l _ => rw [ej] at e3; cases e3
          | k _ _ => rw [ej] at e3; cases e3
          | u _ => rw [ej] at e3; cases e3
  rw [ej] at e3
  cases ek : keysD ys with
  | none => rw [ek] at e3; cases e3
  | some k =>
    rw [ek] at e3
    obtain ⟨hz, e4⟩ := M.guard_some e3
    cases e4
    obtain ⟨fp0, w0⟩ := I2.own
    obtain ⟨u, hu1, _⟩ := w0.at_ j _ _ ej rfl
    refine ⟨u, hu1, ?_⟩
    refine ⟨_, _, b1, ys, b', I2.rs ms, I2.gp2 ms, I2.gpb ms, e2, fun vs3 G3 H3 n3 r3 => ⟨by rw [r3.length]; exact of_decide_eq_true hsz, fun pt hpt => ?_⟩⟩
    have I3 := I2.flat (n3.trans (Nxt.newH (o := .tup vs3) n3.fz n3.bag hpt))
    obtain ⟨fp, w⟩ := I3.own
    obtain ⟨u', hu2, ow⟩ := w.at_ j _ _ ej rfl
    rw [hu1] at hu2
    cases hu2
    generalize hf : fp j = fj at ow
    cases ow with
    | @t pa _ vs _ fpv hpa hl rl =>
      have hky := keysD_of r3 ek
      have hlv : vs.length = os.length := rl.length
      refine ⟨pa, _, rfl, .inr ⟨_, k, pt, hpa, rfl, by rw [upd_same, hky], ?_, rfl⟩, ?_⟩
      · rw [List.length_zip, ← hl, Nat.min_self]
        exact of_decide_eq_true hz
      · rw [putK_zip ks vs k v hl]
        have hnd := w.nd j
        rw [hf, List.nodup_cons] at hnd
        obtain ⟨fq, o1, o2⟩ := OwL.setVs (ks := ks) (k := k) r2 rl
        refine q σ G2 _ (I3.retree (s' := .tr (.t (setKs ks k) (setVs ks os k (.v d)))) (fq := pa :: fq) ej rfl hu1 w (.t upd_same (setK_len ks vs k v hl) (o1.mono (fun _ _ h => h) fun a ha => upd_ne fun z => hnd.1 (by rw [← z]; exact o2.subset ha))) ?_ (fun a ha => ?_) (fun a hf' _ => upd_ne fun z => hf' (by rw [z, hf]; exact List.mem_cons_self)))
        · rw [List.nodup_cons]
          exact ⟨fun h => hnd.1 (o2.subset h), hnd.2.sublist o2⟩
        · rcases List.mem_cons.mp ha with rfl | ha
          · exact .inl ⟨by rw [hf]; exact List.mem_cons_self, by rw [upd_same]; exact fun z => nomatch z⟩
          · have hm : a ∈ fp j := by rw [hf]; exact List.mem_cons_of_mem _ (o2.subset ha)
            refine .inl ⟨hm, ?_⟩
            rw [upd_ne fun z => hnd.1 (by rw [← z]; exact o2.subset ha)]
            exact (w.ok j a hm).2.2.2
theorem t_notInTC {e0 b : Expr} {pp p2 pos : Pos} {fe g : DL.Env → M D} (hu : X.A.units + 64 < cLine) (hgt : Gl X "tuple") (hmt : X.mg "tuple" = none) (ha : DE X e0 fe) (hb : DE X b g) (hm : behindInMarks .NotIn b = false := by rfl) (hes : starEach [e0] X.env = (false, eval e0 X.env) :: starEach [] X.env := by rfl) : DT X (.Compare (.Call (.Name "tuple" pp) [e0] [] p2) [.NotIn] [b] pos) (tInT true (asLF fe) g) := by
  refine PTimp (pt_cmp (pc_dnotin (by omega) (pe_tupC hgt hmt ha hes) hb) hm) ?_
  intro σ H Q h
  obtain ⟨ρ, G, b, ds, b', rs, fz, ob, e, q⟩ := inT_f h
  exact ⟨ρ, G, b, ds, b', rs, fz, ob, e, fun vs G' H' n r => ⟨(q vs G' H' n r).1, fun p hp => by
    obtain ⟨ρ2, G2, c, d2, c', rs2, fz2, ob2, e2, q2⟩ := (q vs G' H' n r).2 p hp
    exact ⟨ρ2, G2, c, d2, c', rs2, fz2, ob2, e2, fun x G3 H3 n3 r3 => by
      obtain ⟨a, o, h1, h2, h3⟩ := q2 x G3 H3 n3 r3
      exact ⟨a, o, h1, h2, _, rfl, h3⟩⟩⟩⟩
end
end DL
set_option Elab.async false
set_option maxRecDepth 100000
set_option autoImplicit false
set_option linter.unusedVariables false
set_option maxHeartbeats 4000000
namespace DL
open PySem L2 PySem.Spec PyProof.Rows PySem.Calls PySem.NumText
variable [TAB : TabList]
variable [EFF : Eff]
set_option linter.unusedSectionVars false
end DL
set_option Elab.async false
set_option maxRecDepth 100000
set_option autoImplicit false
set_option linter.unusedVariables false
set_option maxHeartbeats 4000000
namespace DL
open PySem L2 PySem.Spec PyProof.Rows
variable [TAB : TabList]
variable [EFF : Eff]
set_option linter.unusedSectionVars false
section
variable {P : Program} {w : World} {K : PySem.W.Frag} {mg : Str → Option Value} {base : Heap}
variable {x qual : Str} {st : Stmt} {f : Addr} {fd : FuncData} {N ps : List Str} {k : Nat}
end
end DL
set_option Elab.async false
set_option maxRecDepth 100000
set_option autoImplicit false
set_option linter.unusedVariables false
set_option maxHeartbeats 4000000
namespace DL
open PySem L2 PySem.Spec PyProof.Rows
variable [TAB : TabList]
section
variable [EFF : Eff]
set_option linter.unusedSectionVars false
section
variable {X : Cx} {pos : Pos}
end
end
section
variable {P : Program} {w : World} {K : PySem.W.Frag} {mg : Str → Option Value} {base : Heap} {x qual : Str} {st : Stmt} {f c0 : Addr} {fd : FuncData} {N ps : List Str} {k : Nat} {Fs : Env2 → M OutE}
end
end DL
set_option Elab.async false
set_option maxRecDepth 100000
set_option autoImplicit false
set_option linter.unusedVariables false
set_option maxHeartbeats 4000000
namespace DL
open PySem L2 PySem.Spec PyProof.Rows
variable [TAB : TabList]
variable [EFF : Eff]
set_option linter.unusedSectionVars false
section
variable {X : Cx} {pos : Pos}
end
end DL
set_option Elab.async false
set_option maxRecDepth 100000
set_option autoImplicit false
set_option linter.unusedVariables false
set_option maxHeartbeats 4000000
namespace DL
open PySem L2 PySem.Spec PyProof.Rows PySem.W
variable [TAB : TabList]
variable [EFF : Eff]
set_option linter.unusedSectionVars false
section
variable {X : Cx}
end
section
variable {X : Cx} {tg : Expr}
end
end DL
set_option Elab.async false
set_option maxRecDepth 100000
set_option autoImplicit false
set_option linter.unusedVariables false
set_option maxHeartbeats 4000000
namespace DL
open PySem L2 PySem.Spec PyProof.Rows PySem.W
variable [TAB : TabList]
variable [EFF : Eff]
set_option linter.unusedSectionVars false
section
variable {prog : Program} {w : World} {A : Around} {E : Value → Shared → Prop} {s : Shared}
end
section
variable {X : Cx}
end
end DL
set_option Elab.async false
set_option maxRecDepth 100000
set_option autoImplicit false
set_option linter.unusedVariables false
set_option maxHeartbeats 4000000
namespace DL
open PySem L2 PySem.Spec PyProof.Rows PySem.W
variable [TAB : TabList]
variable [EFF : Eff]
set_option linter.unusedSectionVars false
section
variable {X : Cx}
end
end DL
set_option Elab.async false
set_option maxRecDepth 100000
set_option autoImplicit false
set_option linter.unusedVariables false
set_option maxHeartbeats 4000000
namespace DL
open PySem L2 PySem.Spec PyProof.Rows PySem.W
variable [TAB : TabList]
variable [EFF : Eff]
set_option linter.unusedSectionVars false
section
variable {X : Cx} {a b : Expr} {f g : Env → M D} {pos : Pos}
end
end DL
set_option Elab.async false
set_option maxRecDepth 100000
set_option autoImplicit false
set_option linter.unusedVariables false
set_option maxHeartbeats 4000000
namespace DL
open PySem L2 PySem.Spec PyProof.Rows PySem.W
variable [TAB : TabList]
variable [EFF : Eff]
set_option linter.unusedSectionVars false
abbrev NKs := List (NestedKey × Addr × Value)
def nestF (P : Program) (w : World) (d : Addr) (xs : NKs) (h : Heap) : Prop := ∃ o es ep, h.get? d = some o ∧ o.ExactDict ∧ o.data = .dict es ep ∧ es.toList = xs.map (entryOfKey (nestedKind P w))
def nestO (P : Program) (w : World) (d : Addr) (xs : NKs) : HO := .ext (nestF P w d xs)
structure NkOk (K : PySem.W.Frag) (H : Hp) (d : Addr) (xs : NKs) : Prop where
  ks : ∀ x ∈ xs, Dp K H (.ref x.2.1) x.1.data ∧ x.1.depth ≤ 8
  nd : (xs.map (·.1)).Nodup
  sys : (d == sysModules) = false
  sz : xs.length ≤ sizeLine
section
variable {X : Cx}
end
end DL
set_option Elab.async false
set_option maxRecDepth 100000
set_option autoImplicit false
set_option linter.unusedVariables false
set_option maxHeartbeats 4000000
namespace DL
open PySem L2 PySem.Spec PyProof.Rows PySem.W
variable [TAB : TabList]
variable [EFF : Eff]
set_option linter.unusedSectionVars false
section
variable {K : PySem.W.Frag} {E : En} {σ : L2.St} {ρ : Env2} {G H : Hp} {b : Bs}
end
end DL
set_option Elab.async false
set_option maxRecDepth 100000
set_option autoImplicit false
set_option linter.unusedVariables false
set_option maxHeartbeats 4000000
namespace DL
open PySem L2 PySem.Spec PyProof.Rows PySem.W
variable [TAB : TabList]
variable [EFF : Eff]
set_option linter.unusedSectionVars false
mutual
def nkD : D → Option NestedKey
  | .str x => some (.text ⟨x.toArray⟩)
  | .int i => some (.num i)
  | .tup xs => match nkDs xs with
    | some ks => some (.tup ks)
    | none => none
  | _ => none
def nkDs : List D → Option (List NestedKey)
  | [] => some []
  | d :: ds => match nkD d with
    | some k => match nkDs ds with
      | some ks => some (k :: ks)
      | none => none
    | none => none
end
mutual
theorem nkD_py : ∀ (d : D) {k : NestedKey}, nkD d = some k → toPy d = some k.data
  | .str x, k, h => by unfold nkD at h; cases h; unfold toPy; rfl
  | .int i, k, h => by unfold nkD at h; cases h; unfold toPy; rfl
  | .tup xs, k, h => by
    unfold nkD at h
    cases e : nkDs xs with
    | none => rw [e] at h; cases h
    | some ks =>
      rw [e] at h
      cases h
      unfold toPy
      rw [nkDs_py xs e]
      rfl
  | .non, k, h => by unfold nkD at h; cases h
  | .bl _, k, h => by unfold nkD at h; cases h
  | .lst _, k, h => by unfold nkD at h; cases h
  | .dct _ _, k, h => by unfold nkD at h; cases h
  | .dcT _ _, k, h => by unfold nkD at h; cases h
  | .obj _ _, k, h => by unfold nkD at h; cases h
  | .bag _, k, h => by unfold nkD at h; cases h
  | .scr _, k, h => by unfold nkD at h; cases h
  | .exc _ _ _ _, k, h => by unfold nkD at h; cases h
  | .clo _ _, k, h => by unfold nkD at h; cases h
theorem nkDs_py : ∀ (ds : List D) {ks : List NestedKey}, nkDs ds = some ks → toPyL ds = some (NestedKey.datas ks)
  | [], ks, h => by unfold nkDs at h; cases h; unfold toPyL; rfl
  | d :: ds, ks, h => by
    unfold nkDs at h
    cases e1 : nkD d with
    | none => rw [e1] at h; cases h
    | some k =>
      rw [e1] at h
      cases e2 : nkDs ds with
      | none => rw [e2] at h; cases h
      | some l =>
        rw [e2] at h
        cases h
        unfold toPyL
        rw [nkD_py d e1, nkDs_py ds e2]
        rfl
end
def keyT (d : D) : Option NestedKey := match d with
  | .tup xs => match nkD (.tup xs) with
    | some k => if k.depth ≤ 8 then some k else none
    | none => none
  | _ => none
theorem keyT_is {d : D} {k : NestedKey} (h : keyT d = some k) : (∃ xs, d = .tup xs) ∧ toPy d = some k.data ∧ k.depth ≤ 8 := by
  unfold keyT at h
  split at h
  · rename_i xs
    cases e : nkD (.tup xs) with
    | none => rw [e] at h; cases h
    | some k' =>
      rw [e] at h
      have h : (if k'.depth ≤ 8 then some k' else none) = some k := h
      by_cases c : k'.depth ≤ 8
      · rw [if_pos c] at h
        cases h
        exact ⟨⟨xs, rfl⟩, nkD_py _ e, c⟩
      · rw [if_neg c] at h
        cases h
  · cases h
structure Nst (X : Cx) (E : En) (σ : L2.St) (G H : Hp) (b : Bs) (j : Nat) (a : Addr) (xs : NKs) (seen : List NestedKey) : Prop where
  at_ : σ[j]? = some (some (V.ref a))
  obj : H a = some (nestO X.prog X.w a xs)
  g : G a = none
  e : E.H a = none
  nb : ¬ b.hit a
  ks : ∀ x ∈ xs, ∃ d, Rp X.K G (.ref x.2.1) d ∧ toPy d = some x.1.data ∧ x.1.depth ≤ 8
  sn : xs.map (·.1) = seen
  nd : seen.Nodup
  sys : (a == sysModules) = false
  sz : xs.length ≤ sizeLine
section
variable {X : Cx} {E : En} {σ : L2.St} {G H G1 H1 : Hp} {b b1 : Bs} {j : Nat} {a : Addr} {xs : NKs} {seen : List NestedKey}
theorem Nst.step (N : Nst X E σ G H b j a xs seen) (n : Nxt G H b G1 H1 b1) : Nst X E σ G1 H1 b1 j a xs seen :=
  ⟨N.at_, n.keep a _ N.obj N.nb, n.new a _ N.obj N.g, N.e, by rw [← Bs.like_at n.like]; exact N.nb, fun x hx => by
    obtain ⟨d, h1, h2⟩ := N.ks x hx
    exact ⟨d, h1.mono n.gg, h2⟩, N.sn, N.nd, N.sys, N.sz⟩
theorem Nst.ok (N : Nst X E σ G H b j a xs seen) (fz : SameF G H) : NkOk X.K H a xs :=
  ⟨fun x hx => by
    obtain ⟨d, h1, h2, h3⟩ := N.ks x hx
    exact ⟨(h1.dp h2).monoF fz, h3⟩, by rw [N.sn]; exact N.nd, N.sys, N.sz⟩
theorem Nst.add (N : Nst X E σ G H b j a xs seen) {q : Addr} {d : D} {k : NestedKey} (r : Rp X.K G (.ref q) d) (hk : keyT d = some k) (hn : k ∉ seen) (hz : seen.length < sizeLine) : Nst X E σ G (upd H a (nestO X.prog X.w a (xs ++ [(k, q, .bool true)]))) b j a (xs ++ [(k, q, .bool true)]) (seen ++ [k]) := by
  have hl : xs.length = seen.length := by rw [← N.sn, List.length_map]
  refine ⟨N.at_, upd_same, N.g, N.e, N.nb, fun x hx => ?_, by rw [List.map_append, N.sn]; rfl, ?_, N.sys, by rw [List.length_append, List.length_singleton]; omega⟩
  · rcases List.mem_append.mp hx with hx | hx
    · exact N.ks x hx
    · rw [List.mem_singleton.mp hx]
      obtain ⟨_, h1, h2⟩ := keyT_is hk
      exact ⟨d, r, h1, h2⟩
  · rw [List.nodup_append]
    refine ⟨N.nd, by simp, fun u hu v hv e => ?_⟩
    rw [List.mem_singleton.mp hv] at e
    exact hn (e ▸ hu)
end
end DL
set_option Elab.async false
set_option maxRecDepth 100000
set_option autoImplicit false
set_option linter.unusedVariables false
set_option maxHeartbeats 4000000
namespace DL
open PySem L2 PySem.Spec PyProof.Rows PySem.W
variable [TAB : TabList]
variable [EFF : Eff]
set_option linter.unusedSectionVars false
section
variable {X : Cx}
end
end DL
set_option Elab.async false
set_option maxRecDepth 100000
set_option autoImplicit false
set_option linter.unusedVariables false
set_option maxHeartbeats 4000000
namespace DL
open PySem L2 PySem.Spec PyProof.Rows PySem.W
variable [TAB : TabList]
set_option linter.unusedSectionVars false
abbrev effT : Eff := ⟨true⟩
theorem BagOk.cell {G H : Hp} {g : Bg} {a : Addr} {k : Nat} {c : Cell} (ob : BagOk G H (some g)) (ha : G a = some (ghost k)) (hc : g.st[k]? = some c) : CellAt G H a c := by
  obtain ⟨a2, h1, h2⟩ := ob.1.2.2.2.at_ k c hc
  rw [ob.1.2.2.2.one a a2 k ha h1]
  exact h2
def celG (k : Nat) : M Cell := fun b => match b with
  | some g => (g.st[k]?).map fun c => (c, some g)
  | none => none
theorem celG_some {k : Nat} {b b' : Bs} {c : Cell} (h : celG k b = some (c, b')) : ∃ g, b = some g ∧ b' = some g ∧ g.st[k]? = some c := by
  unfold celG at h
  cases b with
  | none => cases h
  | some g =>
    have h : (g.st[k]?).map (fun c => (c, some g)) = some (c, b') := h
    cases e : g.st[k]? with
    | none => rw [e] at h; cases h
    | some c2 => rw [e] at h; cases h; exact ⟨g, rfl, rfl, e⟩
def celS (k : Nat) (c : Cell) : M Unit := fun b => match b with
  | some g => if k < g.st.length then some ((), some { g with st := g.st.set k c }) else none
  | none => none
theorem celS_some {k : Nat} {c : Cell} {b b' : Bs} {u : Unit} (h : celS k c b = some (u, b')) : ∃ g, b = some g ∧ k < g.st.length ∧ b' = some { g with st := g.st.set k c } := by
  unfold celS at h
  cases b with
  | none => cases h
  | some g =>
    have h : (if k < g.st.length then some ((), some { g with st := g.st.set k c }) else none) = some (u, b') := h
    by_cases z : k < g.st.length
    · rw [if_pos z] at h; cases h; exact ⟨g, rfl, z, rfl⟩
    · rw [if_neg z] at h; cases h
def celN (c : Cell) : M Nat := fun b => match b with
  | some g => some (g.st.length, some { g with st := g.st ++ [c] })
  | none => none
theorem celN_some {c : Cell} {k : Nat} {b b' : Bs} (h : celN c b = some (k, b')) : ∃ g, b = some g ∧ k = g.st.length ∧ b' = some { g with st := g.st ++ [c] } := by
  unfold celN at h
  cases b with
  | none => cases h
  | some g => cases h; exact ⟨g, rfl, rfl, rfl⟩
theorem NxtB.setC {x : Bool} (hx : x = true) {G H : Hp} {g : Bg} {a : Addr} {k : Nat} {c : Cell} {o : HO} (f : SameF G H) (ob : BagOk G H (some g)) (ha : G a = some (ghost k)) (hc : CellAt G (upd H a o) a c) : NxtB x G H (some g) G (upd H a o) (some { g with st := g.st.set k c }) := by
  obtain ⟨⟨p1, p2, p3, p4⟩, ot⟩ := ob
  have lt := p4.lt a k ha
  have ne : ∀ b, G b = none → b ≠ a := fun b h z => by rw [z, ha] at h; cases h
  refine ⟨fun _ _ h => h, fun b u h => ?_, fun b u h nb hg => ?_, fun _ _ _ h => h, ⟨⟨p1, ?_, p3, fun j d e => ?_, p4.one, fun b j h => ?_⟩, fun q hq => ⟨(ot q hq).1, ?_⟩⟩, ⟨rfl, rfl, rfl, fun z => by rw [hx] at z; cases z⟩⟩
  · by_cases z : b = a
    · rw [z] at h ⊢
      rw [ha] at h
      cases h
      rw [upd_same]
      exact fun z => nomatch z
    · rw [upd_ne z]; exact f b u h
  · rw [upd_ne fun z => hg hx k (by rw [z]; exact ha)]; exact h
  · rw [upd_ne (ne _ p1)]; exact p2
  · have e : (g.st.set k c)[j]? = some d := e
    by_cases z : k = j
    · subst z
      rw [List.getElem?_set_self lt] at e
      cases e
      exact ⟨a, ha, hc⟩
    · rw [List.getElem?_set_ne z] at e
      obtain ⟨b, h1, h2⟩ := p4.at_ j d e
      refine ⟨b, h1, h2.ext (fun _ _ h => h) (upd_ne fun y => z ?_)⟩
      rw [y, ha] at h1
      exact ghost_inj (Option.some.inj h1)
  · show j < (g.st.set k c).length
    rw [List.length_set]; exact p4.lt b j h
  · exact TabS.mut (ot q hq).2 (ne _ (ot q hq).1) fun c q => BagP.noCode (b := some g) ⟨p1, p2, p3, p4⟩ ha
theorem NxtB.newC {x : Bool} (hx : x = true) {G H G' H' : Hp} {b : Bs} {g : Bg} {p : Addr} {c : Cell} (n : NxtB x G H b G' H' (some g)) (ob : BagOk G H b) (hp : H p = none) (gp : G' p = none) (hh : H' p ≠ none) (hc : CellAt G' H' p c) :
    NxtB x G H b (upd G' p (ghost g.st.length)) H' (some { g with st := g.st ++ [c] }) := by
  have sg : Same G' (upd G' p (ghost g.st.length)) := upd_more gp
  have nb : ¬ Bs.hit (some g) p := by rw [← Bs.like_at n.like]; exact bag_ne ob hp
  obtain ⟨⟨p1, p2, p3, p4⟩, ot⟩ := n.bag
  have old : ∀ a k, upd G' p (ghost g.st.length) a = some (ghost k) → (a = p ∧ k = g.st.length) ∨ (a ≠ p ∧ G' a = some (ghost k)) := fun a k h => by
    by_cases z : a = p
    · rw [z, upd_same] at h
      exact .inl ⟨z, (ghost_inj (Option.some.inj h)).symm⟩
    · rw [upd_ne z] at h
      exact .inr ⟨z, h⟩
  refine ⟨fun a o h => sg a o (n.gg a o h), fun a u h => ?_, n.keepB, fun a u h hn => ?_, ⟨⟨?_, p2, sg _ _ p3, fun j d e => ?_, fun a a2 k h h2 => ?_, fun a k h => ?_⟩, fun q hq => ⟨?_, (ot q hq).2⟩⟩, ?_⟩
  · by_cases z : a = p
    · rw [z, upd_same] at h
      cases h
      rw [z]
      exact hh
    · rw [upd_ne z] at h; exact n.fz a u h
  · rw [upd_ne (ne_of_none h hp)]; exact n.new a u h hn
  · rw [upd_ne fun z => nb (.inl (by rw [← z]; rfl))]; exact p1
  · have e : (g.st ++ [c])[j]? = some d := e
    by_cases z : j < g.st.length
    · rw [List.getElem?_append_left z] at e
      obtain ⟨a, h1, h2⟩ := p4.at_ j d e
      exact ⟨a, sg _ _ h1, h2.ext sg rfl⟩
    · rw [List.getElem?_append_right (by omega)] at e
      obtain ⟨i, hi⟩ : ∃ i, j - g.st.length = i := ⟨_, rfl⟩
      rw [hi] at e
      cases i with
      | zero =>
        cases e
        have : j = g.st.length := by omega
        subst this
        exact ⟨p, upd_same, hc.ext sg rfl⟩
      | succ i => cases e
  · rcases old a k h with ⟨h1, h3⟩ | ⟨h1, h3⟩ <;> rcases old a2 k h2 with ⟨k1, k3⟩ | ⟨k1, k3⟩
    · rw [h1, k1]
    · have := p4.lt _ _ k3; omega
    · have := p4.lt _ _ h3; omega
    · exact p4.one a a2 k h3 k3
  · show k < (g.st ++ [c]).length
    rw [List.length_append, List.length_singleton]
    rcases old a k h with ⟨h1, h3⟩ | ⟨h1, h3⟩
    · omega
    · have := p4.lt _ _ h3; omega
  · rw [upd_ne fun z => nb (.inr ⟨q.2, by rw [← z]; exact hq⟩)]; exact (ot q hq).1
  · refine Bs.like_trans n.like ⟨rfl, rfl, rfl, fun z => by rw [hx] at z; cases z⟩
theorem Rp.cel_at {K : PySem.W.Frag} {G : Hp} {v : V} {k : Nat} (r : Rp K G v (.cel k)) : ∃ a, v = .ref a ∧ G a = some (ghost k) := by
  cases r with
  | cel h => exact ⟨_, rfl, h⟩
def cLst (k : Nat) : M (List D) := M.bind (celG k) fun c => match c with
  | .lst xs => M.ret xs
  | _ => M.fail
def cObj (c k : Nat) : M (List (Option D)) := M.bind (celG k) fun x => match x with
  | .obj c' fs => M.guard (c' == c) (M.ret fs)
  | _ => M.fail
theorem cLst_some {k : Nat} {b b' : Bs} {xs : List D} (h : cLst k b = some (xs, b')) : ∃ g, b = some g ∧ b' = some g ∧ g.st[k]? = some (.lst xs) := by
  obtain ⟨c, b1, h1, h2⟩ := M.bind_some h
  obtain ⟨g, rfl, rfl, hc⟩ := celG_some h1
  cases c with
  | lst ys => cases h2; exact ⟨g, rfl, rfl, hc⟩
  | _ => cases h2
theorem BagOk.lstC {K : PySem.W.Frag} (hK : TAB.K = some K) {G H : Hp} {b b' : Bs} {v : V} {k : Nat} {xs : List D} (ob : BagOk G H b) (r : Rp K G v (.cel k)) (h : cLst k b = some (xs, b')) : ∃ g a vs, b = some g ∧ b' = some g ∧ v = .ref a ∧ G a = some (ghost k) ∧ H a = some (.lst vs) ∧ RpL K G vs xs ∧ nocL xs = true := by
  obtain ⟨g, rfl, rfl, hc⟩ := cLst_some h
  obtain ⟨a, rfl, ha⟩ := r.cel_at
  obtain ⟨K2, vs, k1, nc, p, rl⟩ := ob.cell ha hc
  rw [hK] at k1
  cases k1
  exact ⟨g, a, vs, rfl, rfl, rfl, ha, p, rl, nc⟩
theorem RpO.get {K : PySem.W.Frag} {G : Hp} : ∀ {vs : List (Option V)} {ds : List (Option D)} {i : Nat} {d : D}, RpO K G vs ds → ds[i]? = some (some d) → ∃ v, vs[i]? = some (some v) ∧ Rp K G v d
  | _, _, _, _, .nil, h => by simp at h
  | _, _, 0, _, .no _, h => by simp at h
  | _, _, 0, _, .yes a _, h => by
    have e := Option.some.inj (Option.some.inj (by simpa using h : some (some _) = some (some _)))
    subst e
    exact ⟨_, rfl, a⟩
  | _, _, i + 1, d, .no b, h => by
    obtain ⟨v, h1, h2⟩ := RpO.get (i := i) (d := d) b (by simpa using h)
    exact ⟨v, by simpa using h1, h2⟩
  | _, _, i + 1, d, .yes _ b, h => by
    obtain ⟨v, h1, h2⟩ := RpO.get (i := i) (d := d) b (by simpa using h)
    exact ⟨v, by simpa using h1, h2⟩
theorem RpO.length {K : PySem.W.Frag} {G : Hp} : ∀ {vs : List (Option V)} {ds : List (Option D)}, RpO K G vs ds → vs.length = ds.length
  | _, _, .nil => rfl
  | _, _, .no b => by simp [RpO.length b]
  | _, _, .yes _ b => by simp [RpO.length b]
def celK (x : D) : M Nat := match x with
  | .cel k => M.ret k
  | _ => M.fail
theorem celK_some {x : D} {k : Nat} {b b' : Bs} (h : celK x b = some (k, b')) : x = .cel k ∧ b' = b := by
  cases x with
  | cel j => cases h; exact ⟨rfl, rfl⟩
  | _ => cases h
section
variable {X : Cx} {c : Nat} {C : Addr} {e o : Expr} {es : List Expr} {f : Env → M D} {fa : Env → M (List D)} {pos apos : Pos} {fld m : Str} {k : Nat} {g : Addr} {fd : FuncData} {ps : List Str} {n : Nat} {Fn : List D → M D} {Fl : List D → M (List D)}
end
end DL
set_option Elab.async false
set_option maxRecDepth 100000
set_option autoImplicit false
set_option linter.unusedVariables false
set_option maxHeartbeats 4000000
namespace DL
open PySem L2 PySem.Spec PyProof.Rows PySem.W
variable [TAB : TabList]
variable [EFF : Eff]
set_option linter.unusedSectionVars false
def putO (i : Nat) (y : D) (fs : List (Option D)) : List (Option D) := (fs ++ List.replicate (i + 1 - fs.length) none).set i (some y)
theorem RpO.app {K : PySem.W.Frag} {G : Hp} : ∀ {vs ws : List (Option V)} {ds es : List (Option D)}, RpO K G vs ds → RpO K G ws es → RpO K G (vs ++ ws) (ds ++ es)
  | _, _, _, _, .nil, h => h
  | _, _, _, _, .no b, h => .no (RpO.app b h)
  | _, _, _, _, .yes a b, h => .yes a (RpO.app b h)
theorem RpO.rep {K : PySem.W.Frag} {G : Hp} : ∀ n : Nat, RpO K G (List.replicate n Option.none) (List.replicate n Option.none)
  | 0 => .nil
  | n + 1 => .no (RpO.rep n)
theorem RpO.setD {K : PySem.W.Frag} {G : Hp} {v : V} {d : D} (r : Rp K G v d) : ∀ {vs : List (Option V)} {ds : List (Option D)} (i : Nat), RpO K G vs ds → RpO K G (vs.set i (Option.some v)) (ds.set i (Option.some d))
  | _, _, _, .nil => .nil
  | _, _, 0, .no b => .yes r b
  | _, _, 0, .yes _ b => .yes r b
  | _, _, i + 1, .no b => .no (RpO.setD r i b)
  | _, _, i + 1, .yes a b => .yes a (RpO.setD r i b)
theorem RpO.put {K : PySem.W.Frag} {G : Hp} {vs : List (Option V)} {fs : List (Option D)} {v : V} {d : D} (i : Nat) (r : RpO K G vs fs) (rv : Rp K G v d) : RpO K G (SlX.putS i v vs) (putO i d fs) := by
  unfold SlX.putS putO
  rw [r.length]
  exact RpO.setD rv i (r.app (RpO.rep _))
def okE (f : D → M ER) : ER → M ER
  | .ok d => f d
  | .ex c fs => M.ret (.ex c fs)
def newC (f : Env → M (List D)) : Env → M ER := fun ρ => M.bind (f ρ) fun xs => M.guard (nocL xs) (M.bind (celN (.lst xs)) fun k => M.ret (.ok (.cel k)))
section
variable {X : Cx} {W : WX} {o e a : Expr} {es : List Expr} {f g : Env → M D} {fa : Env → M (List D)} {pos apos cpos : Pos}
end
section
variable {X : Cx} {W : WX} {CX : CXT} {c k n : Nat} {C g : Addr} {fd : FuncData} {ps : List Str} {sp : Sp} {E : L2.St → XK} {o e : Expr} {es : List Expr} {m : Str} {pos apos : Pos} {ta : TE} {t : TA} {f : Env → M D} {fa : Env → M (List D)} {Fl : List D → M ER}
end
def sxSetK (i : Nat) (ms : List Nat) (ρ : Env2) : ER → M OutE
  | .ok d => M.ret (.o (.nx ((frz ms ρ).set i (some (.val d)))))
  | .ex c fs => M.ret (.ex c fs (frz ms ρ))
def sxSet (i : Nat) (ms : List Nat) (f : Env → M ER) (ρ : Env2) : M OutE := M.bind (f (view ms ρ)) (sxSetK i ms ρ)
section
variable {X : Cx} {W : WX} {e : Expr} {pos : Pos} {f : Env → M ER}
theorem sx_set (i : Nat) (ms : List Nat) {x : Str} {pos' : Pos} (hN : X.N.Nodup) (hi : X.N[i]? = some x) (hx : Loc X.env.scope x) (he : DEE X W e f) (hs : swapsWith e (some (.Name x pos')) pos.line X.env = pure false := by rfl)
    (hf : X.fn x = true ∨ X.env.scope.names.lookup x = some .local := by first | exact .inl rfl | exact .inr rfl | assumption) : DSE X W (.Assign [.Name x pos'] e pos) (sxSet i ms f) := by
  refine PSimp (ps_set hN hi hx he hs hf) ?_
  rintro D σ H ⟨E, ρ, G, b, o, b', I, e, q⟩
  obtain ⟨r, b1, e1, e2⟩ := M.bind_some e
  refine ⟨_, _, b, r, b1, I.rs ms, I.gp2 ms, I.gpb ms, e1, ?_⟩
  cases r with
  | ok d => cases e2; exact fun v G1 H1 n1 r => q _ G1 H1 ((I.frzB n1).set r)
  | ex c fs => cases e2; exact fun G1 H1 cls d n1 x => q σ G1 H1 cls d (I.frzB n1) x
end
end DL
set_option Elab.async false
set_option maxRecDepth 100000
set_option autoImplicit false
set_option linter.unusedVariables false
set_option maxHeartbeats 4000000
namespace DL
open PySem L2 PySem.Spec PyProof.Rows PySem.W
variable [TAB : TabList]
variable [EFF : Eff]
set_option linter.unusedSectionVars false
inductive AR where
  | ok (ds : List D) | ex (c : Nat) (fs : List D)
def QA (K : PySem.W.Frag) (G H : Hp) (b b' : Bs) (Q : List V → Hp → Prop) (Ex : XK) : AR → Prop
  | .ok ds => ∀ vs G' H', NxtB EFF.x G H b G' H' b' → RpL K G' vs ds → Q vs H'
  | .ex c fs => ∀ G' H' cls d, NxtB EFF.x G H b G' H' b' → ExP K c fs G' cls d → Ex cls d H'
def tAX (K : PySem.W.Frag) (W : WX) (f : Env → M AR) : TA := fun σ H Q => ∃ ρ G b r b', RS K G σ ρ ∧ SameF G H ∧ BagOk G H b ∧ f ρ b = some (r, b') ∧ QA K G H b b' Q (fun cls d H' => W cls d σ H') r
abbrev DAX (X : Cx) (W : WX) (es : List Expr) (f : Env → M AR) : Prop := PA X es (tAX X.K W f)
def axNil : Env → M AR := fun _ => M.ret (.ok [])
def axConsK2 (d : D) : AR → M AR
  | .ok ds => M.ret (.ok (d :: ds))
  | .ex c fs => M.ret (.ex c fs)
def axConsK (g : Env → M AR) (ρ : Env) : ER → M AR
  | .ok d => M.bind (g ρ) (axConsK2 d)
  | .ex c fs => M.ret (.ex c fs)
def axCons (f : Env → M ER) (g : Env → M AR) : Env → M AR := fun ρ => M.bind (f ρ) (axConsK g ρ)
section
variable {X : Cx} {W : WX} {e a : Expr} {es : List Expr} {pos : Pos} {f : Env → M ER} {g : Env → M AR}
theorem ax_nil : DAX X W [] axNil := by
  refine PAimp pa_nil ?_
  rintro σ H Q ⟨ρ, G, b, r, b', rs, fz, ob, e, q⟩
  cases e
  exact q [] G H (NxtB.refl fz ob) .nil
theorem ax_cons (ha : DEE X W e f) (hr : DAX X W es g) (hs : starEach (e :: es) X.env = (false, eval e X.env) :: starEach es X.env := by rfl) : DAX X W (e :: es) (axCons f g) := by
  refine PAimp (pa_cons ha hr hs) ?_
  rintro σ H Q ⟨ρ, G, b, r, b', rs, fz, ob, e, q⟩
  obtain ⟨x, b1, e1, e⟩ := M.bind_some e
  refine ⟨ρ, G, b, x, b1, rs, fz, ob, e1, ?_⟩
  cases x with
  | ex c fs => cases e; exact q
  | ok d =>
    obtain ⟨y, b2, e2, e⟩ := M.bind_some e
    refine fun v G1 H1 n1 r1 => ⟨ρ, G1, b1, y, b2, rs.mono n1.gg, n1.fz, n1.bag, e2, ?_⟩
    cases y with
    | ok ds => cases e; exact fun vs G2 H2 n2 r2 => q (v :: vs) G2 H2 (n1.trans n2) (.cons (r1.mono n2.gg) r2)
    | ex c fs => cases e; exact fun G2 H2 cls d n2 x => q G2 H2 cls d (n1.trans n2) x
end
section
variable {X : Cx} {W : WX} {k n : Nat} {f : Addr} {fd : FuncData} {ps : List Str} {x : Str} {p pos : Pos} {e a c : Expr} {es : List Expr} {Fn : List D → M D} {Fl : List D → M ER} {fa : Env → M AR} {g1 g2 : Env → M ER} {h : D → D → M D} {r : R2}
theorem QE.weakB {K : PySem.W.Frag} {G H G1 H1 : Hp} {b b1 b' : Bs} {Q : VK} {Ex : XK} {x : ER} (n : NxtB EFF.x G H b G1 H1 b1) (q : QE K G H b b' Q Ex x) : QE K G1 H1 b1 b' Q Ex x := by
  cases x with
  | ok d => exact fun v G2 H2 n2 r => q v G2 H2 (n.trans n2) r
  | ex c fs => exact fun G2 H2 cls d n2 r => q G2 H2 cls d (n.trans n2) r
end
inductive TR where
  | ok (k : Bool) | ex (c : Nat) (fs : List D)
def QT (K : PySem.W.Frag) (G H : Hp) (b b' : Bs) (Q : Bool → Hp → Prop) (Ex : XK) : TR → Prop
  | .ok k => ∀ G' H', NxtB EFF.x G H b G' H' b' → Q k H'
  | .ex c fs => ∀ G' H' cls d, NxtB EFF.x G H b G' H' b' → ExP K c fs G' cls d → Ex cls d H'
theorem QT.weakB {K : PySem.W.Frag} {G H G1 H1 : Hp} {b b1 b' : Bs} {Q : Bool → Hp → Prop} {Ex : XK} {x : TR} (n : NxtB EFF.x G H b G1 H1 b1) (q : QT K G H b b' Q Ex x) : QT K G1 H1 b1 b' Q Ex x := by
  cases x with
  | ok d => exact fun G2 H2 n2 => q G2 H2 (n.trans n2)
  | ex c fs => exact fun G2 H2 cls d n2 r => q G2 H2 cls d (n.trans n2) r
section
variable {X : Cx} {W : WX} {e a b : Expr} {rest : List Expr} {pos : Pos} {f g : Env → M TR}
end
section
variable {X : Cx} {W : WX} {pos : Pos} {F1 F2 : Env2 → M OutE}
theorem FinE.up {K : PySem.W.Frag} {E : En} {σ1 : L2.St} {ρ1 : Env2} {G1 H1 : Hp} {b1 : Bs} {D : Ends} {b' : Bs} {o : OutE} (I : SI K E σ1 ρ1 G1 H1 b1) (q : FinE K E D W b' o) : FinE K ⟨G1, E.H, E.b⟩ D W b' o := by
  cases o with
  | o x => exact Fin.up I q
  | ex c fs ρ => exact fun σ' G' H' cls d J x => q σ' G' H' cls d (I.down J) x
end
def loopXK (next : Env2 → M OutE) : OutE → M OutE
  | .o (.nx ρ) => next ρ
  | .o (.ct ρ) => next ρ
  | .o (.bk ρ) => M.ret (.o (.nx ρ))
  | o => M.ret o
def loopX (bs : D → Option (List (Nat × D))) (body : Env2 → M OutE) : List D → Env2 → M OutE
  | [], ρ => M.ret (.o (.nx ρ))
  | x :: xs, ρ => match bs x with
    | none => M.fail
    | some l => M.bind (body (setAll2 ρ l)) (loopXK (loopX bs body xs))
theorem loopX_f {K : PySem.W.Frag} {W : WX} {J : It} {g : TG} {bs : D → Option (List (Nat × D))} {is : List Nat} {body : Env2 → M OutE} (tg : TgOk K g bs is) {E : En} {xs : List D} {G1 : Hp} (hG : Same G1 E.G) (yl : Yl K G1 J xs) {D : Ends} {σ : L2.St} {ρ : Env2} {G H : Hp} {b b' : Bs} {o : OutE}
    (I : SI K E σ ρ G H b) (e : loopX bs body xs ρ b = some (o, b')) (q : FinE K E D W b' o) :
    ∃ Wf : Nat → Nat → L2.St → Hp → Prop, (∃ m, Wf 0 m σ H) ∧ ∀ i m σ H, Wf i m σ H →
      (J.stop i H ∧ D.nx σ H) ∨ (J.go i H ∧ ∃ N : L2.St → Hp → Prop, (∀ σ' H', N σ' H' → ∃ m', m' < m ∧ Wf (i + 1) m' σ' H') ∧ ∀ x H', J.yld i H x H' → g x σ H' fun σ2 H2 => tSE K W body { D with nx := N, ct := N, bk := D.nx } σ2 H2) := by
  refine ⟨fun i m σ H => m = xs.length - i ∧ i ≤ xs.length ∧ ∃ ρ G b, SI K E σ ρ G H b ∧ loopX bs body (xs.drop i) ρ b = some (o, b'), ⟨xs.length, by simp, Nat.zero_le _, ρ, G, b, I, by simpa using e⟩, ?_⟩
  rintro i m σ2 H2 ⟨rfl, hi, ρ2, G2, b2, I2, e2⟩
  have Y := yl i G2 H2 b2 (fun a o h => I2.g0 a o (hG a o h)) I2.fz I2.bag
  by_cases hlt : i < xs.length
  · have hx : xs[i]? = some xs[i] := List.getElem?_eq_getElem hlt
    have hdr : xs.drop i = xs[i] :: xs.drop (i + 1) := List.drop_eq_getElem_cons hlt
    obtain ⟨hgo, hy⟩ := Y.1 _ hx
    refine .inr ⟨hgo, fun σ3 H3 => ∃ ρ G b, SI K E σ3 ρ G H3 b ∧ loopX bs body (xs.drop (i + 1)) ρ b = some (o, b'), fun σ' H' h' => ⟨xs.length - (i + 1), by omega, rfl, hlt, h'⟩, fun x H3 hyl => ?_⟩
    obtain ⟨G3, n3, rx⟩ := hy x H3 hyl
    rw [hdr] at e2
    unfold loopX at e2
    cases eb : bs xs[i] with
    | none => rw [eb] at e2; cases e2
    | some l =>
      rw [eb] at e2
      obtain ⟨lv, pl, il, gq⟩ := tg G3 x xs[i] l rx eb
      refine gq H3 _ _ n3.fz ?_
      obtain ⟨o1, b3, e3, e4⟩ := M.bind_some e2
      refine ⟨E, _, G3, b2, o1, b3, SI.setAll pl (I2.step n3), e3, ?_⟩
      cases o1 with
      | ex c fs ρ' => cases e4; exact q
      | o o1 =>
        cases o1 with
        | nx ρ' => exact fun σ' G' H' I' => ⟨ρ', G', b3, I', e4⟩
        | ct ρ' => exact fun σ' G' H' I' => ⟨ρ', G', b3, I', e4⟩
        | bk ρ' => cases e4; exact q
        | rt d => cases e4; exact q
        | rn ys => cases e4; exact q
  · have ee : i = xs.length := by omega
    subst ee
    refine .inl ⟨Y.2 (Nat.le_refl _), ?_⟩
    have hr : xs.drop xs.length = [] := by simp
    rw [hr] at e2
    cases e2
    exact q σ2 G2 H2 I2
def forX (ms : List Nat) (gi : Env → M (List D)) (bs : D → Option (List (Nat × D))) (body : Env2 → M OutE) (ρ : Env2) : M OutE := M.bind (gi (view ms ρ)) fun xs => loopX bs body xs (frz ms ρ)
def forRX (ms : List Nat) (gi : Env → M (List D)) (bs : D → Option (List (Nat × D))) (body : Env2 → M OutE) (ρ : Env2) : M OutE := M.bind (gi (view ms ρ)) fun xs => loopX bs body xs ρ
section
variable {X : Cx} {W : WX} {pos : Pos} {tg iter : Expr} {body : List Stmt} {gi : Env → M (List D)} {g : TG} {bs : D → Option (List (Nat × D))} {is : List Nat} {Fb : Env2 → M OutE}
theorem sx_for (ms : List Nat) (hp : PassesOwn (model X.prog X.w) X.A X.env X.xe) (hc : X.calm = true) (hi : DI X tg iter gi) (hg : PG X tg g) (ht : TgOk X.K g bs is) (hb : DSsE X W body Fb)
    (hs : ∀ x, foldedSetIterable iter X.env x = pure x := by intro _; rfl) : DSE X W (.For tg iter body [] pos) (forX ms gi bs Fb) := by
  refine PSimp (ps_for hp hc hi hg hb hs) ?_
  rintro D σ H ⟨E, ρ, G, b, o, b', I, e, q⟩
  obtain ⟨xs, b1, e1, e2⟩ := M.bind_some e
  refine ⟨_, _, b, xs, b1, I.rs ms, I.gp2 ms, I.gpb ms, e1, fun J G1 H1 n1 yl => ?_⟩
  have I1 := I.frz n1
  exact loopX_f (E := ⟨G1, E.H, E.b⟩) ht (fun _ _ h => h) yl I1.up e2 (q.up I1)
theorem sx_forR (ms : List Nat) (hp : PassesOwn (model X.prog X.w) X.A X.env X.xe) (hc : X.calm = true) (hi : DR X tg iter gi) (hg : PG X tg g) (ht : TgOk X.K g bs is) (hb : DSsE X W body Fb)
    (hs : ∀ x, foldedSetIterable iter X.env x = pure x := by intro _; rfl) : DSE X W (.For tg iter body [] pos) (forRX ms gi bs Fb) := by
  refine PSimp (ps_for hp hc hi hg hb hs) ?_
  rintro D σ H ⟨E, ρ, G, b, o, b', I, e, q⟩
  obtain ⟨xs, b1, e1, e2⟩ := M.bind_some e
  refine ⟨_, _, b, xs, b1, I.rs ms, I.gp2 ms, I.gpb ms, e1, fun J G1 H1 n1 yl => ?_⟩
  exact loopX_f ht (fun _ _ h => by cases h) yl (I.flat n1) e2 q
end
end DL
set_option Elab.async false
set_option maxRecDepth 100000
set_option autoImplicit false
set_option linter.unusedVariables false
set_option maxHeartbeats 4000000
namespace DL
open PySem L2 PySem.Spec PyProof.Rows PySem.W
variable [TAB : TabList]
set_option linter.unusedSectionVars false
def see1 (b : Bs) (k : Nat) : D := match b with
  | some g => match g.st[k]? with
    | some (.lst xs) => .lst xs
    | _ => .cel k
  | none => .cel k
mutual
def seeD (b : Bs) : D → D
  | .cel k => see1 b k
  | .lst xs => .lst (seeL b xs)
  | .tup xs => .tup (seeL b xs)
  | d => d
def seeL (b : Bs) : List D → List D
  | [] => []
  | x :: r => seeD b x :: seeL b r
end
mutual
def D.nocel : D → Bool
  | .cel _ => false
  | .lst xs => nocelL xs
  | .tup xs => nocelL xs
  | _ => true
def nocelL : List D → Bool
  | [] => true
  | x :: r => x.nocel && nocelL r
end
mutual
theorem seeD_no (b : Bs) : ∀ d : D, d.nocel = true → seeD b d = d
  | .cel _, h => by cases h
  | .lst xs, h => by show D.lst (seeL b xs) = _; rw [seeL_no b xs h]
  | .tup xs, h => by show D.tup (seeL b xs) = _; rw [seeL_no b xs h]
  | .non, _ => rfl
  | .bl _, _ => rfl
  | .int _, _ => rfl
  | .str _, _ => rfl
  | .dct _ _, _ => rfl
  | .dcT _ _, _ => rfl
  | .obj _ _, _ => rfl
  | .bag _, _ => rfl
  | .scr _, _ => rfl
  | .exc _ _ _ _, _ => rfl
  | .clo _ _, _ => rfl
theorem seeL_no (b : Bs) : ∀ xs : List D, nocelL xs = true → seeL b xs = xs
  | [], _ => rfl
  | x :: r, h => by
    have h : (x.nocel && nocelL r) = true := h
    rw [Bool.and_eq_true] at h
    show seeD b x :: seeL b r = _
    rw [seeD_no b x h.1, seeL_no b r h.2]
end
theorem see1_dp {K : PySem.W.Frag} (hK : TAB.K = some K) {G H : Hp} {b : Bs} (fz : SameF G H) (ob : BagOk G H b) {v : V} {k : Nat} {e : PyData} (r : Rp K G v (.cel k)) (h : toPy (see1 b k) = some e) : Dp K H v e := by
  unfold see1 at h
  cases b with
  | none => cases h
  | some g =>
    have h : toPy (match g.st[k]? with | some (.lst xs) => D.lst xs | _ => .cel k) = some e := h
    cases ec : g.st[k]? with
    | none => rw [ec] at h; cases h
    | some c =>
      rw [ec] at h
      cases c with
      | lst xs =>
        obtain ⟨a, rfl, ha⟩ := r.cel_at
        obtain ⟨K2, vs, k1, nc, p, rl⟩ := ob.cell ha ec
        rw [hK] at k1
        cases k1
        have h : (match toPyL xs with | some l => some (PyData.list l) | none => none) = some e := h
        cases el : toPyL xs with
        | none => rw [el] at h; cases h
        | some l =>
          rw [el] at h
          cases h
          exact .lst (SqL.of p) (dpFs (rl.dp el) fz)
      | _ => cases h
mutual
theorem seeD_dp {K : PySem.W.Frag} (hK : TAB.K = some K) {G H : Hp} {b : Bs} (fz : SameF G H) (ob : BagOk G H b) : ∀ {v : V} {d : D} {e : PyData}, Rp K G v d → toPy (seeD b d) = some e → Dp K H v e
  | _, _, _, .cel hg, h => see1_dp hK fz ob (.cel hg) h
  | _, _, _, .lst (ds := ds) hg r, h => by
    have h : (match toPyL (seeL b ds) with | some l => some (PyData.list l) | none => none) = some _ := h
    cases e : toPyL (seeL b ds) with
    | none => rw [e] at h; cases h
    | some l => rw [e] at h; cases h; exact .lst (SqL.of (fz _ _ hg)) (seeL_dp hK fz ob r e)
  | _, _, _, .tup (ds := ds) hg r, h => by
    have h : (match toPyL (seeL b ds) with | some l => some (PyData.tuple l) | none => none) = some _ := h
    cases e : toPyL (seeL b ds) with
    | none => rw [e] at h; cases h
    | some l => rw [e] at h; cases h; exact .tup (SameF.sqt fz hg) (seeL_dp hK fz ob r e)
  | _, _, _, .non, h => (Rp.dp (K := K) (G := G) .non h).monoF fz
  | _, _, _, .bl b, h => (Rp.dp (K := K) (G := G) (.bl b) h).monoF fz
  | _, _, _, .int i, h => (Rp.dp (K := K) (G := G) (.int i) h).monoF fz
  | _, _, _, .str x, h => (Rp.dp (K := K) (G := G) (.str x) h).monoF fz
  | _, _, _, .dct a l r, h => (Rp.dp (.dct a l r) h).monoF fz
  | _, _, _, .dcT a l r, h => (Rp.dp (.dcT a l r) h).monoF fz
  | _, _, _, .obj a l m r, h => (Rp.dp (.obj a l m r) h).monoF fz
  | _, _, _, .bag p, h => (Rp.dp (K := K) (G := G) (.bag p) h).monoF fz
  | _, _, _, .scr a, h => (Rp.dp (.scr a) h).monoF fz
  | _, _, _, .exc a r, h => (Rp.dp (.exc a r) h).monoF fz
  | _, _, _, .clo a l m r, h => (Rp.dp (.clo a l m r) h).monoF fz
theorem seeL_dp {K : PySem.W.Frag} (hK : TAB.K = some K) {G H : Hp} {b : Bs} (fz : SameF G H) (ob : BagOk G H b) : ∀ {vs : List V} {ds : List D} {es : List PyData}, RpL K G vs ds → toPyL (seeL b ds) = some es → DpAll K H vs es
  | _, _, _, .nil, h => by cases h; exact .nil
  | _, _, _, .cons (d := d) (ds := ds) a r, h => by
    have h : (match toPy (seeD b d) with | some x => (match toPyL (seeL b ds) with | some l => some (x :: l) | none => none) | none => none) = some _ := h
    cases e1 : toPy (seeD b d) with
    | none => rw [e1] at h; cases h
    | some x =>
      rw [e1] at h
      cases e2 : toPyL (seeL b ds) with
      | none => rw [e2] at h; cases h
      | some l => rw [e2] at h; cases h; exact .cons (seeD_dp hK fz ob a e1) (seeL_dp hK fz ob r e2)
end
def eqS (neg : Bool) (x y : D) : M D := fun b => eqD neg (seeD b x) (seeD b y) b
theorem eqS_no (neg : Bool) {x y : D} (hx : x.nocel = true) (hy : y.nocel = true) : eqS neg x y = eqD neg x y := by
  funext b
  show eqD neg (seeD b x) (seeD b y) b = _
  rw [seeD_no b x hx, seeD_no b y hy]
theorem see1_or (b : Bs) (k : Nat) : see1 b k = .cel k ∨ ∃ xs, see1 b k = .lst xs := by
  unfold see1
  cases b with
  | none => exact .inl rfl
  | some g =>
    show (match g.st[k]? with | some (.lst xs) => D.lst xs | _ => .cel k) = _ ∨ ∃ xs, (match g.st[k]? with | some (.lst xs) => D.lst xs | _ => .cel k) = _
    cases g.st[k]? with
    | none => exact .inl rfl
    | some c => cases c with
      | lst xs => exact .inr ⟨xs, rfl⟩
      | _ => exact .inl rfl
theorem seeD_kind (b : Bs) (d : D) : (∃ i, d = .int i) ∨ (∃ x, d = .str x) ∨ (∃ k, d = .bl k) ∨ ((∀ i, seeD b d ≠ .int i) ∧ (∀ x, seeD b d ≠ .str x) ∧ ∀ k, seeD b d ≠ .bl k) := by
  cases d with
  | int i => exact .inl ⟨i, rfl⟩
  | str x => exact .inr (.inl ⟨x, rfl⟩)
  | bl k => exact .inr (.inr (.inl ⟨k, rfl⟩))
  | cel k =>
    refine .inr (.inr (.inr ?_))
    show (∀ i, see1 b k ≠ .int i) ∧ (∀ x, see1 b k ≠ .str x) ∧ ∀ j, see1 b k ≠ .bl j
    rcases see1_or b k with h | ⟨xs, h⟩ <;> rw [h] <;> exact ⟨(fun _ z => by cases z), (fun _ z => by cases z), (fun _ z => by cases z)⟩
  | _ => exact .inr (.inr (.inr ⟨(fun _ z => by cases z), (fun _ z => by cases z), (fun _ z => by cases z)⟩))
theorem eqD_deep {neg : Bool} {x y d : D} {b b' : Bs} (h : eqD neg x y b = some (d, b')) (n : ((∀ i, x ≠ .int i) ∧ (∀ i, x ≠ .str i) ∧ ∀ i, x ≠ .bl i) ∨ ((∀ i, y ≠ .int i) ∧ (∀ i, y ≠ .str i) ∧ ∀ i, y ≠ .bl i)) : eqDeep neg x y b = some (d, b') := by
  have e : eqD neg x y = eqDeep neg x y := by
    cases x with
    | int i => cases y with
      | int j => rcases n with n | n <;> exact absurd rfl (n.1 _)
      | _ => rfl
    | str i => cases y with
      | str j => rcases n with n | n <;> exact absurd rfl (n.2.1 _)
      | _ => rfl
    | bl i => cases y with
      | bl j => rcases n with n | n <;> exact absurd rfl (n.2.2 _)
      | _ => rfl
    | _ => rfl
  rw [← e]; exact h
theorem flat3 {d : D} : (∃ i, d = D.int i) ∨ (∃ x, d = D.str x) ∨ (∃ k, d = D.bl k) → d.nocel = true := by
  rintro (⟨i, rfl⟩ | ⟨i, rfl⟩ | ⟨i, rfl⟩) <;> rfl
theorem snd_eqS {K : PySem.W.Frag} (hK : TAB.K = some K) : SndR K (fun x y H Q => rEq x y H Q ∨ rEqD K x y H Q) (eqS false) := by
  intro G H b x y dx dy d b' Q rx ry fz ob e q
  have e : eqD false (seeD b dx) (seeD b dy) b = some (d, b') := e
  have deep : eqDeep false (seeD b dx) (seeD b dy) b = some (d, b') → rEq x y H Q ∨ rEqD K x y H Q := fun h => by
    obtain ⟨e1, e2, h1, h2, h3, h4, rfl, rfl⟩ := eqDeep_some h
    exact .inr ⟨e1, e2, seeD_dp hK fz ob rx h1, seeD_dp hK fz ob ry h2, h3, h4, q _ G H (Nxt.refl fz ob) (.bl _)⟩
  have sx := seeD_kind b dx
  have sy := seeD_kind b dy
  have both : dx.nocel = true → dy.nocel = true → rEq x y H Q ∨ rEqD K x y H Q := fun hx hy => by
    rw [seeD_no b dx hx, seeD_no b dy hy] at e
    exact snd_eq G H b x y dx dy d b' Q rx ry fz ob e q
  rcases sx with h | h | h | h
  · rcases sy with k | k | k | k
    · exact both (flat3 (.inl h)) (flat3 (.inl k))
    · exact both (flat3 (.inl h)) (flat3 (.inr (.inl k)))
    · exact both (flat3 (.inl h)) (flat3 (.inr (.inr k)))
    · exact deep (eqD_deep e (.inr k))
  · rcases sy with k | k | k | k
    · exact both (flat3 (.inr (.inl h))) (flat3 (.inl k))
    · exact both (flat3 (.inr (.inl h))) (flat3 (.inr (.inl k)))
    · exact both (flat3 (.inr (.inl h))) (flat3 (.inr (.inr k)))
    · exact deep (eqD_deep e (.inr k))
  · rcases sy with k | k | k | k
    · exact both (flat3 (.inr (.inr h))) (flat3 (.inl k))
    · exact both (flat3 (.inr (.inr h))) (flat3 (.inr (.inl k)))
    · exact both (flat3 (.inr (.inr h))) (flat3 (.inr (.inr k)))
    · exact deep (eqD_deep e (.inr k))
  · exact deep (eqD_deep e (.inl h))
theorem snd_neS {K : PySem.W.Frag} (hK : TAB.K = some K) : SndR K (fun x y H Q => rNe x y H Q ∨ rNeD K x y H Q) (eqS true) := by
  intro G H b x y dx dy d b' Q rx ry fz ob e q
  have e : eqD true (seeD b dx) (seeD b dy) b = some (d, b') := e
  have deep : eqDeep true (seeD b dx) (seeD b dy) b = some (d, b') → rNe x y H Q ∨ rNeD K x y H Q := fun h => by
    obtain ⟨e1, e2, h1, h2, h3, h4, rfl, rfl⟩ := eqDeep_some h
    exact .inr ⟨e1, e2, seeD_dp hK fz ob rx h1, seeD_dp hK fz ob ry h2, h3, h4, q _ G H (Nxt.refl fz ob) (.bl _)⟩
  have sx := seeD_kind b dx
  have sy := seeD_kind b dy
  have both : dx.nocel = true → dy.nocel = true → rNe x y H Q ∨ rNeD K x y H Q := fun hx hy => by
    rw [seeD_no b dx hx, seeD_no b dy hy] at e
    exact snd_ne G H b x y dx dy d b' Q rx ry fz ob e q
  rcases sx with h | h | h | h
  · rcases sy with k | k | k | k
    · exact both (flat3 (.inl h)) (flat3 (.inl k))
    · exact both (flat3 (.inl h)) (flat3 (.inr (.inl k)))
    · exact both (flat3 (.inl h)) (flat3 (.inr (.inr k)))
    · exact deep (eqD_deep e (.inr k))
  · rcases sy with k | k | k | k
    · exact both (flat3 (.inr (.inl h))) (flat3 (.inl k))
    · exact both (flat3 (.inr (.inl h))) (flat3 (.inr (.inl k)))
    · exact both (flat3 (.inr (.inl h))) (flat3 (.inr (.inr k)))
    · exact deep (eqD_deep e (.inr k))
  · rcases sy with k | k | k | k
    · exact both (flat3 (.inr (.inr h))) (flat3 (.inl k))
    · exact both (flat3 (.inr (.inr h))) (flat3 (.inr (.inl k)))
    · exact both (flat3 (.inr (.inr h))) (flat3 (.inr (.inr k)))
    · exact deep (eqD_deep e (.inr k))
  · exact deep (eqD_deep e (.inl h))
def reprS (xs : List D) : M D := fun b => reprF (seeL b xs) b
theorem snd_reprS {X : Cx} (hK : TAB.K = some X.K) : SndC X.K (fun xs H Q => ∃ x d, xs = [x] ∧ Dp X.K H x d ∧ d.showable = true ∧ SeqAt.shaped d = true ∧ d.shown.length ≤ sizeLine ∧ Q (.str d.shown) H) reprS := by
  intro G H b vs ds d b' Q r fz ob e q
  have e : reprF (seeL b ds) b = some (d, b') := e
  cases r with
  | nil => cases e
  | @cons v vs x ds r1 r2 =>
    cases r2 with
    | cons _ _ => cases e
    | nil =>
      have e : (match toPy (seeD b x) with
        | some p => M.guard (p.showable && SeqAt.shaped p && decide (p.shown.length ≤ sizeLine)) (M.ret (D.str p.shown.cps.toList))
        | none => M.fail) b = some (d, b') := e
      cases e1 : toPy (seeD b x) with
      | none => rw [e1] at e; cases e
      | some p =>
        rw [e1] at e
        obtain ⟨c, e⟩ := M.guard_some e
        cases e
        simp only [Bool.and_eq_true, decide_eq_true_eq] at c
        refine ⟨v, p, rfl, seeD_dp hK fz ob r1 e1, c.1.1, c.1.2, c.2, ?_⟩
        have h := q (.str ⟨p.shown.cps.toList.toArray⟩) G H (Nxt.refl fz ob) (.str _)
        simpa using h
end DL
set_option Elab.async false
set_option maxRecDepth 100000
set_option autoImplicit false
set_option linter.unusedVariables false
set_option maxHeartbeats 4000000
namespace DL
open PySem L2 PySem.Spec PyProof.Rows PySem.W
variable [TAB : TabList]
variable [EFF : Eff]
set_option linter.unusedSectionVars false
section
variable {X : Cx} {a e : Expr} {f g : Env → M D} {pos : Pos}
end
section
variable {X : Cx} {tg e : Expr} {f : Env → M D}
end
section
variable {X : Cx} {W : WX} {pos : Pos} {tg iter : Expr} {body : List Stmt} {f : Env → M D} {g : TG} {bs : D → Option (List (Nat × D))} {is : List Nat} {Fb : Env2 → M Out} {Fx : Env2 → M OutE}
end
end DL
set_option Elab.async false
set_option maxRecDepth 100000
set_option autoImplicit false
set_option linter.unusedVariables false
set_option maxHeartbeats 4000000
namespace DL
open PySem L2 PySem.Spec PyProof.Rows PySem.W
variable [TAB : TabList]
variable [EFF : Eff]
set_option linter.unusedSectionVars false
section
variable {X : Cx} {op : Operator} {rd : V → V → Hp → VK → Prop} {o value : Expr} {C p : Addr} {i : Nat} {f : Str} {ta tv : TE} {pos tpos : Pos}
end
end DL
set_option Elab.async false
set_option maxRecDepth 100000
set_option autoImplicit false
set_option linter.unusedVariables false
set_option maxHeartbeats 4000000
namespace DL
open PySem L2 PySem.Spec PyProof.Rows PySem.W
variable [TAB : TabList]
variable [EFF : Eff]
set_option linter.unusedSectionVars false
section
variable {X : Cx} {C : Addr}
end
section
variable {X : Cx} {W : WX} {CX : CXT} {c k n : Nat} {C f : Addr} {fd : FuncData} {ps : List Str} {sp : Sp} {E : L2.St → XK} {x : Str} {e : Expr} {es : List Expr} {p pos : Pos} {t : TA} {Fl : List D → M ER}
end
section
variable {X : Cx} {W : WX} {c : Nat} {C : Addr}
end
end DL
set_option Elab.async false
set_option maxRecDepth 100000
set_option autoImplicit false
set_option linter.unusedVariables false
set_option maxHeartbeats 4000000
namespace DL
open PySem L2 PySem.Spec PyProof.Rows PySem.W
variable [TAB : TabList]
set_option linter.unusedSectionVars false
def lsS : D → M (List D)
  | .cel k => cLst k
  | .lst xs => M.ret xs
  | _ => M.fail
theorem BagOk.lsS {K : PySem.W.Frag} (hK : TAB.K = some K) {G H : Hp} {b b' : Bs} {v : V} {d : D} {xs : List D} (fz : SameF G H) (ob : BagOk G H b) (r : Rp K G v d) (h : DL.lsS d b = some (xs, b')) : ∃ a vs, v = .ref a ∧ b' = b ∧ H a = some (.lst vs) ∧ RpL K G vs xs := by
  cases d with
  | cel k =>
    obtain ⟨g, a, vs, rfl, rfl, rfl, ha, hH, rl, _⟩ := ob.lstC hK r h
    exact ⟨a, vs, rfl, rfl, hH, rl⟩
  | lst ys =>
    cases h
    cases r with
    | lst h1 h2 => exact ⟨_, _, rfl, rfl, fz _ _ h1, h2⟩
  | _ => cases h
section
variable {X : Cx} {a c e : Expr} {f g : Env → M D} {fa : Env → M (List D)} {p pos : Pos}
theorem d_eqS (hK : TAB.K = some X.K) (hu : X.A.units + 64 < cLine) (ha : DE X a f) (hb : DE X c g) : DE X (.Compare a [.Eq] [c] pos) (e2 (eqS false) f g) := d_cmp (op_eq.or (op_eqD hu)) (snd_eqS hK) ha hb (nomark _)
theorem t_neS (hK : TAB.K = some X.K) (hu : X.A.units + 64 < cLine) (ha : DE X a f) (hb : DE X c g) : DT X (.Compare a [.NotEq] [c] pos) (t2 (eqS true) f g) := t_cmp (op_ne.or (op_neD hu)) (snd_neS hK) ha hb (nomark _)
theorem d_reprS (hK : TAB.K = some X.K) (hgd : X.A.guards = some []) (hu : X.A.units + 70 < cLine) (hg : Gl X "repr") (hm : X.mg "repr" = none) (ha : DA X [e] fa) (he : starEach [e] X.env = (false, eval e X.env) :: starEach [] X.env := by rfl) :
    DE X (.Call (.Name "repr" p) [e] [] pos) (eCall reprS fa) := d_callB (call_reprD hgd hu) (snd_reprS hK) hg hm boot_repr ha (he := he)
end
def WdR : Option Int → Option Value → Prop
  | some i, some (.int j _) => i = j
  | none, none => True
  | _, _ => False
structure WdAt (K : PySem.W.Frag) (w : World) (mg : Str → Option Value) (x : Str) (wd : List (List Nat × Int)) : Prop where
  ex : ∃ d es n, mg x = some (.ref d) ∧ KDict K w d es n ∧ ∀ z : List Nat, ∃ r, PySem.W.nsIn K d ⟨z.toArray⟩ = some r ∧ WdR (wd.lookup z) r
theorem WdR.some {o : Option Int} {r : Option Value} (h : WdR o r) : r.isSome = o.isSome := by
  cases o <;> cases r <;> first | rfl | exact h.elim
section
variable {X : Cx} {a e : Expr} {f g : Env → M D} {x : Str} {wd : List (List Nat × Int)} {p pos : Pos}
end
end DL
set_option Elab.async false
set_option maxRecDepth 100000
set_option autoImplicit false
set_option linter.unusedVariables false
set_option maxHeartbeats 4000000
namespace DL
open PySem L2 PySem.Spec PyProof.Rows PySem.W
variable [TAB : TabList]
variable [EFF : Eff]
set_option linter.unusedSectionVars false
def YlC (K : PySem.W.Frag) (G0 : Hp) (b0 : Bs) (J : It) (ds : List D) : Prop := ∀ (i : Nat) (G H : Hp) (b : Bs), Same G0 G → SameF G H → BagOk G H b → b0.like b →
  (∀ d, ds[i]? = some d → J.go i H ∧ ∀ x H', J.yld i H x H' → ∃ G', Nxt G H b G' H' b ∧ Rp K G' x d) ∧ (ds.length ≤ i → J.stop i H)
theorem Yl.c {K : PySem.W.Frag} {G0 : Hp} {b0 : Bs} {J : It} {ds : List D} (h : Yl K G0 J ds) : YlC K G0 b0 J ds := fun i G H b s f o _ => h i G H b s f o
def iFC (K : PySem.W.Frag) (g : Env → M (List D)) : TI := fun σ H R => ∃ ρ G b ds b', RS K G σ ρ ∧ SameF G H ∧ BagOk G H b ∧ g ρ b = some (ds, b') ∧
  ∀ J G' H', Nxt G H b G' H' b' → YlC K G' b' J ds → R J H'
abbrev DIC (X : Cx) (tg e : Expr) (g : Env → M (List D)) : Prop := PI X tg e (iFC X.K g)
theorem DI.c {X : Cx} {tg e : Expr} {g : Env → M (List D)} (h : DI X tg e g) : DIC X tg e g := PIimp h fun σ H R ⟨ρ, G, b, ds, b', rs, fz, ob, e, q⟩ => ⟨ρ, G, b, ds, b', rs, fz, ob, e, fun J G' H' n y => q J G' H' n y.c⟩
section
variable {X : Cx} {W : WX} {pos : Pos} {tg iter : Expr} {body : List Stmt} {gi : Env → M (List D)} {g : TG} {bs : D → Option (List (Nat × D))} {is : List Nat} {Fb : Env2 → M Out}
end
def noxEK : OutE → M OutE
  | .o x => M.ret (.o x)
  | .ex _ _ _ => M.fail
def noxE (F : Env2 → M OutE) (ρ : Env2) : M OutE := M.bind (F ρ) noxEK
section
variable {X : Cx} {W : WX} {st : Stmt} {rest : List Stmt} {F : Env2 → M OutE}
theorem se_nox (h : DSE X.nox (fun _ _ _ _ => False) st F) : DSE X W st (noxE F) := by
  refine ⟨fun pins s σ H D I h0 => ?_⟩
  obtain ⟨E, ρ, G, b, o, b', I', e, q⟩ := h0
  obtain ⟨x, b1, e1, e2⟩ := M.bind_some e
  cases x with
  | ex c fs r => cases e2
  | o x =>
    cases e2
    have q' : tSE X.K (fun _ _ _ _ => False) F D σ H := ⟨E, ρ, G, b, .o x, b', I', e1, q⟩
    exact wpAny_mono (h.run pins s σ H D (I.wish _) q') (fun f s1 z => SP.unwish z) fun e s1 z => z.elim
end
section
variable {P : Program} {w : World} {K : PySem.W.Frag} {mg : Str → Option Value} {base : Heap} {x qual : Str} {st : Stmt} {f : Addr} {fd : FuncData} {N ps : List Str} {k : Nat} {Fs : Env2 → M OutE}
end
section
variable {X : Cx} {W : WX} {k : Nat} {f : Addr} {fd : FuncData} {ps : List Str} {x : Str} {p pos : Pos} {e : Expr} {es : List Expr} {n : Nat} {Fl : List D → M ER} {fa : Env → M (List D)}
end
end DL
set_option Elab.async false
set_option maxRecDepth 100000
set_option autoImplicit false
set_option linter.unusedVariables false
set_option maxHeartbeats 4000000
namespace DL
open PySem L2 PySem.Spec PyProof.Rows PySem.W
variable [TAB : TabList]
set_option linter.unusedSectionVars false
section
variable [EFF : Eff]
theorem law_runE {K : PySem.W.Frag} {N : List Str} {n : Nat} {FB : List D → M (List D)} {Fs : Env2 → M OutE} {vs : List V} {H : Hp} {Q : VK} {E : XK} {W : WX} (hN : N.length = n + 2)
    (hbag : ∀ ns : List Int, ns.length ≤ 63 → ∃ cs : List Int, FB [.scr ns] none = some ([.int 0, .int 1234567891, .int 0, .lst (cs.map D.int)], none))
    (hmath : ∀ (p : Addr), TotS p [] (Fs (env0 n p)) fun o _ => o = .o (.rt (.bl true)))
    (h : spLaw K vs H Q E) : tSeq (tAsg (tCall (spN K 1 FB) [] E0 (tFA K fun ρ => M.bind (rdEnv 0 ρ) fun x => M.bind (M.ret []) fun xs => M.ret (x :: xs))) (gName 1)) (tSE K W Fs) { nx := fun _ H' => Q .non H', rt := Q } (L2.start N vs) H := by
  obtain ⟨a, ns, rfl, hs, hl, ht, q⟩ := h
  obtain ⟨cs, hb⟩ := hbag ns hl
  refine ⟨[some (.scr ns)], noTab H, none, [.scr ns], none, ⟨?_, fun i d hi => ?_⟩, noTab_same, ⟨noTab_gh, fun p hp => ⟨noTab_in hp, ht p hp⟩⟩, rfl, fun vs G' H' n1 r => ?_⟩
  · unfold L2.start; simp
  · cases i with
    | zero => cases hi; exact ⟨.ref a, rfl, .scr (noTab_sq ht hs)⟩
    | succ i => cases hi
  · refine ⟨G', none, [.scr ns], _, none, by rw [List.append_nil]; exact r, rfl, n1.fz, n1.bag, hb, fun p ws G2 H2 n2 hp gp hh r2 => ?_⟩
    have np : H p = none := n1.free hp
    cases r2 with
    | cons a1 r2 =>
    cases a1
    cases r2 with
    | cons a2 r2 =>
    cases a2
    cases r2 with
    | cons a3 r2 =>
    cases a3
    cases r2 with
    | cons a4 r2 =>
    cases r2
    cases a4 with
    | @lst qq vs4 _ hq rq =>
      have ev := ints_of rq
      subst ev
      obtain ⟨o, g', e, _, ho⟩ := hmath p ⟨p, qq, 0, 1234567891, 0, cs, []⟩ ⟨rfl, Int.le_refl 0⟩ rfl
      subst ho
      refine ⟨⟨G2, H2, some ⟨p, qq, 0, 1234567891, 0, cs, []⟩⟩, env0 n p, G2, some ⟨p, qq, 0, 1234567891, 0, cs, []⟩, .o (.rt (.bl true)), some g', ?_, e, ?_⟩
      · have slot : ∀ (i : Nat) (s : Slot), (env0 n p)[i]? = some (some s) → i = 1 ∧ s = .val (.bag p) := fun i s h => by
          unfold env0 at h
          match i with
          | 0 => cases h
          | 1 => cases h; exact ⟨rfl, rfl⟩
          | i + 2 =>
            simp only [List.getElem?_cons_succ] at h
            by_cases hi : i < n
            · rw [List.getElem?_replicate_of_lt hi] at h; cases h
            · rw [List.getElem?_eq_none (by simpa using hi)] at h; cases h
        refine ⟨n2.fz, fun _ _ h => h, fun _ _ _ h => h, fun _ _ h _ _ => h, ⟨⟨gp, hh, hq, CelOk.nil fun a k z => n2.bag.1 a k z⟩, n2.bag.2⟩, Bs.like_refl _, ?_, fun i d h => ?_, fun _ => [], fun i s o h1 h2 => ?_, fun i a ha => (nomatch ha), fun i => List.nodup_nil, fun i j a ha => (nomatch ha)⟩
        · unfold env0 L2.start
          simp [hN]
        · obtain ⟨rfl, h2⟩ := slot i _ h
          cases h2
          refine ⟨.ref p, ?_, .bag p⟩
          unfold L2.start
          rw [hN]
          simp
        · obtain ⟨_, h3⟩ := slot i _ h1
          rw [h3] at h2
          cases h2
      · intro v G3 H3 n3 rv
        cases rv
        exact q H3
end
section
variable {X : Cx} {a b e : Expr} {pos p : Pos} {c : Nat} {C g : Addr} {k : Nat} {fd : FuncData} {ps : List Str} {f h : Env → M D} {fa : Env → M (List D)} {Fn : List D → M D} {R : List D → M D}
end
section
variable [EFF : Eff]
variable {X : Cx} {W : WX}
def sxParK (i j : Nat) (ms : List Nat) (ρ : Env2) : AR → M OutE
  | .ok [d, e] => M.ret (.o (.nx (((frz ms ρ).set i (some (.val d))).set j (some (.val e)))))
  | .ok _ => M.fail
  | .ex c fs => M.ret (.ex c fs (frz ms ρ))
def sxPar (i j : Nat) (ms : List Nat) (f : Env → M AR) (ρ : Env2) : M OutE := M.bind (f (view ms ρ)) (sxParK i j ms ρ)
theorem sx_par (i j : Nat) (ms : List Nat) {x y : Str} {a b : Expr} {f : Env → M AR} {px py pt pos : Pos} {kt k2 pt2} (hc : X.calm = true) (hN : X.N.Nodup) (hi : X.N[i]? = some x) (hj : X.N[j]? = some y) (hij : i ≠ j)
    (hx : X.env.scope.names.lookup x = some .local) (hy : X.env.scope.names.lookup y = some .local) (ha : DAX X W [a, b] f)
    (hw : swappedStores [.Tuple [.Name x px, .Name y py] kt pt] (.Tuple [a, b] k2 pt2) X.env = pure (some [x, y]) := by rfl)
    (hs : swapsWithSole [.Tuple [.Name x px, .Name y py] kt pt] (.Tuple [a, b] k2 pt2) pos.line X.env = pure false := by rfl) :
    DSE X W (.Assign [.Tuple [.Name x px, .Name y py] kt pt] (.Tuple [a, b] k2 pt2) pos) (sxPar i j ms f) := by
  refine PSimp (ps_par hc hN hi hj hij hx hy ha hw hs) ?_
  rintro D σ H ⟨E, ρ, G, b, o, b', I, e, q⟩
  obtain ⟨r, b1, e1, e2⟩ := M.bind_some e
  refine ⟨_, _, b, r, b1, I.rs ms, I.gp2 ms, I.gpb ms, e1, ?_⟩
  cases r with
  | ex c fs => cases e2; exact fun G1 H1 cls d n1 x => q σ G1 H1 cls d (I.frzB n1) x
  | ok ds =>
    match ds, e2 with
    | [d, d2], e2 =>
      cases e2
      intro vs G1 H1 n1 r
      cases r with
      | cons r1 r =>
      cases r with
      | cons r2 r =>
      cases r
      exact ⟨_, _, rfl, q _ G1 H1 (((I.frzB n1).set r1).set r2)⟩
def eIfE (t : Env → M Bool) (f g : Env → M ER) : Env → M ER := fun ρ => M.bind (t ρ) fun k => if k = true then f ρ else g ρ
theorem ee_if {t a b : Expr} {pos : Pos} {ft : Env → M Bool} {f g : Env → M ER} (ht : DT X t ft) (ha : DEE X W a f) (hb : DEE X W b g) : DEE X W (.IfExp t a b pos) (eIfE ft f g) := by
  refine PEimp (pe_ifExp ht ha hb) ?_
  rintro σ H Q ⟨ρ, G, b, r, b', rs, fz, ob, e, q⟩
  obtain ⟨k, b1, e1, e2⟩ := M.bind_some e
  refine ⟨ρ, G, b, k, b1, rs, fz, ob, e1, fun G1 H1 n1 => ?_⟩
  cases k with
  | true => exact iteT ⟨ρ, G1, b1, r, b', rs.mono n1.gg, n1.fz, n1.bag, e2, q.weak n1⟩
  | false => exact iteF ⟨ρ, G1, b1, r, b', rs.mono n1.gg, n1.fz, n1.bag, e2, q.weak n1⟩
end
end DL
set_option Elab.async false
set_option maxRecDepth 100000
set_option autoImplicit false
set_option linter.unusedVariables false
set_option maxHeartbeats 4000000
namespace DL
open PySem L2 PySem.Spec PyProof.Rows PySem.W
variable [TAB : TabList]
set_option linter.unusedSectionVars false
structure FnIt (P : Program) (w : World) (K : PySem.W.Frag) (mg : Str → Option Value) (base : Heap) (k : Nat) (f : Addr) (fd : FuncData) (ps : List Str) (c i : Nat) : Prop where
  len : ps.length = 1
  run : ∀ (A : Around) (outer : List PySem.Env) (s : Shared) (H G : Hp) (b : Bs) (args : Args) (us : List Value) (x : V) (j l : Nat) (fs : List (Option D)) (xs : List D), Room k A → Env0 P w K mg base A outer s H → BindsTo s fd args (ps.zip us) → Vals [x] us →
    Rp K G x (.cel j) → SameF G H → BagOk G H b → cObj c j b = some (fs, b) → fs[i]? = some (some (.cel l)) → cLst l b = some (xs, b) →
    codeAny (model P w) A (.call (.ref f) args) (CR CX0 outer P w H s (fun v H' => ∃ it a G2 H2, Nxt G H b G2 H2 b ∧ v = .ref it ∧ s.heap.objs.size ≤ it ∧ H2 it = none ∧ G2 a = some (ghost l) ∧ H' = upd H2 it (ItO a it 0)) E0) s
section
variable {P : Program} {w : World} {K : PySem.W.Frag} {mg : Str → Option Value} {base : Heap} {x qual : Str} {st : Stmt} {f : Addr} {fd : FuncData} {N ps : List Str} {k c i : Nat}
end
section
variable {X : Cx} {tg e : Expr} {f : Env → M D} {c i k : Nat} {C g : Addr} {fd : FuncData} {ps : List Str}
end
end DL
set_option Elab.async false
set_option maxRecDepth 100000
set_option autoImplicit false
set_option linter.unusedVariables false
set_option maxHeartbeats 4000000
namespace DL
open PySem L2 PySem.Spec PyProof.Rows PySem.W
def putF (c i k : Nat) (d : D) (fs : List (Option D)) : M Unit := M.guard d.noc (celS k (.obj c (putO i d fs)))
section
variable (ρ : Env) (ρ2 : Env2) (ms : List Nat) (c i j k l n : Nat) (x d e : D) (xs ds : List D) (fs : List D) (os : List (Option D))
theorem q_celK : celK (.cel k) = M.ret k := rfl
theorem q_okE_ok (f : D → M ER) : okE f (.ok d) = f d := rfl
theorem q_okE_ex (f : D → M ER) : okE f (.ex c fs) = M.ret (.ex c fs) := rfl
theorem q_sxSet (f : Env → M ER) : sxSet i ms f ρ2 = bnd (f (view ms ρ2)) (sxSetK i ms ρ2) := rfl
theorem q_sxSetK_ok : sxSetK i ms ρ2 (.ok d) = M.ret (.o (.nx ((frz ms ρ2).set i (some (.val d))))) := rfl
theorem q_sxSetK_ex : sxSetK i ms ρ2 (.ex c fs) = M.ret (.ex c fs (frz ms ρ2)) := rfl
theorem q_axNil : axNil ρ = M.ret (.ok []) := rfl
theorem q_axCons (f : Env → M ER) (g : Env → M AR) : axCons f g ρ = bnd (f ρ) (axConsK g ρ) := rfl
theorem q_axConsK_ok (g : Env → M AR) : axConsK g ρ (.ok d) = bnd (g ρ) (axConsK2 d) := rfl
theorem q_axConsK_ex (g : Env → M AR) : axConsK g ρ (.ex c fs) = M.ret (.ex c fs) := rfl
theorem q_axConsK2_ok : axConsK2 d (.ok ds) = M.ret (.ok (d :: ds)) := rfl
theorem q_axConsK2_ex : axConsK2 d (.ex c fs) = M.ret (.ex c fs) := rfl
theorem q_eIfE (t : Env → M Bool) (f g : Env → M ER) : eIfE t f g ρ = bnd (t ρ) fun k => cnd k (f ρ) (g ρ) := rfl
theorem q_forX (gi : Env → M (List D)) (bs : D → Option (List (Nat × D))) (body : Env2 → M OutE) : forX ms gi bs body ρ2 = bnd (gi (view ms ρ2)) fun xs => loopX bs body xs (frz ms ρ2) := rfl
theorem q_forRX (gi : Env → M (List D)) (bs : D → Option (List (Nat × D))) (body : Env2 → M OutE) : forRX ms gi bs body ρ2 = bnd (gi (view ms ρ2)) fun xs => loopX bs body xs ρ2 := rfl
theorem q_noxE (F : Env2 → M OutE) : noxE F ρ2 = bnd (F ρ2) noxEK := rfl
theorem q_noxEK (o : Out) : noxEK (.o o) = M.ret (.o o) := rfl
theorem q_sxPar (f : Env → M AR) : sxPar i j ms f ρ2 = bnd (f (view ms ρ2)) (sxParK i j ms ρ2) := rfl
theorem q_sxParK_ok : sxParK i j ms ρ2 (.ok [d, e]) = M.ret (.o (.nx (((frz ms ρ2).set i (some (.val d))).set j (some (.val e))))) := rfl
end
section
variable {α β : Type} {p : Addr} {st : List Cell} {Q : α → List Cell → Prop}
theorem TotS.bnd {m : M α} {f : α → M β} {P : α → List Cell → Prop} {Q : β → List Cell → Prop} {t : Tg f} (h : TotS p st m P) (k : ∀ a st', P a st' → TotS p st' (f a) Q) : TotS p st (DL.bnd m f t) Q := TotS.bind h k
theorem ts_tot {m : M β} {κ : β → M α} {t : Tg κ} {P : β → Prop} (h : Tot p m P) (k : ∀ a, P a → TotS p st (κ a) Q) : TotS p st (bnd m κ t) Q := TotS.bnd h.s fun a st' ⟨e, ha⟩ => by rw [e]; exact k a ha
theorem ts_see {m : M β} {κ : β → M α} {t : Tg κ} {a : β} (h : TotS p st m fun x st' => st' = st ∧ x = a) (k : TotS p st (κ a) Q) : TotS p st (bnd m κ t) Q := TotS.bnd h fun x st' ⟨e, ha⟩ => by rw [e, ha]; exact k
theorem ts_celG {k : Nat} {c : Cell} (h : st[k]? = some c) : TotS p st (celG k) fun x st' => st' = st ∧ x = c := fun g hg e => by
  refine ⟨c, g, ?_, hg, e, rfl⟩
  show (g.st[k]?).map (fun c => (c, some g)) = _
  rw [e, h]
  rfl
theorem ts_set {k : Nat} {c : Cell} {κ : Unit → M α} {t : Tg κ} (h : k < st.length) (q : TotS p (st.set k c) (κ ()) Q) : TotS p st (bnd (celS k c) κ t) Q := by
  refine TotS.bnd (P := fun _ st' => st' = st.set k c) (fun g hg e => ⟨(), { g with st := g.st.set k c }, ?_, hg, by rw [e]⟩) fun a st' e => by rw [e]; exact q
  show (if k < g.st.length then _ else none) = _
  rw [if_pos (by rw [e]; exact h)]
theorem ts_new {c : Cell} {κ : Nat → M α} {t : Tg κ} (q : TotS p (st ++ [c]) (κ st.length) Q) : TotS p st (bnd (celN c) κ t) Q :=
  TotS.bnd (P := fun n st' => n = st.length ∧ st' = st ++ [c]) (fun g hg e => ⟨g.st.length, { g with st := g.st ++ [c] }, rfl, hg, by rw [e], by rw [e]⟩) fun a st' ⟨e1, e2⟩ => by rw [e1, e2]; exact q
theorem ts_loopX {bs : D → Option (List (Nat × D))} {body : Env2 → M OutE} : ∀ {xs : List D} (I : Nat → Env2 → List Cell → Prop) {P : OutE → List Cell → Prop} {ρ : Env2} {st : List Cell} (_ : I 0 ρ st)
    (_ : ∀ i x ρ st, xs[i]? = some x → I i ρ st → ∃ l, bs x = some l ∧ TotS p st (body (setAll2 ρ l)) fun o st' => (∃ ρ', (o = .o (.nx ρ') ∨ o = .o (.ct ρ')) ∧ I (i + 1) ρ' st') ∨ ((∃ d, o = .o (.rt d)) ∧ P o st'))
    (_ : ∀ ρ' st', I xs.length ρ' st' → P (.o (.nx ρ')) st'), TotS p st (loopX bs body xs ρ) P
  | [], I, P, ρ, st, h0, h, hk => TotS.ret (hk ρ st h0)
  | x :: xs, I, P, ρ, st, h0, h, hk => by
    obtain ⟨l, e, ht⟩ := h 0 x ρ st rfl h0
    show TotS p st (match bs x with | none => M.fail | some l => M.bind (body (setAll2 ρ l)) (loopXK (loopX bs body xs))) P
    rw [e]
    refine TotS.bind ht fun o st' ho => ?_
    rcases ho with ⟨ρ', ho, hi⟩ | ⟨⟨d, ho⟩, hp⟩
    · have z : loopXK (loopX bs body xs) o = loopX bs body xs ρ' := by rcases ho with rfl | rfl <;> rfl
      rw [z]
      exact ts_loopX (fun i => I (i + 1)) hi (fun i y ρ st hy hI => h (i + 1) y ρ st hy hI) hk
    · subst ho
      exact TotS.ret hp
end
end DL
set_option Elab.async false
set_option maxRecDepth 100000
set_option autoImplicit false
set_option linter.unusedVariables false
set_option maxHeartbeats 4000000
namespace DL
open PySem L2 PySem.Spec PyProof.Rows PySem.W
structure InitC (K : PySem.W.Frag) (C : Addr) (qual : Str) (st : Stmt) (ps : List Str) (f : Addr) (fd : FuncData) : Prop where
  fn : Fun K "__init__" qual st f fd
  bd : Binds K fd ps []
  im : Mk K C f
section
variable [TAB : TabList] {X : Cx} {a : Expr} {c i : Nat} {p pos : Pos}
end
end DL
set_option Elab.async false
set_option maxRecDepth 100000
set_option autoImplicit false
set_option linter.unusedVariables false
set_option maxHeartbeats 4000000
namespace DL
open PySem L2 PySem.Spec PyProof.Rows PySem.W
variable [TAB : TabList]
variable [EFF : Eff]
set_option linter.unusedSectionVars false
section
variable {X : Cx} {W : WX} {k n : Nat} {f : Addr} {fd : FuncData} {ps : List Str} {x : Str} {p pos : Pos} {e : Expr} {es : List Expr} {Fn : List D → M D} {Fl : List D → M ER} {fa : Env → M AR}
end
section
variable {X : Cx} {a : Expr} {f : Env → M D} {x : Str} {wd : List (List Nat × Int)} {p pos : Pos}
end
end DL
set_option Elab.async false
set_option maxRecDepth 100000
set_option autoImplicit false
set_option linter.unusedVariables false
set_option maxHeartbeats 4000000
namespace DL
open PySem L2 PySem.Spec PyProof.Rows PySem.W
variable [TAB : TabList]
set_option linter.unusedSectionVars false
section
variable {X : Cx} {a : Expr} {f : Env → M D} {pos p2 : Pos}
end
theorem q_cut2 (a b : D) : cutL [a, b] none (some 2) = [a, b] := rfl
theorem q_cut3 (a b c : D) : cutL [a, b, c] none (some 2) = [a, b] := rfl
end DL
set_option Elab.async false
set_option maxRecDepth 100000
set_option autoImplicit false
set_option linter.unusedVariables false
set_option maxHeartbeats 4000000
namespace DL
open PySem L2 PySem.Spec PyProof.Rows
variable [TAB : TabList]
set_option linter.unusedSectionVars false
section
variable {X : Cx}
end
theorem RpL.cnt {K : PySem.W.Frag} {G : Hp} {w : V} {e : D} (re : Rp K G w e) (he : flatD e = true) : ∀ {vs : List V} {ds : List D}, RpL K G vs ds → ds.all flatD = true → (vs.countP fun z => eqV z w) = ds.countP fun z => eqF z e
  | _, _, .nil, _ => rfl
  | _, _, .cons (v := v) (d := d) (ds := ds) r rl, hf => by
    rw [List.all_cons, Bool.and_eq_true] at hf
    rw [List.countP_cons, List.countP_cons, RpL.cnt re he rl hf.2, r.eqV re hf.1 he]
section
variable {X : Cx} {a b : Expr} {f g : Env → M D} {pos : Pos}
end
end DL
set_option Elab.async false
set_option maxRecDepth 100000
set_option autoImplicit false
set_option linter.unusedVariables false
set_option maxHeartbeats 4000000
namespace DL
open PySem L2 PySem.Spec PyProof.Rows
variable [TAB : TabList]
variable [EFF : Eff]
set_option linter.unusedSectionVars false
section
variable {X : Cx} {tg : Expr} {p pos : Pos}
end
section
variable {X : Cx} {pos : Pos}
end
end DL
set_option Elab.async false
set_option maxRecDepth 100000
set_option autoImplicit false
set_option linter.unusedVariables false
set_option maxHeartbeats 4000000
namespace PySem
namespace ErrX
open PySem.W PySem.Calls PyProof.Rows PySem.HandSPX
def iA0 (p1 : Pos) : Arguments := { posonlyargs := [], args := [{ arg := "self", annotation := none, pos := p1 }], vararg := none, kwonlyargs := [], kw_defaults := [], kwarg := none, defaults := [] }
def iB0 (t : Str) (j : Nat) (q0 q1 q2 q3 q4 q5 : Pos) : List Stmt := [.Expr (.Call (.Attribute (.Call (.Name "super" q0) [] [] q1) "__init__" q2) [.Constant (.str t) j q3] [] q4) q5]
def iS0 : Scope := { kind := .function, names := [(PySem.Str.ofString "self", .local), (PySem.Str.ofString "__class__", .free), (PySem.Str.ofString "super", .globalImplicit)], isGenerator := false, isCoroutine := false, more := [] }
structure ErrTxt0 (P : Program) (K : Frag) (mg : Str → Option Value) (x : Str) (C fI : Addr) : Prop where
  gC : mg x = some (.ref C)
  cls : ∃ nm q N bs bm sn sub ab col dd k0 k1 k2 k3 k5, K.lookup C = some (excClassObj nm q C N bs bm true sn sub ab col dd k0 k1 k2 k3 k5 "ValueError.__new__") ∧ refsVE bm = true
  xf : L2.XfC K C
  isx : L2.ExcC K C
  iC : findIn K (.ref C) "__init__" = some (some (.ref fI))
  tC : typeIn K (.ref fI) = some (.type "function")
  kC : keepIn K (.ref C) = true
  tyC : typeIn K (.ref C) = some (.type "type")
  su : ks_superIn K C C "__init__" = some (some (.builtin "ValueError.__init__"))
  sub : mroIn K C (.ref C) = some true
  subV : subIn K (.ref C) (.type "ValueError") = some true
  noS : nsIn K mainGlobals "super" = some none
  opq : nsIn K cStatics "thirdparty.any" = some none
  fn : ∃ (oc : Value) (od : Option Addr) (dV kV doc pm : Value) (an : Option Addr) (cda cc : Addr) (ct : Value) (osl : Array (Option Value)) (qual t : Str) (j : Nat) (p1 q0 q1 q2 q3 q4 q5 : Pos) (fd : FuncData) (ccl cl : Value) (cdd cld : Option Addr) (vs : Array Value) (ccs csl : Array (Option Value)) (file : Str) (tf : Tok),
    (∀ L : Addr, ∃ pl : Sem Bool, eval (.Call (.Attribute (.Call (.Name "super" q0) [] [] q1) "__init__" q2) [.Constant (.str t) j q3] [] q4) (ksEnv qual iS0 L fI (.ref cda) cc) = (do
      let ov ← attributeBase (.Call (.Name "super" q0) [] [] q1) "__init__" (ksEnv qual iS0 L fI (.ref cda) cc) (eval (.Call (.Name "super" q0) [] [] q1) (ksEnv qual iS0 L fI (.ref cda) cc))
      standAt q2.atName
      let (fu, first) ← holding [ov] (getMethod ov "__init__" pl)
      callWith q4 fu first (backTo q4 (starEach [.Constant (.str t) j q3] (ksEnv qual iS0 L fI (.ref cda) cc))) [])) ∧
    K.lookup fI = some ⟨oc, od, .func fd, osl⟩ ∧ fd = ksFn "__init__" qual (iA0 p1) (iB0 t j q0 q1 q2 q3 q4 q5) iS0 dV kV doc pm an (.ref cda) ct cc ∧ codeIn K (.ref cda) qual = true ∧ (∀ (s : Shared) (a : Value), BindsTo s fd ⟨[a], []⟩ [("self", a)]) ∧
    K.lookup cda = some ⟨ccl, cdd, .fields vs, ccs⟩ ∧ vs[2]? = some (.str file tf) ∧ PrOk P file ∧ K.lookup cc = some ⟨cl, cld, .cell (some (.ref C)), csl⟩
structure OwnMade0 (h h' : Heap) (e C : Addr) : Prop where
  keep : ∀ b o, h.get? b = some o → h'.get? b = some o
  new : h.objs.size ≤ e
  obj : ∃ oe vs, h'.get? e = some oe ∧ oe.cls = .ref C ∧ oe.dict = none ∧ oe.data = .fields vs ∧ vs[1]? = some .none
section
variable {P : Program} {w : World} {A : Around} {E : Value → Shared → Prop} {R : Result → Shared → Prop} {s : Shared} {K : Frag} {mg mb : Str → Option Value} {C fI : Addr} {x0 : Str}
end
end ErrX
end PySem
namespace L2
open PySem PySem.Spec PyProof.Rows
section
variable {X : Cx} {C fI : Addr} {x : Str}
end
end L2
set_option Elab.async false
set_option maxRecDepth 100000
set_option autoImplicit false
set_option linter.unusedVariables false
set_option maxHeartbeats 4000000
namespace L2
open PySem PySem.Spec PyProof.Rows
section
variable {X : Cx}
end
end L2
namespace DL
open PySem L2 PySem.Spec PyProof.Rows PySem.ErrX PySem.W
variable [TAB : TabList]
variable [EFF : Eff]
set_option linter.unusedSectionVars false
section
variable {X : Cx} {W : WX} {es : List Expr} {pos : Pos} {fa : Env → M AR}
end
section
variable {X : Cx} {W : WX}
end
section
variable {X : Cx} {W : WX}
end
section
variable {X : Cx} {a : Addr} {oe : Obj} {c c' : Nat} {C C' : Addr} {d : Option Addr} {pn : List (Addr × Obj)} {x : Str} {e : Expr} {f : Env → M D} {p p2 pos : Pos}
end
structure ErrText0 (st : Stmt) : Prop where
  ex : ∃ (t : Str) (j : Nat) (p1 q0 q1 q2 q3 q4 q5 : Pos), defArgs st = iA0 p1 ∧ defBody st = iB0 t j q0 q1 q2 q3 q4 q5 ∧ defScope st = iS0 ∧
    (∀ (qual : Str) (L fI cda cc : Addr), ∃ pl : Sem Bool, eval (.Call (.Attribute (.Call (.Name "super" q0) [] [] q1) "__init__" q2) [.Constant (.str t) j q3] [] q4) (ksEnv qual iS0 L fI (.ref cda) cc) = (do
      let ov ← attributeBase (.Call (.Name "super" q0) [] [] q1) "__init__" (ksEnv qual iS0 L fI (.ref cda) cc) (eval (.Call (.Name "super" q0) [] [] q1) (ksEnv qual iS0 L fI (.ref cda) cc))
      standAt q2.atName
      let (fu, first) ← holding [ov] (getMethod ov "__init__" pl)
      callWith q4 fu first (backTo q4 (starEach [.Constant (.str t) j q3] (ksEnv qual iS0 L fI (.ref cda) cc))) []))
structure ErrAt0 (P : Program) (K : PySem.W.Frag) (mg : Str → Option Value) (c : Nat) (C fI : Addr) : Prop where
  at_ : ErrC K c C
  tx : ErrTxt0 P K mg (errName c) C fI
  ic : PySem.W.isClsIn K C = true
theorem ErrAt0.uniq {P : Program} {K : PySem.W.Frag} {mg : Str → Option Value} {c : Nat} {C C2 fI : Addr} (h : ErrAt0 P K mg c C fI) (h2 : ErrC K c C2) : C2 = C := by
  have := h.at_.symm.trans h2
  cases this
  rfl
end DL
set_option Elab.async false
set_option maxRecDepth 100000
set_option autoImplicit false
set_option linter.unusedVariables false
set_option maxHeartbeats 4000000
namespace DL
open PySem L2 PySem.Spec PyProof.Rows
variable [TAB : TabList]
variable [EFF : Eff]
set_option linter.unusedSectionVars false
section
variable {X : Cx} {W : WX} {pos : Pos}
end
end DL
set_option Elab.async false
set_option maxRecDepth 100000
set_option autoImplicit false
set_option linter.unusedVariables false
set_option maxHeartbeats 4000000
namespace DL
open PySem L2 PySem.Spec PyProof.Rows
variable [TAB : TabList]
variable [EFF : Eff]
set_option linter.unusedSectionVars false
section
variable {X : Cx} {a b e : Expr} {pos p p2 : Pos} {c : Nat} {C g : Addr} {k : Nat} {fd : FuncData} {ps : List Str} {f h : Env → M D} {fa : Env → M (List D)} {R : List D → M D}
end
end DL
set_option Elab.async false
set_option maxRecDepth 100000
set_option autoImplicit false
set_option linter.unusedVariables false
set_option maxHeartbeats 4000000
namespace DL
open PySem L2 PySem.Spec PyProof.Rows
variable [TAB : TabList]
variable [EFF : Eff]
set_option linter.unusedSectionVars false
section
variable {X : Cx} {a b e : Expr} {pos p p2 : Pos} {c : Nat} {C g : Addr} {k : Nat} {fd : FuncData} {ps : List Str} {f h : Env → M D} {fa : Env → M (List D)} {R : List D → M D}
theorem IsiAt.first {K : PySem.W.Frag} {C : Addr} (I : IsiAt K C) {t : String} (h : t ∈ tys) : PySem.W.notFirst K C (.type t) = true := by
  have sub : PySem.W.subIn K (.type t) (.ref C) = some false := by
    simp only [tys, List.mem_cons, List.not_mem_nil, or_false] at h
    rcases h with rfl | rfl | rfl | rfl | rfl | rfl | rfl
    · exact I.k0
    · exact I.k1
    · exact I.k2
    · exact I.k3
    · exact I.k4
    · exact I.k5
    · exact I.k6
  unfold PySem.W.notFirst
  rw [sub]
  simp
end
end DL
set_option Elab.async false
set_option maxRecDepth 100000
set_option autoImplicit false
set_option linter.unusedVariables false
set_option maxHeartbeats 4000000
namespace DL
open PySem L2 PySem.Spec PyProof.Rows
variable [TAB : TabList]
variable [EFF : Eff]
set_option linter.unusedSectionVars false
section
variable {X : Cx} {x n : Str} {cw : Value} {i : Nat} {body suite : List Stmt} {b₀ : Stmt} {np pos pos' : Pos} {cs : List Nat} {Fb : Env2 → M OutE} {Fh : Addr → Option Addr → Nat → Env2 → M Out}
end
end DL
set_option Elab.async false
set_option maxRecDepth 100000
set_option autoImplicit false
set_option linter.unusedVariables false
set_option maxHeartbeats 4000000
namespace DL
open PySem L2 PySem.Spec PyProof.Rows
variable [TAB : TabList]
variable [EFF : Eff]
set_option linter.unusedSectionVars false
section
variable {X : Cx} {W : WX} {es : List Expr} {pos : Pos} {fa : Env → M AR}
end
section
variable {X : Cx} {W : WX} {o i e : Expr} {fo fi f : Env → M D} {pos p3 : Pos}
end
section
variable {X : Cx} {W : WX} {a b : Expr} {pos : Pos} {c : Nat} {C g : Addr} {k : Nat} {fd : FuncData} {ps : List Str} {f h : Env → M ER} {R : List D → M D}
end
section
variable {X : Cx} {W : WX} {a b c0 : Expr} {pos : Pos} {c : Nat} {C g : Addr} {k : Nat} {fd : FuncData} {ps : List Str} {f h : Env → M ER} {R : List D → M D} {r : R2} {hh : D → D → M D} {op : CmpOp}
end
end DL
set_option Elab.async false
set_option maxRecDepth 100000
set_option autoImplicit false
set_option linter.unusedVariables false
set_option maxHeartbeats 4000000
namespace DL
open PySem L2 PySem.Spec PyProof.Rows
variable [TAB : TabList]
variable [EFF : Eff]
set_option linter.unusedSectionVars false
section
variable {X : Cx} {CX : CXT} {C g : Addr} {n : Nat} {sp : Sp} {E : XK}
end
section
variable {X : Cx} {a b : Expr} {pos : Pos} {c : Nat} {C g : Addr} {k : Nat} {fd : FuncData} {ps : List Str} {f h : Env → M D} {R : List D → M D}
end
end DL
set_option Elab.async false
set_option maxRecDepth 100000
set_option autoImplicit false
set_option linter.unusedVariables false
set_option maxHeartbeats 4000000
namespace DL
open PySem L2 PySem.Spec PyProof.Rows
variable [TAB : TabList]
variable [EFF : Eff]
set_option linter.unusedSectionVars false
end DL
set_option Elab.async false
set_option maxRecDepth 100000
set_option autoImplicit false
set_option linter.unusedVariables false
set_option maxHeartbeats 4000000
namespace DL
open PySem L2 PySem.Spec PyProof.Rows
variable [TAB : TabList]
variable [EFF : Eff]
set_option linter.unusedSectionVars false
def dropVs {α : Type} (ks : List L2.Key) (xs : List α) (k : L2.Key) : List α := ((ks.zip xs).filter fun p => decide (p.1 ≠ k)).map Prod.snd
theorem dropVs_pos {α : Type} {a k : L2.Key} (h : a ≠ k) (ks : List L2.Key) (x : α) (xs : List α) : dropVs (a :: ks) (x :: xs) k = x :: dropVs ks xs k := by
  unfold dropVs
  rw [List.zip_cons_cons, List.filter_cons_of_pos (by simpa using h)]
  rfl
theorem dropVs_neg {α : Type} {a k : L2.Key} (h : a = k) (ks : List L2.Key) (x : α) (xs : List α) : dropVs (a :: ks) (x :: xs) k = dropVs ks xs k := by
  unfold dropVs
  rw [List.zip_cons_cons, List.filter_cons_of_neg (by simpa using h)]
theorem OwL.dropVs {K : PySem.W.Frag} {G H : Hp} (k : L2.Key) : ∀ {ks : List L2.Key} {vs : List V} {os : List O} {fp : List Addr}, ks.length = vs.length → OwL K G H vs os fp → ∃ fq, OwL K G H (DL.dropVs ks vs k) (DL.dropVs ks os k) fq ∧ fq.Sublist fp
  | [], [], os, fp, _, r => by
    cases r
    exact ⟨[], .nil, List.Sublist.refl _⟩
  | a :: ks, v :: vs, os, fp, h, r => by
    cases r with
    | @cons v1 vs1 x1 xs1 f1 f2 r1 r2 =>
      obtain ⟨fq, h1, h2⟩ := OwL.dropVs k (Nat.succ.inj h) r2
      by_cases e : a = k
      · rw [dropVs_neg e, dropVs_neg e]
        exact ⟨fq, h1, h2.trans (List.sublist_append_right _ _)⟩
      · rw [dropVs_pos e, dropVs_pos e]
        exact ⟨f1 ++ fq, .cons r1 h1, List.Sublist.append (List.Sublist.refl _) h2⟩
section
variable {X : Cx} {a e o : Expr} {es : List Expr} {pos apos : Pos} {c : Nat} {C g p : Addr} {m : Str} {k n : Nat} {fd : FuncData} {ps : List Str} {f : DL.Env → M D} {fa : DL.Env → M (List D)} {R : List D → M D}
end
end DL
set_option Elab.async false
set_option maxRecDepth 100000
set_option autoImplicit false
set_option linter.unusedVariables false
set_option maxHeartbeats 4000000
namespace DL
open PySem L2 PySem.Spec PyProof.Rows
variable [TAB : TabList]
variable [EFF : Eff]
set_option linter.unusedSectionVars false
section
variable {prog : Program} {w : World} {A : Around} {E : Value → Shared → Prop} {s : Shared} {l : Addr} {xs : Array (Int × Tok)}
end
section
variable {prog : Program} {w : World} {A : Around} {E : Value → Shared → Prop} {s : Shared} {l : Addr} {its : List Value} {ns : List Int} {Q : Value → Shared → Prop}
end
section
variable {X : Cx}
end
end DL
set_option Elab.async false
set_option maxRecDepth 100000
set_option autoImplicit false
set_option linter.unusedVariables false
set_option maxHeartbeats 4000000
namespace DL
open PySem L2 PySem.Spec PyProof.Rows
variable [TAB : TabList]
variable [EFF : Eff]
set_option linter.unusedSectionVars false
section
variable {X : Cx} {e : Expr} {pos : Pos} {f : DL.Env → M D} {c k : Nat} {C g : Addr} {fld : Str} {fd : FuncData} {ps : List Str} {Fl : List D → M (List D)}
end
end DL
set_option Elab.async false
set_option maxRecDepth 100000
set_option autoImplicit false
set_option linter.unusedVariables false
set_option maxHeartbeats 4000000
namespace DL
open PySem L2 PySem.Spec PyProof.Rows
variable [TAB : TabList]
variable [EFF : Eff]
set_option linter.unusedSectionVars false
def lamCE (prog : Program) (w : World) (K : PySem.W.Frag) (mg : Str → Option Value) (base : Heap) (A : Around) (outer : List PySem.Env) (s : Shared) (H : Hp) (l : LamI) (N : List Str) (f c : Addr) (cl : List (Str × Addr)) (E : XK) : Cx where
  prog := prog
  w := w
  K := K
  mg := mg
  base := base
  A := A.deeper (PySem.W.envX l.qual l.scope s.heap.objs.size f (.ref c) cl)
  N := N
  s_0 := s
  H_0 := H
  env := PySem.W.envX l.qual l.scope s.heap.objs.size f (.ref c) cl
  outer := outer
  stack := PySem.W.envX l.qual l.scope s.heap.objs.size f (.ref c) cl :: outer
  ex := []
  fn := fun _ => false
  calm := true
  pn := []
  xe := fun e s1 => wpAny (model prog w) (A.deeper (PySem.W.envX l.qual l.scope s.heap.objs.size f (.ref c) cl)) (leaving (PySem.W.envX l.qual l.scope s.heap.objs.size f (.ref c) cl) e) (fun _ s2 => L2.CX prog w outer H s E e s2) (fun e' s2 => L2.CX prog w outer H s E e' s2) s1
structure LamOk0 (P : Program) (w : World) (K : PySem.W.Frag) (mg : Str → Option Value) (base : Heap) (k : Nat) (l : LamI) (Fl : Env → M ER) : Prop where
  kind : l.scope.kind = .function
  co : l.scope.isCoroutine = false
  gen : l.scope.isGenerator = false
  nm : ∀ y ∈ l.scope.names, y.2 ≠ .cell ∧ (y.2 = .free → y.1 ∈ l.frees)
  fre : ∀ y ∈ l.frees, l.scope.names.lookup y = some .free
  bind : ∀ (cl : List (Str × Addr)) (pm c ctv : Value), bindArgs (PySem.W.kla_fn "<lambda>" l.qual l.params l.body l.scope cl pm c ctv) ⟨[], []⟩ = pure []
  body : ∀ (A : Around) (outer : List PySem.Env) (s : Shared) (H : Hp) (f c : Addr) (cl : List (Str × Addr)) (E : XK) (W : WX), Room k (A.deeper (PySem.W.envX l.qual l.scope s.heap.objs.size f (.ref c) cl)) → Takes (lamCE P w K mg base A outer s H l l.frees f c cl E) W → DEE (lamCE P w K mg base A outer s H l l.frees f c cl E) W l.body Fl
section
variable {P : Program} {w : World} {K : PySem.W.Frag} {mg : Str → Option Value} {base : Heap} {k : Nat} {l : LamI} {Fl : Env → M ER} {A : Around} {outer : List PySem.Env} {s : Shared} {H : Hp} {f c : Addr} {cl : List (Str × Addr)} {vsc : List V}
end
end DL
set_option Elab.async false
set_option maxRecDepth 100000
set_option autoImplicit false
set_option linter.unusedVariables false
set_option maxHeartbeats 4000000
namespace DL
open PySem L2 PySem.Spec PyProof.Rows
variable [TAB : TabList]
variable [EFF : Eff]
set_option linter.unusedSectionVars false
section
variable {X : Cx} {W : WX} {k : Nat} {LT : List (LamI × (Env → M ER))} {x : Str} {p pos : Pos}
end
section
variable {P : Program} {w : World} {K : PySem.W.Frag} {mg : Str → Option Value} {base : Heap} {k j : Nat} {l : LamI} {Fl : Env → M ER} {LT : List (LamI × (Env → M ER))}
theorem LamOk0.mono (L : LamOk0 P w K mg base k l Fl) (h : k ≤ j) : LamOk0 P w K mg base j l Fl := ⟨L.kind, L.co, L.gen, L.nm, L.fre, L.bind, fun A outer s H f c cl E W hr tk => L.body A outer s H f c cl E W (hr.mono h) tk⟩
end
end DL
set_option Elab.async false
set_option maxRecDepth 100000
set_option autoImplicit false
set_option linter.unusedVariables false
set_option maxHeartbeats 4000000
namespace DL
open PySem L2 PySem.Spec PyProof.Rows
variable [TAB : TabList]
variable [EFF : Eff]
set_option linter.unusedSectionVars false
section
variable {X : Cx} {CX : CXT} {k : Nat} {f C : Addr} {fd : FuncData} {ps : List Str} {sp : Sp} {E : L2.St → XK} {x : Str} {p pos : Pos} {e : Expr} {es : List Expr} {t : TA} {ds : List Value} {dvs : List V}
end
inductive IR where
  | ok (fs : List D) | ex (c : Nat) (fs : List D)
section
variable {X : Cx} {W : WX} {c : Nat} {C : Addr} {e o : Expr} {es : List Expr} {fa : Env → M (List D)} {p pos : Pos} {x : Str} {k : Nat} {g : Addr} {fd : FuncData} {ps : List Str} {n : Nat} {Fi : List D → M IR}
end
end DL
set_option Elab.async false
set_option maxRecDepth 100000
set_option autoImplicit false
set_option linter.unusedVariables false
set_option maxHeartbeats 4000000
namespace DL
open PySem L2 PySem.Spec PyProof.Rows PySem.W
variable [TAB : TabList] [EFF : Eff]
set_option linter.unusedSectionVars false
def cDT (k : Nat) : M (List (List Key) × List D) := M.bind (celG k) fun c => match c with
  | .dT ks xs => M.ret (ks, xs)
  | _ => M.fail
theorem cDT_some {k : Nat} {b b' : Bs} {z : List (List Key) × List D} (h : cDT k b = some (z, b')) : ∃ g, b = some g ∧ b' = some g ∧ g.st[k]? = some (.dT z.1 z.2) := by
  obtain ⟨c, b1, h1, h2⟩ := M.bind_some h
  obtain ⟨g, rfl, rfl, hc⟩ := celG_some h1
  cases c with
  | dT ks ys => cases h2; exact ⟨g, rfl, rfl, hc⟩
  | _ => cases h2
theorem BagOk.dTC {K : PySem.W.Frag} (hK : TAB.K = some K) {G H : Hp} {b b' : Bs} {v : V} {k : Nat} {z : List (List Key) × List D} (ob : BagOk G H b) (r : Rp K G v (.cel k)) (h : cDT k b = some (z, b')) : ∃ g a vs, b = some g ∧ b' = some g ∧ v = .ref a ∧ G a = some (ghost k) ∧ H a = some (.dT (z.1.zip vs)) ∧ z.1.length = vs.length ∧ RpL K G vs z.2 ∧ nocL z.2 = true := by
  obtain ⟨g, rfl, rfl, hc⟩ := cDT_some h
  obtain ⟨a, rfl, ha⟩ := r.cel_at
  obtain ⟨K2, vs, k1, nc, p, l, rl⟩ := ob.cell ha hc
  rw [hK] at k1
  cases k1
  exact ⟨g, a, vs, rfl, rfl, rfl, ha, p, l, rl, nc⟩
section
variable {X : Cx} {W : WX} {pos : Pos}
def newDTC : Env → M ER := fun _ => M.bind (celN (.dT [] [])) fun k => M.ret (.ok (.cel k))
theorem ee_newDT (hE : EFF.x = true) (hK : TAB.K = some X.K) {p2 : Pos} : DEE X W (.Dict [] [] p2) newDTC := by
  refine PEimp pe_dnewT ?_
  rintro σ H Q ⟨ρ, G, b, r, b', rs, fz, ob, e, q⟩
  obtain ⟨k, b2, e2, e⟩ := M.bind_some e
  obtain ⟨g, rfl, rfl, rfl⟩ := celN_some e2
  cases e
  intro p hp
  have n : Nxt G H (some g) G (upd H p (.dT [])) (some g) := Nxt.newH fz ob hp
  exact q _ _ _ (n.upB.newC hE ob hp (gnone fz hp) (by rw [upd_same]; exact fun z => nomatch z) ⟨X.K, [], hK, rfl, upd_same, rfl, .nil⟩) (.cel upd_same)
def tInTC (neg : Bool) (fa : Env → M (List D)) (g : Env → M D) : Env → M Bool := fun ρ => M.bind (fa ρ) fun xs => M.guard (szL xs) (M.bind (g ρ) fun y => M.bind (celK y) fun k => M.bind (cDT k) fun z => inTK neg (keysD xs) (.dcT z.1 z.2))
theorem t_notInTX (hK : TAB.K = some X.K) {e0 b : Expr} {pp p2 pos : Pos} {fe g : DL.Env → M D} (hu : X.A.units + 64 < cLine) (hgt : Gl X "tuple") (hmt : X.mg "tuple" = none) (ha : DE X e0 fe) (hb : DE X b g) (hm : behindInMarks .NotIn b = false := by rfl) (hes : starEach [e0] X.env = (false, eval e0 X.env) :: starEach [] X.env := by rfl) : DT X (.Compare (.Call (.Name "tuple" pp) [e0] [] p2) [.NotIn] [b] pos) (tInTC true (asLF fe) g) := by
  refine PTimp (pt_cmp (pc_dnotin (by omega) (pe_tupC hgt hmt ha hes) hb) hm) ?_
  rintro σ H Q ⟨ρ, G, b, d, b', rs, fz, ob, e, q⟩
  obtain ⟨xs, b1, e1, e2⟩ := M.bind_some e
  obtain ⟨hz, e2⟩ := M.guard_some e2
  obtain ⟨y, b2, e2, e3⟩ := M.bind_some e2
  obtain ⟨k, b3, e4, e5⟩ := M.bind_some e3
  obtain ⟨rfl, rfl⟩ := celK_some e4
  obtain ⟨z, b4, e6, e7⟩ := M.bind_some e5
  refine ⟨ρ, G, b, xs, b1, rs, fz, ob, e1, fun vs G1 H1 n1 r1 => ⟨by rw [r1.length]; exact of_decide_eq_true hz, fun p hp => ?_⟩⟩
  have m := Nxt.newF (o := .tup vs) n1.fz n1.bag hp
  refine ⟨ρ, _, b1, .cel k, b3, (rs.mono n1.gg).mono m.gg, m.fz, m.bag, e2, fun x G2 H2 n2 r2 => ?_⟩
  obtain ⟨g3, a, us, rfl, rfl, rfl, hga, hHa, hl, rl, nc⟩ := n2.bag.dTC hK r2 e6
  cases ek : keysD xs with
  | none => rw [ek] at e7; cases e7
  | some kk =>
    rw [ek] at e7
    cases e7
    have hk := keysD_of r1 ek
    refine ⟨a, _, rfl, .inr ⟨_, kk, p, .inl hHa, rfl, ?_, rfl⟩, _, rfl, ?_⟩
    · rw [n2.fz p _ (n2.gg p _ upd_same), hk]
    · obtain ⟨k1, k2⟩ := RpL.getK kk (ks := z.1) rl
      rw [valV_zip]
      have es : (getK z.1 us kk).isSome = (getK z.1 z.2 kk).isSome := by
        cases ed : getK z.1 z.2 kk with
        | none => rw [k2 ed]; rfl
        | some z => obtain ⟨u, h1, _⟩ := k1 z ed; rw [h1]; rfl
      rw [es]
      exact q G2 H2 ((n1.trans m).trans n2)
theorem nocL_repK {k : List Key} {d : D} (hd : d.noc = true) : ∀ {ks : List (List Key)} {ds : List D}, nocL ds = true → nocL (repK ks ds k d) = true
  | [], _, _ => rfl
  | _ :: _, [], _ => rfl
  | a :: ks, x :: ds, h => by
    have h : (x.noc && nocL ds) = true := h
    rw [Bool.and_eq_true] at h
    show ((if a = k then d else x).noc && nocL (repK ks ds k d)) = true
    rw [nocL_repK hd h.2]
    by_cases e : a = k
    · rw [if_pos e, hd]; rfl
    · rw [if_neg e, h.1]; rfl
theorem nocL_setVs {ks : List (List Key)} {ds : List D} {k : List Key} {d : D} (h : nocL ds = true) (hd : d.noc = true) : nocL (setVs ks ds k d) = true := by
  unfold setVs
  by_cases e : k ∈ ks
  · rw [if_pos e]
    exact nocL_repK hd h
  · rw [if_neg e, nocL_app, h, show nocL [d] = (d.noc && true) from rfl, hd]
    rfl
def tputXK (k : Nat) (z : List (List Key) × List D) (d : D) : Option (List Key) → M Unit
  | some kk => M.guard (decide (z.1.length < sizeLine) && d.noc) (celS k (.dT (setKs z.1 kk) (setVs z.1 z.2 kk d)))
  | none => M.fail
def sxTput (ms : List Nat) (fo : Env → M D) (fk : Env → M (List D)) (fv : Env → M D) (ρ : Env2) : M OutE := M.bind (fv (view ms ρ)) fun d => M.bind (fo (view ms ρ)) fun x => M.bind (fk (view ms ρ)) fun ys => M.guard (szL ys) (M.bind (celK x) fun k => M.bind (cDT k) fun z => M.bind (tputXK k z d (keysD ys)) fun _ => M.ret (.o (.nx (frz ms ρ))))
theorem sx_tputX (ms : List Nat) (hE : EFF.x = true) (hK : TAB.K = some X.K) {o e0 e : Expr} {pp : Pos} {fo fv : DL.Env → M D} {fe : DL.Env → M D} {pos' p2 : Pos} (hu : X.A.units + 64 < cLine) (hgt : Gl X "tuple") (hmt : X.mg "tuple" = none) (ho : DE X o fo) (hi : DE X e0 fe) (he : DE X e fv) (hes : starEach [e0] X.env = (false, eval e0 X.env) :: starEach [] X.env := by rfl)
    (hs : swapsWith e (some (.Subscript o (.Call (.Name "tuple" pp) [e0] [] p2) pos')) pos.line X.env = pure false := by rfl) :
    DSE X W (.Assign [.Subscript o (.Call (.Name "tuple" pp) [e0] [] p2) pos'] e pos) (sxTput ms fo (asLF fe) fv) := by
  refine PSimp (ps_dput (by omega) ho (pe_tupC hgt hmt hi hes) he hs) ?_
  rintro D σ H ⟨E, ρ, G, b, o, b', I, e, q⟩
  obtain ⟨d, b1, e1, e2⟩ := M.bind_some e
  refine ⟨_, _, b, d, b1, I.rs ms, I.gp2 ms, I.gpb ms, e1, fun v G1 H1 n1 r => ?_⟩
  obtain ⟨x, b2, e3, e4⟩ := M.bind_some e2
  refine ⟨_, G1, b1, x, b2, (I.rs ms).mono n1.gg, n1.fz, n1.bag, e3, fun ov G2 H2 n2 ro => ?_⟩
  obtain ⟨ys, b3, e5, e6⟩ := M.bind_some e4
  obtain ⟨hsz, e6⟩ := M.guard_some e6
  refine ⟨_, G2, b2, ys, b3, ((I.rs ms).mono n1.gg).mono n2.gg, n2.fz, n2.bag, e5, fun vs3 G3 H3 n3 r3 => ⟨by rw [r3.length]; exact of_decide_eq_true hsz, fun pt hpt => ?_⟩⟩
  have m := Nxt.newF (o := .tup vs3) n3.fz n3.bag hpt
  obtain ⟨k, b4, e7, e8⟩ := M.bind_some e6
  obtain ⟨rfl, rfl⟩ := celK_some e7
  obtain ⟨z, b5, e9, e10⟩ := M.bind_some e8
  obtain ⟨u, b6, e11, e12⟩ := M.bind_some e10
  obtain ⟨g3, a, us, rfl, rfl, rfl, hga, hHa, hl, rl, nc⟩ := m.bag.dTC hK ((ro.mono n3.gg).mono m.gg) e9
  cases ek : keysD ys with
  | none => rw [ek] at e11; cases e11
  | some kk =>
    rw [ek] at e11
    obtain ⟨hz, e13⟩ := M.guard_some e11
    rw [Bool.and_eq_true] at hz
    obtain ⟨g4, hg, _, rfl⟩ := celS_some e13
    cases hg
    cases e12
    have hky := keysD_of r3 ek
    refine ⟨a, _, rfl, .inr ⟨_, kk, pt, hHa, rfl, by rw [upd_same, hky], ?_, rfl⟩, ?_⟩
    · rw [List.length_zip, ← hl, Nat.min_self]
      exact of_decide_eq_true hz.1
    · rw [putK_zip z.1 us kk v hl]
      exact q _ _ _ (I.frzB ((((n1.trans n2).trans n3).trans m).upB.trans (NxtB.setC hE m.fz m.bag hga ⟨X.K, setVs z.1 us kk v, hK, nocL_setVs nc hz.2, upd_same, setK_len z.1 us kk v hl, RpL.setVs (((r.mono n2.gg).mono n3.gg).mono m.gg) rl⟩)))
end
def whileXK (next : Env2 → M OutE) : OutE → M OutE
  | .o (.nx ρ) => next ρ
  | .o (.ct ρ) => next ρ
  | .o (.bk ρ) => M.ret (.o (.nx ρ))
  | o => M.ret o
def whileX (ms : List Nat) (t : Env → M Bool) (body : Env2 → M OutE) : Nat → Env2 → M OutE
  | 0, _ => M.fail
  | n + 1, ρ => M.bind (t (view ms ρ)) fun k => if k = true then M.bind (body ρ) (whileXK (whileX ms t body n)) else M.ret (.o (.nx ρ))
section
variable {X : Cx} {W : WX} {pos : Pos} {Fb : Env2 → M OutE}
theorem sx_while (fuel : Nat) (ms : List Nat) {c : Expr} {body : List Stmt} {t : Env → M Bool} (hp : PassesOwn (model X.prog X.w) X.A X.env X.xe) (hc : DT X c t) (hb : DSsE X W body Fb) : DSE X W (.While c body [] pos) (whileX ms t Fb fuel) := by
  refine PSimp (ps_while hp hc hb) ?_
  rintro D σ H ⟨E, ρ, G, b, o, b', I, e, q⟩
  refine ⟨fun m σ H => ∃ ρ G b, SI X.K E σ ρ G H b ∧ whileX ms t Fb m ρ b = some (o, b'), ⟨fuel, ρ, G, b, I, e⟩, ?_⟩
  rintro m σ2 H2 ⟨ρ2, G2, b2, I2, e2⟩
  cases m with
  | zero => cases e2
  | succ m =>
    unfold whileX at e2
    obtain ⟨k, b1, e1, e3⟩ := M.bind_some e2
    refine ⟨_, _, b2, k, b1, I2.rs ms, I2.gp2 ms, I2.gpb ms, e1, fun G1 H1 n1 => ?_⟩
    have I1 := I2.flat n1
    cases k with
    | false => cases e3; exact iteF (q σ2 _ _ I1)
    | true =>
      refine iteT ?_
      obtain ⟨o1, b3, e4, e5⟩ := M.bind_some e3
      refine ⟨fun σ3 H3 => ∃ ρ G b, SI X.K E σ3 ρ G H3 b ∧ whileX ms t Fb m ρ b = some (o, b'), fun σ' H' h' => ⟨m, Nat.lt_succ_self _, h'⟩, E, ρ2, G2, b1, o1, b3, I1, e4, ?_⟩
      cases o1 with
      | ex c fs ρ' => cases e5; exact q
      | o o1 =>
        cases o1 with
        | nx ρ' => exact fun σ' G' H' I' => ⟨ρ', G', b3, I', e5⟩
        | ct ρ' => exact fun σ' G' H' I' => ⟨ρ', G', b3, I', e5⟩
        | bk ρ' => cases e5; exact q
        | rt d => cases e5; exact q
        | rn ys => cases e5; exact q
end
theorem q_newDTC (ρ : Env) : newDTC ρ = bnd (celN (.dT [] [])) fun k => M.ret (.ok (.cel k)) := rfl
theorem q_tInTC (neg : Bool) (fa : Env → M (List D)) (g : Env → M D) (ρ : Env) : tInTC neg fa g ρ = bnd (fa ρ) fun xs => M.guard (szL xs) (bnd (g ρ) fun y => bnd (celK y) fun k => bnd (cDT k) fun z => inTK neg (keysD xs) (.dcT z.1 z.2)) := rfl
theorem q_sxTput (ms : List Nat) (fo : Env → M D) (fk : Env → M (List D)) (fv : Env → M D) (ρ2 : Env2) : sxTput ms fo fk fv ρ2 = bnd (fv (view ms ρ2)) fun d => bnd (fo (view ms ρ2)) fun x => bnd (fk (view ms ρ2)) fun ys => M.guard (szL ys) (bnd (celK x) fun k => bnd (cDT k) fun z => bnd (tputXK k z d (keysD ys)) fun _ => M.ret (.o (.nx (frz ms ρ2)))) := rfl
theorem q_whileX (ms : List Nat) (t : Env → M Bool) (body : Env2 → M OutE) (n : Nat) (ρ2 : Env2) : whileX ms t body (n + 1) ρ2 = bnd (t (view ms ρ2)) fun k => cnd k (bnd (body ρ2) (whileXK (whileX ms t body n))) (M.ret (.o (.nx ρ2))) := by
  show M.bind _ _ = M.bind _ _
  congr 1
theorem q_whileXK_nx (next : Env2 → M OutE) (ρ : Env2) : whileXK next (.o (.nx ρ)) = next ρ := rfl
end DL
set_option Elab.async false
set_option maxRecDepth 100000
set_option autoImplicit false
set_option linter.unusedVariables false
set_option maxHeartbeats 4000000
noncomputable section
namespace DL
open PySem L2 PySem.Spec PyProof.Rows
variable [TAB : TabList]
variable [EFF : Eff]
set_option linter.unusedSectionVars false
theorem meets_dict_eq0 {prog : Program} {w : World} {K : Type} [DecidableEq K] (knd : KeyKind prog w K) (a b : Addr) (ha : (a == sysModules) = false) (hb : (b == sysModules) = false) :
    MeetsIn prog w (Builtin.«dict.__eq__» ⟨[.ref a, .ref b], []⟩) (fun _ R s => ∃ kvs, s.heap.DictOf knd a kvs ∧ s.heap.DictOf knd b [] ∧ R (.ok (.ret (.bool kvs.isEmpty))) s) :=
  .of_wp fun A R s ⟨kvs, hma, hmb, h⟩ => by
    have ta := hma.typeIs
    have tb := hmb.typeIs
    obtain ⟨o, es, ep, ho, hc, hdat, hk, hp, hn⟩ := hma
    obtain ⟨o', es', ep', ho', hc', hdat', hk', hp', hn'⟩ := hmb
    have l1 : es.size = kvs.length := by rw [← hp.length]; simp
    have l2 : es'.size = 0 := by have := hp'.length; simpa using this
    unfold Builtin.«dict.__eq__»
    show wpAny _ _ (Builtin.Dict.dictSlotArgs "__eq__" ⟨[.ref a, .ref b], []⟩ >>= _) _ _ s
    refine wpAny_bind ?_
    unfold Builtin.Dict.dictSlotArgs
    refine wpAny_bind (wpAny_notOrdered_dict ta ?_)
    show wpAny _ _ (pure (Value.ref a, Value.ref b)) _ _ s
    refine wpAny_pure ?_
    show wpAny _ _ (isInstance (.ref b) (.type "dict") >>= _) _ _ s
    refine wpAny_bind (wpAny_isInstance tb isSubtype_dict_dict ?_)
    simp only [Bool.not_true, Bool.false_eq_true, if_false]
    show wpAny _ _ (Builtin.Dict.samePairs "dict.__eq__" a b >>= _) _ _ s
    refine wpAny_bind ?_
    unfold Builtin.Dict.samePairs Builtin.Dict.showsAll
    rw [ha, hb]
    simp only [Bool.false_eq_true, if_false]
    refine wpAny_bind (wpAny_pure ?_)
    refine wpAny_bind (wpAny_pure ?_)
    refine wpAny_bind (wpAny_dictEntries ho hdat ?_)
    refine wpAny_bind (wpAny_dictEntries ho' hdat' ?_)
    rw [l1, l2]
    cases kvs with
    | nil =>
      simp only [List.length_nil, bne_self_eq_false, Bool.false_eq_true, if_false]
      refine wpAny_bind (wpAny_dictEpoch ho hdat ?_)
      rw [Std.Legacy.Range.forIn_eq_forIn_range']
      refine wpAny_bind (wpAny_pure ?_)
      refine wpAny_pure ?_
      exact wpAny_pure ⟨_, rfl, h⟩
    | cons kv kvs =>
      rw [if_pos (show ((kv :: kvs).length != 0) = true from rfl)]
      refine wpAny_bind (wpAny_rule ?_)
      refine wpAny_pure ?_
      exact wpAny_pure ⟨_, rfl, h⟩
def rEqK0 : R2 := fun x y H Q => ∃ p q kvs, x = V.ref p ∧ y = V.ref q ∧ Rd H p (.dK kvs) ∧ Rd H q (.dK []) ∧ Q (.bl kvs.isEmpty) H
theorem op_eqK0 {X : Cx} (hu : X.A.units < cLine) : OpR X (compareOp .Eq) rEqK0 := by
  rintro pins s σ H x y v u Q I rx ry ⟨p, q, kvs, rfl, rfl, hp, hq, fin⟩
  cases rx
  cases ry
  obtain ⟨z, hd, vs, rel, dd⟩ := dk_rd I.hok hp
  obtain ⟨z', hd', vs', rel', dd'⟩ := dk_rd I.hok hq
  cases rel'
  show wpAny _ _ (richCompare .Eq (.ref p) (.ref q)) _ _ _
  refine wpAny_richCompare_same_room dd.typeIs dd'.typeIs PySem.F.slot_dict_eq (call_meetsIn PySem.F.slot_dict_eq dd.typeIs PySem.F.entry_dict_eq (PySem.F.args_dict_eq_2 _ _) (meets_dict_eq0 _ p q hd hd') ⟨vs, dd, dd', ?_⟩) hu
  exact ⟨by simp, fin_bl I fin (by cases rel <;> rfl)⟩
def eqD0 : D → D → M D
  | .dct ks ds, .dct [] [] => M.ret (.bl ks.isEmpty)
  | _, _ => M.fail
section
variable {X : Cx} {W : WX} {pos : Pos}
theorem snd_eqD0 : SndR X.K rEqK0 eqD0 := by
  intro G H b x y dx dy d b' Q rx ry fz ob e q
  unfold eqD0 at e
  split at e
  · rename_i ks ds
    cases e
    cases rx with
    | @dct p ks vs ds hg hl rl =>
      cases ry with
      | @dct p2 ks2 vs2 ds2 hg2 hl2 rl2 =>
        cases rl2
        refine ⟨p, p2, _, rfl, rfl, SameF.rd fz hg, SameF.rd fz hg2, ?_⟩
        have : (ks.zip vs).isEmpty = ks.isEmpty := by
          cases ks with
          | nil => rfl
          | cons k ks =>
            cases vs with
            | nil => cases hl
            | cons v vs => rfl
        rw [this]
        exact q _ G H (Nxt.refl fz ob) (.bl _)
  · cases e
theorem d_eqD0 {a b : Expr} {f g : DL.Env → M D} (hu : X.A.units + 64 < cLine) (ha : DE X a f) (hb : DE X b g) (hm : behindInMarks .Eq b = false := by rfl) : DE X (.Compare a [.Eq] [b] pos) (fun ρ => M.bind (f ρ) fun x => M.bind (g ρ) fun y => eqD0 x y) := d_cmp (op_eqK0 (by omega)) snd_eqD0 ha hb hm
end
end DL
set_option Elab.async false
set_option maxRecDepth 100000
set_option autoImplicit false
set_option linter.unusedVariables false
set_option maxHeartbeats 4000000
noncomputable section
namespace LW
open PySem L2 PySem.Spec PyProof.Rows DL
local macro_rules | `(tactic| walk_at "ev") => `(tactic| try simp -implicitDefEqProofs only [DL.runD, DL.runN, DL.startD, seqM, setM, setNM, retM, retNM, dropM, ifM, unpM, List.map_cons, List.map_nil, List.length_cons, List.length_nil, Nat.reduceAdd, Nat.reduceSub, List.replicate, List.cons_append, List.nil_append, view_eq, viewAt_cons, viewAt_nil, List.contains_cons, List.contains_nil, Nat.reduceBEq, Bool.or_true, Bool.or_false, Bool.true_or, if_true, Bool.false_eq_true, if_false, Option.map_some, Option.map_none, see_val, see_own, e2, t2, e1, cst, aN, aC, eCall, nCall, eN, nLst, eTup, tVal, tNotM, eAnd, eNot, eIf, iAny, iRg1, iRg2, nLc, oN, oS, eSl, sNil, rd_0, rd_1, rd_2, rd_3, rd_4, rd_5, rd_6, rd_7, rd_8, rd_9, M.ret_bind, M.bind_assoc, flat_int, flat_str, flat_bl, flat_non, flat_bag, flat_lst, flat_tup, keepIf_t, keepIf_f, frz_eq, frzAt_cons, frzAt_nil, List.set_cons_succ, List.set_cons_zero, subD_int, addD_int, negD_int, asI_int, asB_bl, truD_bl, lenF_lst, lenF_tup, intF_int, intF_bl, absF_int, ltD_int, leD_int, gtD_int, geD_int, eqD_int, eqD_str, neD_int, neD_str, inD_str, notInD_str, slD_lst, slD_scr, revD_lst, itemsD_lst, itemsD_tup, itemsD_str, Bool.not_true, Bool.not_false])
def F__law_bag : Env2 → M Out :=
  (retNM [0, 1] (nLst (aC (cst (.int 0)) (aC (cst (.int 1234567891)) (aC (cst (.int 0)) (aC (eN (nLc [1] (iAny (eSl (rdEnv 0) oN (oS (cst (.int 63))))) (bName 1) cT (eCall absF (aC (rdEnv 1) aN)))) aN))))))
def R__law_bag : List D → M (List D) := runN 2 F__law_bag
def F__law_take : Env2 → M Out :=
  (seqM (ifM [0] (t2 (eqD false) (e2 ixD (rdEnv 0) (cst (.int 0))) (cst (.int 0)))
  (seqM (setM 4 [] (cst (.int 0)))
  (seqM (ifM [0] (t2 ltD (e2 ixD (rdEnv 0) (cst (.int 2))) (eCall lenF (aC (e2 ixD (rdEnv 0) (cst (.int 3))) aN)))
  (setM 4 [0] (e2 ixD (e2 ixD (rdEnv 0) (cst (.int 3))) (e2 ixD (rdEnv 0) (cst (.int 2)))))
  sNil)
  (seqM (bagAugM 0 2 [] (cst (.int 1)))
  (seqM (ifM [4] (t2 geD (rdEnv 4) (cst (.int 1000000000000000000)))
  (bagSetM 0 0 [4] (rdEnv 4))
  sNil)
  (seqM (setM 5 [0, 4] (e2 addD (e2 addD (e2 mulD (e2 ixD (rdEnv 0) (cst (.int 1))) (cst (.int 48271))) (e2 modD (eCall intF (aC (rdEnv 4) aN)) (cst (.int 2147483647)))) (e2 mulD (cst (.int 7919)) (e2 ixD (rdEnv 0) (cst (.int 2))))))
  (bagSetM 0 1 [5] (e2 modD (eCall intF (aC (rdEnv 5) aN)) (cst (.int 2147483647)))))))))
  sNil)
  (seqM (ifM [0] (t2 gtD (e2 ixD (rdEnv 0) (cst (.int 0))) (cst (.int 0)))
  (seqM (setM 6 [0, 1] (e2 modD (eCall intF (aC (e2 ixD (rdEnv 0) (cst (.int 0))) aN)) (rdEnv 1)))
  (seqM (bagSetM 0 0 [0, 1] (e2 divD (e2 ixD (rdEnv 0) (cst (.int 0))) (rdEnv 1)))
  (retM [6] (rdEnv 6))))
  sNil)
  (seqM (setM 2 [0] (e2 modD (eCall intF (aC (e2 mulD (e2 addD (e2 ixD (rdEnv 0) (cst (.int 1))) (cst (.int 1))) (cst (.int 39373))) aN)) (cst (.int 1000000007))))
  (seqM (setM 3 [2] (e2 modD (eCall intF (aC (e2 mulD (e2 modD (eCall intF (aC (e2 mulD (rdEnv 2) (rdEnv 2)) aN)) (cst (.int 998244353))) (cst (.int 30011))) aN)) (cst (.int 998244353))))
  (seqM (ifM [1] (t2 gtD (rdEnv 1) (cst (.int 1000000)))
  (retM [1, 2, 3] (e2 modD (eCall intF (aC (e2 addD (e2 mulD (rdEnv 3) (cst (.int 1000000007))) (rdEnv 2)) aN)) (rdEnv 1)))
  sNil)
  (retM [1, 3] (e2 modD (eCall intF (aC (e2 divD (rdEnv 3) (cst (.int 7))) aN)) (rdEnv 1))))))))
def R__law_take : List D → M D := runD 7 F__law_take
theorem bag_made (ns : List Int) (h : ns.length ≤ 63) : ∃ cs : List Int, R__law_bag [.scr ns] none = some ([.int 0, .int 1234567891, .int 0, .lst (cs.map D.int)], none) := by
  refine ⟨ns.map fun n => if n < 0 then -n else n, ?_⟩
  simp only [R__law_bag, F__law_bag]
  walk_at "ev"
  rw [cut_all _ (by simp; omega), compM_mapI (l := fun a => [(1, D.int a)]) (y := fun n => D.int (if n < 0 then -n else n)) (fun a _ => ⟨rfl, rfl, rfl⟩)]
  walk_at "ev"
  rw [szL_ok (by simp; omega)]
  walk_at "ev"
  rw [szL_ok (by simp)]
  simp only [List.map_map]
  rfl
theorem bx0 {α : Type} {p : Addr} {g : Bg} {f : D → M α} (h : g.p = p) : M.bind (ixD (.bag p) (.int 0)) f (some g) = f (.int g.z0) (some g) := by
  subst h
  refine M.bind_eq ?_
  show (if g.p = g.p then _ else none) = _
  rw [if_pos rfl]; rfl
theorem bx1 {α : Type} {p : Addr} {g : Bg} {f : D → M α} (h : g.p = p) : M.bind (ixD (.bag p) (.int 1)) f (some g) = f (.int g.z1) (some g) := by
  subst h
  refine M.bind_eq ?_
  show (if g.p = g.p then _ else none) = _
  rw [if_pos rfl]; rfl
theorem bx2 {α : Type} {p : Addr} {g : Bg} {f : D → M α} (h : g.p = p) : M.bind (ixD (.bag p) (.int 2)) f (some g) = f (.int g.z2) (some g) := by
  subst h
  refine M.bind_eq ?_
  show (if g.p = g.p then _ else none) = _
  rw [if_pos rfl]; rfl
theorem bx3 {α : Type} {p : Addr} {g : Bg} {f : D → M α} (h : g.p = p) : M.bind (ixD (.bag p) (.int 3)) f (some g) = f (.lst (g.cs.map D.int)) (some g) := by
  subst h
  refine M.bind_eq ?_
  show (if g.p = g.p then _ else none) = _
  rw [if_pos rfl]; rfl
theorem bput {p : Addr} {g g' : Bg} {k n : Int} {r : Env2} (h : g.p = p) (e : putB k n g = some g') : bagPut 0 k (.int n) (some (.val (.bag p)) :: r) (some g) = some (.nx (some (.val (.bag p)) :: r), some g') := by
  subst h
  show (if g.p = g.p then _ else none) = _
  rw [if_pos rfl, e]; rfl
def takeTail : Env2 → M Out :=
  (seqM (ifM [0] (t2 gtD (e2 ixD (rdEnv 0) (cst (.int 0))) (cst (.int 0)))
  (seqM (setM 6 [0, 1] (e2 modD (eCall intF (aC (e2 ixD (rdEnv 0) (cst (.int 0))) aN)) (rdEnv 1)))
  (seqM (bagSetM 0 0 [0, 1] (e2 divD (e2 ixD (rdEnv 0) (cst (.int 0))) (rdEnv 1)))
  (retM [6] (rdEnv 6))))
  sNil)
  (seqM (setM 2 [0] (e2 modD (eCall intF (aC (e2 mulD (e2 addD (e2 ixD (rdEnv 0) (cst (.int 1))) (cst (.int 1))) (cst (.int 39373))) aN)) (cst (.int 1000000007))))
  (seqM (setM 3 [2] (e2 modD (eCall intF (aC (e2 mulD (e2 modD (eCall intF (aC (e2 mulD (rdEnv 2) (rdEnv 2)) aN)) (cst (.int 998244353))) (cst (.int 30011))) aN)) (cst (.int 998244353))))
  (seqM (ifM [1] (t2 gtD (rdEnv 1) (cst (.int 1000000)))
  (retM [1, 2, 3] (e2 modD (eCall intF (aC (e2 addD (e2 mulD (rdEnv 3) (cst (.int 1000000007))) (rdEnv 2)) aN)) (rdEnv 1)))
  sNil)
  (retM [1, 3] (e2 modD (eCall intF (aC (e2 divD (rdEnv 3) (cst (.int 7))) aN)) (rdEnv 1)))))))
theorem take_end {p : Addr} {m : Int} (h1 : 1 ≤ m) (h2 : m < 1000000000000000000000000000000) {s4 s5 : Option Slot} (g : Bg) (hg : okB p g) : ∃ d g', (M.bind (takeTail [some (.val (.bag p)), some (.val (.int m)), none, none, s4, s5, none]) fun o => match o with
  | .rt d => M.ret d
  | .rn xs => M.ret (.lst xs)
  | .nx _ => M.ret .non
  | _ => M.fail) (some g) = some (d, some g') ∧ (okB p g' ∧ g'.st = g.st) ∧ ∃ v, d = .int v ∧ 0 ≤ v ∧ v < m := by
  obtain ⟨hp, hz⟩ := hg
  have hm : 0 < m := by omega
  have fin : ∀ z : Int, 0 ≤ z % m ∧ z % m < m := fun z => ⟨Int.emod_nonneg _ (by omega), Int.emod_lt_of_pos _ hm⟩
  unfold takeTail
  walk_at "ev"
  rw [bx0 hp]
  walk_at "ev"
  by_cases h0 : 0 < g.z0
  · simp only [decide_eq_true h0, if_true]
    walk_at "ev"
    rw [bx0 hp]
    walk_at "ev"
    simp only [modD_int hm]
    walk_at "ev"
    simp only [bagSetM]
    walk_at "ev"
    rw [bx0 hp, divD_int hm h2]
    walk_at "ev"
    rw [M.bind_eq (bput hp (show putB 0 (g.z0 / m) g = some { g with z0 := g.z0 / m } from rfl))]
    walk_at "ev"
    exact ⟨_, _, rfl, ⟨⟨hp, hz⟩, rfl⟩, _, rfl, fin _⟩
  · simp only [decide_eq_false h0, if_false, Bool.false_eq_true]
    walk_at "ev"
    rw [bx1 hp]
    walk_at "ev"
    rw [mulD_int (okM_r (by decide) (by decide))]
    walk_at "ev"
    simp only [modD_int (show (0 : Int) < 1000000007 by decide), modD_int (show (0 : Int) < 998244353 by decide)]
    walk_at "ev"
    have hb : ∀ z : Int, 0 ≤ z % 1000000007 ∧ z % 1000000007 < 1000000007 := fun z => ⟨Int.emod_nonneg _ (by decide), Int.emod_lt_of_pos _ (by decide)⟩
    have hb1 := hb ((g.z1 + 1) * 39373)
    rw [mulD_int (okM_r (by omega) (by omega))]
    walk_at "ev"
    rw [modD_int (show (0 : Int) < 998244353 by decide)]
    walk_at "ev"
    rw [mulD_int (okM_r (by decide) (by decide))]
    walk_at "ev"
    rw [modD_int (show (0 : Int) < 998244353 by decide)]
    walk_at "ev"
    by_cases h3 : 1000000 < m
    · simp only [decide_eq_true h3, if_true]
      walk_at "ev"
      rw [mulD_int (okM_r (by decide) (by decide))]
      walk_at "ev"
      rw [modD_int hm]
      walk_at "ev"
      exact ⟨_, _, rfl, ⟨⟨hp, hz⟩, rfl⟩, _, rfl, fin _⟩
    · simp only [decide_eq_false h3, if_false, Bool.false_eq_true]
      walk_at "ev"
      rw [divD_int (by decide) (by decide)]
      walk_at "ev"
      rw [modD_int hm]
      walk_at "ev"
      exact ⟨_, _, rfl, ⟨⟨hp, hz⟩, rfl⟩, _, rfl, fin _⟩
theorem seq_app {F1 F2 : Env2 → M Out} {ρ ρ' : Env2} {b b' : Bs} (h : F1 ρ b = some (.nx ρ', b')) : seqM F1 F2 ρ b = F2 ρ' b' := M.bind_eq h
theorem bindF_app {α : Type} {m m' : M Out} {k : Out → M α} {b b' : Bs} (h : m b = m' b') : M.bind m k b = M.bind m' k b' := by
  unfold M.bind
  rw [h]
theorem take_cell {p : Addr} {m : Int} (g : Bg) (hg : okB p g) {c : Int} : ∃ s5 g', (seqM (bagAugM 0 2 [] (cst (.int 1)))
  (seqM (ifM [4] (t2 geD (rdEnv 4) (cst (.int 1000000000000000000)))
  (bagSetM 0 0 [4] (rdEnv 4))
  sNil)
  (seqM (setM 5 [0, 4] (e2 addD (e2 addD (e2 mulD (e2 ixD (rdEnv 0) (cst (.int 1))) (cst (.int 48271))) (e2 modD (eCall intF (aC (rdEnv 4) aN)) (cst (.int 2147483647)))) (e2 mulD (cst (.int 7919)) (e2 ixD (rdEnv 0) (cst (.int 2))))))
  (bagSetM 0 1 [5] (e2 modD (eCall intF (aC (rdEnv 5) aN)) (cst (.int 2147483647))))))) [some (.val (.bag p)), some (.val (.int m)), none, none, some (.val (.int c)), none, none] (some g) = some (.nx [some (.val (.bag p)), some (.val (.int m)), none, none, some (.val (.int c)), s5, none], some g') ∧ okB p g' ∧ g'.st = g.st := by
  obtain ⟨hp, hz⟩ := hg
  have e1 : bagAugM 0 2 [] (cst (.int 1)) [some (.val (.bag p)), some (.val (.int m)), none, none, some (.val (.int c)), none, none] (some g) = some (.nx [some (.val (.bag p)), some (.val (.int m)), none, none, some (.val (.int c)), none, none], some { g with z2 := g.z2 + 1 }) := by
    simp only [bagAugM, cst, M.ret_bind]
    rw [if_neg (by decide), if_neg (by decide)]
    exact bput hp rfl
  rw [seq_app e1]
  have e2' : ∃ z, (ifM [4] (t2 geD (rdEnv 4) (cst (.int 1000000000000000000))) (bagSetM 0 0 [4] (rdEnv 4)) sNil) [some (.val (.bag p)), some (.val (.int m)), none, none, some (.val (.int c)), none, none] (some { g with z2 := g.z2 + 1 }) = some (.nx [some (.val (.bag p)), some (.val (.int m)), none, none, some (.val (.int c)), none, none], some { g with z2 := g.z2 + 1, z0 := z }) := by
    walk_at "ev"
    by_cases h : 1000000000000000000 ≤ c
    · simp only [decide_eq_true h, if_true, bagSetM]
      walk_at "ev"
      exact ⟨c, bput hp rfl⟩
    · simp only [decide_eq_false h, if_false, Bool.false_eq_true]
      exact ⟨g.z0, rfl⟩
  obtain ⟨z, e3⟩ := e2'
  rw [seq_app e3]
  walk_at "ev"
  simp only [bagSetM]
  walk_at "ev"
  rw [bx1 (by exact hp)]
  rw [mulD_int (okM_r (by decide) (by decide))]
  walk_at "ev"
  rw [modD_int (by decide)]
  walk_at "ev"
  rw [bx2 (by exact hp)]
  rw [mulD_int (okM_l (by decide) (by decide))]
  walk_at "ev"
  rw [modD_int (by decide)]
  walk_at "ev"
  refine ⟨_, _, bput (by exact hp) rfl, ⟨?_, ?_⟩, rfl⟩
  · exact hp
  · show 0 ≤ g.z2 + 1
    omega
theorem take_tot {p : Addr} {m : Int} (h1 : 1 ≤ m) (h2 : m < 1000000000000000000000000000000) : Tot p (R__law_take [.bag p, .int m]) fun d => ∃ v, d = .int v ∧ 0 ≤ v ∧ v < m := by
  intro g hg
  obtain ⟨hp, hz⟩ := id hg
  show ∃ d g', M.bind (F__law_take [some (.val (.bag p)), some (.val (.int m)), none, none, none, none, none]) _ (some g) = some (d, some g') ∧ _
  by_cases h0 : g.z0 = 0
  · have hh : ∃ s4 s5 g', F__law_take [some (.val (.bag p)), some (.val (.int m)), none, none, none, none, none] (some g) = takeTail [some (.val (.bag p)), some (.val (.int m)), none, none, s4, s5, none] (some g') ∧ okB p g' ∧ g'.st = g.st := by
      by_cases hc : g.z2 < (g.cs.length : Int)
      · obtain ⟨c, hc2⟩ : ∃ c, atI (g.cs.map D.int) g.z2 = some (D.int c) := by
          rw [atI_lt hz (by simpa using hc), List.getElem?_map, List.getElem?_eq_getElem (by omega)]
          exact ⟨_, rfl⟩
        obtain ⟨s5, g', e, ho⟩ := take_cell (m := m) g hg (c := c)
        refine ⟨some (.val (.int c)), s5, g', ?_, ho⟩
        unfold F__law_take
        refine seq_app ?_
        rw [← e]
        simp only [ifM, t2, e2, cst, view_eq, viewAt_cons, viewAt_nil, List.contains_cons, List.contains_nil, Nat.reduceBEq, Bool.or_true, Bool.or_false, if_true, Option.map_some, see_val, rd_0, M.ret_bind, M.bind_assoc]
        rw [bx0 hp]
        simp only [eqD_int, asB_bl, M.ret_bind, decide_eq_true h0, if_true]
        refine seq_app (ρ' := [some (.val (.bag p)), some (.val (.int m)), none, none, some (.val (.int 0)), none, none]) (b' := some g) (by rfl) |>.trans ?_
        refine seq_app ?_
        walk_at "ev"
        rw [bx2 hp, bx3 hp]
        walk_at "ev"
        simp only [List.length_map, decide_eq_true hc, if_true]
        rw [bx3 hp, bx2 hp, ixD_lst hc2]
        rfl
      · obtain ⟨s5, g', e, ho⟩ := take_cell (m := m) g hg (c := 0)
        refine ⟨some (.val (.int 0)), s5, g', ?_, ho⟩
        unfold F__law_take
        refine seq_app ?_
        rw [← e]
        simp only [ifM, t2, e2, cst, view_eq, viewAt_cons, viewAt_nil, List.contains_cons, List.contains_nil, Nat.reduceBEq, Bool.or_true, Bool.or_false, if_true, Option.map_some, see_val, rd_0, M.ret_bind, M.bind_assoc]
        rw [bx0 hp]
        simp only [eqD_int, asB_bl, M.ret_bind, decide_eq_true h0, if_true]
        refine seq_app (ρ' := [some (.val (.bag p)), some (.val (.int m)), none, none, some (.val (.int 0)), none, none]) (b' := some g) (by rfl) |>.trans ?_
        refine seq_app ?_
        walk_at "ev"
        rw [bx2 hp, bx3 hp]
        walk_at "ev"
        simp only [List.length_map, decide_eq_false hc, if_false, Bool.false_eq_true]
        rfl
    obtain ⟨s4, s5, g', e, ho, hs⟩ := hh
    rw [bindF_app e]
    obtain ⟨d, g2, e2, ⟨h3, h4⟩, h5⟩ := take_end h1 h2 g' ho
    exact ⟨d, g2, e2, ⟨h3, h4.trans hs⟩, h5⟩
  · have e : F__law_take [some (.val (.bag p)), some (.val (.int m)), none, none, none, none, none] (some g) = takeTail [some (.val (.bag p)), some (.val (.int m)), none, none, none, none, none] (some g) := by
      unfold F__law_take
      refine seq_app ?_
      walk_at "ev"
      rw [bx0 hp]
      walk_at "ev"
      simp only [decide_eq_false h0, if_false, Bool.false_eq_true]
      rfl
    rw [bindF_app e]
    exact take_end h1 h2 g hg
local macro_rules | `(tactic| walk_at "dis") => `(tactic| first | assumption | omega | (simp only [List.length_map, List.length_range, List.length_append, List.length_cons, List.length_nil, List.length_reverse, List.length_take, List.length_drop, List.length_replicate, List.length_singleton]; omega) | (simp; done))
local macro_rules | `(tactic| walk_at "ev2") => `(tactic| try simp -implicitDefEqProofs -dsimp (disch := walk_at "dis") only [↓q_seq, ↓q_seqK_nx, ↓q_seqK_rt, ↓q_seqK_rn, ↓q_seqK_bk, ↓q_seqK_ct, ↓q_runD, ↓q_runN, q_runK_rt, q_runK_rn, q_runK_nx, q_runKN_rn, ↓q_set, ↓q_setN, ↓q_ret, ↓q_retN, ↓q_if, ↓q_unp, q_unpK, ↓q_app, q_appK, q_guard, ↓q_for, ↓q_forR, q_loopK_nx, q_loopK_ct, q_loopK_bk, q_loopK_rt, q_loopK_rn, ↓q_sNil, ↓q_e2, ↓q_t2, ↓q_e1, ↓q_cst, ↓q_aN, ↓q_aC, ↓q_call, ↓q_callN, ↓q_eN, ↓q_nLst, q_lstK, ↓q_eTup, q_tupK, ↓q_tVal, ↓q_tNot, ↓q_tAnd, ↓q_tOr, ↓q_eAnd, ↓q_eNot, ↓q_eIf, ↓q_iAny, ↓q_iRg1, ↓q_iEnum, ↓q_nLc, ↓q_cT, ↓q_oN, ↓q_oS, ↓q_eSl, ↓q_eChain, ↓q_tBl, ↓q_eMake, ↓q_eMeth, ↓q_iSeq, q_selK, q_self, ↓q_iTwoS, q_two2s, ↓q_nLc2, q_inE, q_notInE, q_is_non, q_is_str, q_is_int, q_is_tup, q_is_lst, q_isnt_non, q_isnt_str, q_isnt_int, q_isnt_tup, q_isnt_lst, q_list_l, q_list_t, q_ixF_s, q_ixF_l, q_ixF_t, q_ixF_b, q_inF_s, q_inF_l, q_inF_t, q_lenG_s, q_lenG_l, q_lenG_t, q_lenG_d, q_lenG_dt, ↓q_setD, ↓q_dput, q_dputK, q_keyI, q_keyS, q_seeT, q_toDv, q_toDl, q_toDk, q_toDt, q_toDs0, q_toDs1, q_toDsm, q_fls0, q_fls1, q_flv, q_fll, q_flk, q_flt, q_flsm, q_sloV, q_sloK, q_sloT, q_sloL, q_sloLl, ↓q_oV, ↓q_oL, ↓q_oC, ↓q_oaN, ↓q_oaC, ↓q_parO, q_parOK, q_flatS, q_flatI, q_flatS2, q_mapv0, q_sloL0, bnd_ret, bnd_assoc, bnd_assoc', bnd_r, cnd_t, cnd_f, cnd_bnd, fail_bnd, bind_bnd, str01, List.cons.injEq, and_true, decide_true, decide_false, cut_toN, cut_fromN, cut_from1N, cut_to1N, cut_to1, cut_to2, cut_to3, cut_from1, cut_toM1, cut_fromM1, DL.startD, List.map_cons, List.map_nil, List.length_cons, List.length_nil, Nat.reduceAdd, Nat.reduceSub, List.replicate, List.cons_append, List.nil_append, view_eq, viewAt_cons, viewAt_nil, List.contains_cons, List.contains_nil, Nat.reduceBEq, Bool.or_true, Bool.or_false, Bool.true_or, Bool.false_or, if_true, Bool.false_eq_true, if_false, Option.map_some, Option.map_none, see_val, see_own, rd_0, rd_1, rd_2, rd_3, rd_4, rd_5, rd_6, rd_7, rd_8, rd_9, Int.reduceToNat, flat_int, flat_str, flat_bl, flat_non, flat_bag, flat_lst, flat_tup, flat_obj, List.all_cons, List.all_nil, Bool.and_true, Bool.true_and, Bool.and_false, Bool.false_and, keepIf_t, keepIf_f, frz_eq, frzAt_cons, frzAt_nil, List.set_cons_succ, List.set_cons_zero, subD_int, addD_int, negD_int, asI_int, asB_bl, truD_bl, lenF_lst, lenF_tup, intF_int, intF_bl, absF_int, ltD_int, leD_int, gtD_int, geD_int, eqD_int, eqD_str, neD_int, neD_str, inD_str, notInD_str, slD_lst, slD_scr, revD_lst, itemsD_lst, itemsD_tup, itemsD_str, Bool.not_true, Bool.not_false, ixD_l, ixD_t, ofSome, atI_0, atI_1, atI_2, atI_3, atI_4, atI_app, slotD_obj, propD_obj, propN_obj, isC_obj, get0, get1, get2, get3, getS, bName_eq, bTup_eq, bCons_eq, bNil_eq, setAll2_cons, setAll2_nil, setAllD_cons, setAllD_nil, wipeD_cons, wipeD_nil, isi_str_str, isi_int_int, isi_bool_int, List.getElem?_cons_zero, List.getElem?_cons_succ, lenF_str, modD_int, divD_int, addD_str, addD_lst, slD_str, revD_str, ixD_str, ixD_str1, ixD_strmod, rng1_int, rng2_int, mulD_intl, mulD_intr, intF_dig])
local macro_rules | `(tactic| walk_at "evl") => `(tactic| try simp -implicitDefEqProofs -dsimp (disch := walk_at "dis") only [↓q_seq, ↓q_seqK_nx, ↓q_seqK_rt, ↓q_seqK_rn, ↓q_seqK_bk, ↓q_seqK_ct, ↓q_runD, ↓q_runN, q_runK_rt, q_runK_rn, q_runK_nx, q_runKN_rn, ↓q_set, ↓q_setN, ↓q_ret, ↓q_retN, ↓q_if, ↓q_unp, q_unpK, ↓q_app, q_appK, q_guard, ↓q_for, ↓q_forR, q_loopK_nx, q_loopK_ct, q_loopK_bk, q_loopK_rt, q_loopK_rn, ↓q_sNil, ↓q_e2, ↓q_t2, ↓q_e1, ↓q_cst, ↓q_aN, ↓q_aC, ↓q_call, ↓q_callN, ↓q_eN, ↓q_nLst, q_lstK, ↓q_eTup, q_tupK, ↓q_tVal, ↓q_tNot, ↓q_tAnd, ↓q_tOr, ↓q_eAnd, ↓q_eNot, ↓q_eIf, ↓q_iAny, ↓q_iRg1, ↓q_iEnum, ↓q_nLc, ↓q_cT, ↓q_oN, ↓q_oS, ↓q_eSl, ↓q_eChain, ↓q_tBl, ↓q_eMake, ↓q_eMeth, ↓q_iSeq, q_selK, q_self, ↓q_iTwoS, q_two2s, ↓q_nLc2, q_inE, q_notInE, q_is_non, q_is_str, q_is_int, q_is_tup, q_is_lst, q_isnt_non, q_isnt_str, q_isnt_int, q_isnt_tup, q_isnt_lst, q_list_l, q_list_t, q_ixF_s, q_ixF_l, q_ixF_t, q_ixF_b, q_inF_s, q_inF_l, q_inF_t, q_lenG_s, q_lenG_l, q_lenG_t, q_lenG_d, q_lenG_dt, ↓q_setD, ↓q_dput, q_dputK, q_keyI, q_keyS, q_seeT, q_toDv, q_toDl, q_toDk, q_toDt, q_toDs0, q_toDs1, q_toDsm, q_fls0, q_fls1, q_flv, q_fll, q_flk, q_flt, q_flsm, q_sloV, q_sloK, q_sloT, q_sloL, q_sloLl, ↓q_oV, ↓q_oL, ↓q_oC, ↓q_oaN, ↓q_oaC, ↓q_parO, q_parOK, q_flatS, q_flatI, q_flatS2, q_mapv0, q_sloL0, bnd_ret, bnd_assoc, bnd_assoc', bnd_r, cnd_t, cnd_f, cnd_bnd, fail_bnd, bind_bnd, str01, List.cons.injEq, and_true, decide_true, decide_false, cut_toN, cut_fromN, cut_from1N, cut_to1N, cut_to1, cut_to2, cut_to3, cut_from1, cut_toM1, cut_fromM1, DL.startD, List.map_cons, List.map_nil, List.length_cons, List.length_nil, Nat.reduceAdd, Nat.reduceSub, List.replicate, List.cons_append, List.nil_append, view_eq, viewAt_cons, viewAt_nil, List.contains_cons, List.contains_nil, Nat.reduceBEq, Bool.or_true, Bool.or_false, Bool.true_or, Bool.false_or, if_true, Bool.false_eq_true, if_false, Option.map_some, Option.map_none, see_val, see_own, rd_0, rd_1, rd_2, rd_3, rd_4, rd_5, rd_6, rd_7, rd_8, rd_9, Int.reduceToNat, flat_int, flat_str, flat_bl, flat_non, flat_bag, flat_lst, flat_tup, flat_obj, List.all_cons, List.all_nil, Bool.and_true, Bool.true_and, Bool.and_false, Bool.false_and, keepIf_t, keepIf_f, frz_eq, frzAt_cons, frzAt_nil, List.set_cons_succ, List.set_cons_zero, subD_int, addD_int, negD_int, asI_int, asB_bl, truD_bl, lenF_lst, lenF_tup, intF_int, intF_bl, absF_int, ltD_int, leD_int, gtD_int, geD_int, eqD_int, eqD_str, neD_int, neD_str, inD_str, notInD_str, slD_lst, slD_scr, revD_lst, itemsD_lst, itemsD_tup, itemsD_str, Bool.not_true, Bool.not_false, ixD_l, ixD_t, ofSome, atI_0, atI_1, atI_2, atI_3, atI_4, atI_app, slotD_obj, propD_obj, propN_obj, isC_obj, get0, get1, get2, get3, getS, bName_eq, bTup_eq, bCons_eq, bNil_eq, setAll2_cons, setAll2_nil, setAllD_cons, setAllD_nil, wipeD_cons, wipeD_nil, isi_str_str, isi_int_int, isi_bool_int, List.getElem?_cons_zero, List.getElem?_cons_succ, lenF_str, modD_int, divD_int, addD_str, addD_lst, slD_str, revD_str, ixD_str, ixD_str1, ixD_strmod, rng1_int, rng2_int, mulD_intl, mulD_intr, intF_dig, q_loop0, q_loopN, q_comp0, q_compT])
local macro_rules | `(tactic| walk_at "env") => `(tactic| try simp -implicitDefEqProofs only [List.all_cons, List.all_nil, Bool.and_true, Bool.true_and, setAll2_cons, setAll2_nil, bName_eq, env0, List.replicate, flat_int, flat_str, flat_bl, flat_non, flat_bag, flat_lst, flat_tup, flat_obj, keepIf_t, keepIf_f, frz_eq, frzAt_cons, frzAt_nil, List.contains_cons, List.contains_nil, Nat.reduceBEq, Nat.reduceAdd, Bool.or_true, Bool.or_false, Bool.true_or, if_true, Bool.false_eq_true, if_false, Option.map_some, Option.map_none, see_val, see_own, List.set_cons_succ, List.set_cons_zero])
def F__law_rule : Env2 → M Out :=
  (seqM (setM 1 [0] (e2 joinF (cst (.str [])) (eN (nLc [2] (iRg1 (aC (cst (.int 4)) aN)) (bName 2) cT (e2 ixF (cst (.str [48, 49])) (eCall R__law_take (aC (rdEnv 0) (aC (cst (.int 2)) aN))))))))
  (retM [0, 1] (eTup (aC (e2 ixF (eN (nLst (aC (cst (.str [48, 49, 49, 49])) (aC (rdEnv 1) (aC (rdEnv 1) aN))))) (eCall R__law_take (aC (rdEnv 0) (aC (cst (.int 3)) aN)))) (aC (eCall R__law_take (aC (rdEnv 0) (aC (cst (.int 3)) aN))) aN)))))
def R__law_rule : List D → M D := runD 3 F__law_rule
def F__law_text : Env2 → M Out :=
  (seqM (setM 3 [1] (eSl (cst (.str [48, 49, 50, 51])) oN (oS (e2 addD (rdEnv 1) (cst (.int 2))))))
  (retM [0, 2, 3] (e2 joinF (cst (.str [])) (eN (nLc [4] (iRg1 (aC (e2 addD (cst (.int 1)) (eCall R__law_take (aC (rdEnv 0) (aC (rdEnv 2) aN)))) aN)) (bName 4) cT (e2 ixF (rdEnv 3) (eCall R__law_take (aC (rdEnv 0) (aC (eCall lenG (aC (rdEnv 3) aN)) aN)))))))))
def R__law_text : List D → M D := runD 5 F__law_text
def F_is_row : Env2 → M Out :=
  (retM [0, 1, 2] (eAnd (e1 (isiD "str") (rdEnv 0)) (eCall allF (aC (eN (nLc [2] (iAny (rdEnv 0)) (bName 2) cT (e2 (inF false) (rdEnv 2) (rdEnv 1)))) aN))))
def R_is_row : List D → M D := runD 3 F_is_row
def F_is_table : Env2 → M Out :=
  (retM [0] (eAnd (eCall R_is_row (aC (rdEnv 0) (aC (cst (.str [48, 49])) aN))) (e2 (eqD false) (eCall lenG (aC (rdEnv 0) aN)) (cst (.int 4)))))
def R_is_table : List D → M D := runD 1 F_is_table
def F_is_integer : Env2 → M Out :=
  (retM [0] (eAnd (e1 (isiD "int") (rdEnv 0)) (eNot (e1 (isiD "bool") (rdEnv 0)))))
def R_is_integer : List D → M D := runD 1 F_is_integer
def F_Rule___init__ : Env2 → M (List D) :=
  (iSeq (ifM [1] (tNotM (tVal (eCall R_is_table (aC (rdEnv 1) aN))))
  (fun _ => M.fail)
  sNil)
  (iSeq (ifM [2] (tOrM (tNotM (tVal (eCall R_is_integer (aC (rdEnv 2) aN)))) (tNotM (tBl (eChain leD leD (cst (.int 0)) (rdEnv 2) (cst (.int 2))))))
  (fun _ => M.fail)
  sNil)
  (iTwoS [1, 2] (eTup (aC (rdEnv 1) (aC (rdEnv 2) aN))))))
def F_Rule_table : Env2 → M Out :=
  (retM [0] (e1 (slotD 0 1) (rdEnv 0)))
def R_Rule_table : List D → M D := runD 1 F_Rule_table
def F_Rule_signs : Env2 → M Out :=
  (retM [0] (eSl (cst (.str [48, 49, 50, 51])) oN (oS (e2 addD (cst (.int 2)) (e1 (slotD 0 0) (rdEnv 0))))))
def R_Rule_signs : List D → M D := runD 1 F_Rule_signs
def F_sign_after : Env2 → M Out :=
  (seqM (ifM [3] (t2 (eqD false) (rdEnv 3) (cst (.str [48])))
  (retM [0, 2, 4] (e2 ixF (rdEnv 0) (e2 addD (e2 mulD (cst (.int 2)) (eCall intF (aC (e2 (eqD false) (rdEnv 2) (cst (.str [49]))) aN))) (eCall intF (aC (e2 (eqD false) (rdEnv 4) (cst (.str [49]))) aN)))))
  sNil)
  (retM [1, 3] (eIf (t2 (eqD false) (rdEnv 3) (rdEnv 1)) (cst (.str [48])) (e2 ixF (cst (.str [48, 49, 50, 51])) (e2 addD (eCall intF (aC (rdEnv 3) aN)) (cst (.int 1)))))))
def R_sign_after : List D → M D := runD 5 F_sign_after
def F_row_after_beat : Env2 → M Out :=
  (retM [0, 1, 2, 3] (e2 joinF (cst (.str [])) (eN (nLc [3] (iRg1 (aC (e2 subD (eCall lenG (aC (rdEnv 2) aN)) (cst (.int 2))) aN)) (bName 3) cT (eCall R_sign_after (aC (rdEnv 0) (aC (rdEnv 1) (aC (e2 ixF (rdEnv 2) (rdEnv 3)) (aC (e2 ixF (rdEnv 2) (e2 addD (rdEnv 3) (cst (.int 1)))) (aC (e2 ixF (rdEnv 2) (e2 addD (rdEnv 3) (cst (.int 2)))) aN))))))))))
def R_row_after_beat : List D → M D := runD 4 F_row_after_beat
def F_Rule_ring_after : Env2 → M Out :=
  (retM [0, 1] (eCall R_row_after_beat (aC (e1 (slotD 0 1) (rdEnv 0)) (aC (e2 ixF (e1 (propD 0 R_Rule_signs) (rdEnv 0)) (e1 negD (cst (.int 1)))) (aC (e2 addD (e2 addD (e2 ixF (rdEnv 1) (e1 negD (cst (.int 1)))) (rdEnv 1)) (e2 ixF (rdEnv 1) (cst (.int 0)))) aN)))))
def R_Rule_ring_after : List D → M D := runD 2 F_Rule_ring_after
def BinT (t : List Nat) : Prop := t.length = 4 ∧ ∀ c ∈ t, c = 48 ∨ c = 49
def Sg (r : Nat) (x : List Nat) : Prop := ∀ c ∈ x, 48 ≤ c ∧ c < 50 + r
def sgn (t : List Nat) (r a b c : Nat) : Nat := if b = 48 then t.getD (2 * (if a = 49 then 1 else 0) + (if c = 49 then 1 else 0)) 0 else if b = 49 + r then 48 else b + 1
def rowL (t : List Nat) (r : Nat) (x : List Nat) : List Nat := (List.range (x.length - 2)).map fun k => sgn t r (x.getD k 0) (x.getD (k + 1) 0) (x.getD (k + 2) 0)
def ringL (t : List Nat) (r : Nat) (x : List Nat) : List Nat := (List.range x.length).map fun k => sgn t r (x.getD ((k + (x.length - 1)) % x.length) 0) (x.getD k 0) (x.getD ((k + 1) % x.length) 0)
abbrev rul (t : List Nat) (r : Nat) : D := .obj 0 [.int (r : Int), .str t]
def sigs (r : Nat) : List Nat := [48, 49, 50, 51].take (r + 2)
theorem sigs_len {r : Nat} (h : r ≤ 2) : (sigs r).length = r + 2 := by simp [sigs]; omega
theorem sigs_get {r k : Nat} (h : r ≤ 2) (hk : k < r + 2) : (sigs r).getD k 0 = 48 + k := by
  have h1 : r = 0 ∨ r = 1 ∨ r = 2 := by omega
  have h2 : k = 0 ∨ k = 1 ∨ k = 2 ∨ k = 3 := by omega
  rcases h1 with rfl | rfl | rfl <;> rcases h2 with rfl | rfl | rfl | rfl <;> first | rfl | omega
theorem Sg.get {r : Nat} {x : List Nat} (h : Sg r x) {i : Nat} (hi : i < x.length) : 48 ≤ x.getD i 0 ∧ x.getD i 0 < 50 + r := by
  rw [List.getD_eq_getElem?_getD, List.getElem?_eq_getElem hi]
  exact h _ (List.getElem_mem hi)
theorem BinT.get {t : List Nat} (h : BinT t) {i : Nat} (hi : i < 4) : t.getD i 0 = 48 ∨ t.getD i 0 = 49 := by
  have hi' : i < t.length := by rw [h.1]; exact hi
  rw [List.getD_eq_getElem?_getD, List.getElem?_eq_getElem hi']
  exact h.2 _ (List.getElem_mem hi')
theorem rowL_len (t : List Nat) (r : Nat) (x : List Nat) : (rowL t r x).length = x.length - 2 := by simp [rowL]
theorem ringL_len (t : List Nat) (r : Nat) (x : List Nat) : (ringL t r x).length = x.length := by simp [ringL]
theorem sgn_sg {t : List Nat} {r a b c : Nat} (ht : BinT t) (hb : 48 ≤ b ∧ b < 50 + r) : 48 ≤ sgn t r a b c ∧ sgn t r a b c < 50 + r := by
  unfold sgn
  split
  · have := ht.get (i := 2 * (if a = 49 then 1 else 0) + (if c = 49 then 1 else 0)) (by split <;> split <;> omega)
    omega
  · split <;> omega
theorem ringL_sg {t : List Nat} {r : Nat} {x : List Nat} (ht : BinT t) (hx : Sg r x) : Sg r (ringL t r x) := by
  intro c hc
  unfold ringL at hc
  obtain ⟨k, hk, rfl⟩ := List.mem_map.mp hc
  exact sgn_sg ht (hx.get (by simpa using hk))
theorem rowL_sg {t : List Nat} {r : Nat} {x : List Nat} (ht : BinT t) (hx : Sg r x) : Sg r (rowL t r x) := by
  intro c hc
  unfold rowL at hc
  obtain ⟨k, hk, rfl⟩ := List.mem_map.mp hc
  have : k < x.length - 2 := by simpa using hk
  exact sgn_sg ht (hx.get (by omega))
theorem wrap_get (x : List Nat) (k : Nat) (hk : k < x.length + 2) (h : 0 < x.length) : (x.getD (x.length - 1) 0 :: (x ++ [x.getD 0 0])).getD k 0 = x.getD ((k + (x.length - 1)) % x.length) 0 := by
  cases k with
  | zero => simp [Nat.mod_eq_of_lt (show x.length - 1 < x.length by omega)]
  | succ k =>
    have e : (k + 1 + (x.length - 1)) % x.length = k % x.length := by
      rw [show k + 1 + (x.length - 1) = k + x.length by omega, Nat.add_mod_right]
    rw [e]
    simp only [List.getD_eq_getElem?_getD, List.getElem?_cons_succ]
    by_cases hl : k < x.length
    · rw [List.getElem?_append_left hl, Nat.mod_eq_of_lt hl]
    · have : k = x.length := by omega
      subst this
      simp
theorem row_wrap (t : List Nat) (r : Nat) (x : List Nat) (h : 0 < x.length) : rowL t r (x.getD (x.length - 1) 0 :: (x ++ [x.getD 0 0])) = ringL t r x := by
  unfold rowL ringL
  have el : (x.getD (x.length - 1) 0 :: (x ++ [x.getD 0 0])).length - 2 = x.length := by simp
  rw [el]
  apply List.map_congr_left
  intro k hk
  have hk : k < x.length := by simpa using hk
  rw [wrap_get x k (by omega) h, wrap_get x (k + 1) (by omega) h, wrap_get x (k + 2) (by omega) h]
  rw [show k + 1 + (x.length - 1) = k + x.length by omega, Nat.add_mod_right, Nat.mod_eq_of_lt hk, show k + 2 + (x.length - 1) = k + 1 + x.length by omega, Nat.add_mod_right]
theorem strs_of {P : Nat → Prop} : ∀ {ys : List D}, (∀ y ∈ ys, ∃ c, y = .str [c] ∧ P c) → ∃ cs : List Nat, ys = cs.map (fun c => D.str [c]) ∧ ∀ c ∈ cs, P c
  | [], _ => ⟨[], rfl, fun _ h => nomatch h⟩
  | y :: ys, hy => by
    obtain ⟨c, rfl, hc⟩ := hy y (by simp)
    obtain ⟨cs, rfl, hcs⟩ := strs_of (ys := ys) fun z hz => hy z (by simp [hz])
    exact ⟨c :: cs, rfl, fun z hz => by
      rcases List.mem_cons.mp hz with rfl | hz
      · exact hc
      · exact hcs z hz⟩
theorem text_tot {p : Addr} {r : Nat} {m : Int} (h1 : r ≤ 2) (h2 : 1 ≤ m) (h3 : m ≤ 100000) : Tot p (R__law_text [.bag p, .int (r : Int), .int m]) fun d => ∃ x, d = .str x ∧ 1 ≤ x.length ∧ (x.length : Int) ≤ m ∧ Sg r x := by
  have hsl : cutL [48, 49, 50, 51] none (some ((r : Int) + 2)) = sigs r := by
    rw [cut_to _ (by omega)]
    rfl
  have hl := sigs_len h1
  simp only [R__law_text, F__law_text]
  walk_at "ev2"
  rw [hsl]
  refine (take_tot (by omega) (by omega)).bind ?_
  rintro d ⟨v, rfl, v0, v1⟩
  walk_at "ev2"
  refine (compM_tot (P := fun d => ∃ c, d = .str [c] ∧ (48 ≤ c ∧ c < 50 + r)) ?_).bind ?_
  · intro x hx
    refine ⟨[(4, x)], rfl, rfl, ?_⟩
    walk_at "ev2"
    refine (take_tot (by omega) (by omega)).bind ?_
    rintro d ⟨u, rfl, u0, u1⟩
    rw [q_ixF_s, ixD_str (by omega) u0 u1]
    refine Tot.ret ⟨_, rfl, ?_⟩
    rw [sigs_get h1 (by omega)]
    omega
  · rintro ys ⟨hl, hy⟩
    have hl' : ys.length = (1 + v).toNat := by simpa using hl
    obtain ⟨cs, rfl, hc⟩ := strs_of hy
    rw [List.length_map] at hl'
    walk_at "ev2"
    rw [joinF_one (f := fun c => c) (by omega), List.map_id']
    walk_at "ev2"
    exact Tot.ret ⟨cs, rfl, by omega, by omega, hc⟩
theorem rule_tot {p : Addr} : Tot p (R__law_rule [.bag p]) fun d => ∃ (t : List Nat) (r : Nat), d = .tup [.str t, .int (r : Int)] ∧ BinT t ∧ r ≤ 2 := by
  simp only [R__law_rule, F__law_rule]
  walk_at "ev2"
  refine (compM_tot (P := fun d => ∃ c, d = .str [c] ∧ (c = 48 ∨ c = 49)) ?_).bind ?_
  · intro x hx
    refine ⟨[(2, x)], rfl, rfl, ?_⟩
    walk_at "ev2"
    refine (take_tot (by omega) (by omega)).bind ?_
    rintro d ⟨u, rfl, u0, u1⟩
    rw [q_ixF_s, ixD_str (by simp) u0 (by simp; omega)]
    refine Tot.ret ⟨_, rfl, ?_⟩
    have : u = 0 ∨ u = 1 := by omega
    rcases this with rfl | rfl <;> simp
  · rintro ys ⟨hl, hy⟩
    obtain ⟨cs, rfl, hc⟩ := strs_of hy
    have hl' : cs.length = 4 := by simpa using hl
    walk_at "ev2"
    rw [joinF_one (f := fun c => c) (by omega), List.map_id']
    walk_at "ev2"
    refine (take_tot (by omega) (by omega)).bind ?_
    rintro d ⟨u, rfl, u0, u1⟩
    have : u = 0 ∨ u = 1 ∨ u = 2 := by omega
    have fin : ∀ t, BinT t → Tot p (M.bind (R__law_take [D.bag p, D.int 3]) fun x => M.ret (D.tup [D.str t, x])) fun d => ∃ (t : List Nat) (r : Nat), d = .tup [.str t, .int (r : Int)] ∧ BinT t ∧ r ≤ 2 := by
      intro t ht
      refine (take_tot (by omega) (by omega)).bind ?_
      rintro d ⟨w, rfl, w0, w1⟩
      exact Tot.ret ⟨t, w.toNat, by rw [Int.toNat_of_nonneg w0], ht, by omega⟩
    rcases this with rfl | rfl | rfl
    · walk_at "ev2"
      exact fin _ ⟨rfl, by decide⟩
    · walk_at "ev2"
      exact fin _ ⟨hl', hc⟩
    · walk_at "ev2"
      exact fin _ ⟨hl', hc⟩
theorem allF_map {α : Type} (xs : List α) (f : α → Bool) : allF [.lst (xs.map fun a => D.bl (f a))] = M.ret (.bl (xs.all f)) := by
  show (match blsD (xs.map fun a => D.bl (f a)) with
    | some bs => M.ret (D.bl (bs.all id))
    | none => M.fail) = _
  rw [blsD_map]
  show M.ret (D.bl ((xs.map f).all id)) = _
  congr 2
  induction xs with
  | nil => rfl
  | cons a r ih => simp [ih]
theorem is_row_is (x s : List Nat) (hz : x.length ≤ 100000) : R_is_row [.str x, .str s] = M.ret (.bl (x.all fun c => decide (c ∈ s))) := by
  simp only [R_is_row, F_is_row]
  walk_at "ev2"
  rw [compM_mapI (l := fun c => [(2, D.str [c])]) (y := fun c => D.bl (decide (c ∈ s))) (fun c hc => ⟨rfl, rfl, by walk_at "ev2"⟩)]
  walk_at "ev2"
  rw [allF_map]
  walk_at "ev2"
theorem is_integer_is (i : Int) : R_is_integer [.int i] = M.ret (.bl true) := by
  simp only [R_is_integer, F_is_integer]
  walk_at "ev2"
theorem is_table_is (x : List Nat) (hz : x.length ≤ 100000) : R_is_table [.str x] = M.ret (.bl (x.all (fun c => decide (c ∈ [48, 49])) && decide (x.length = 4))) := by
  simp only [R_is_table, F_is_table]
  walk_at "ev2"
  rw [is_row_is x _ hz]
  walk_at "ev2"
  cases h : x.all fun c => decide (c ∈ [48, 49])
  · rfl
  · walk_at "ev2"
    by_cases hl : x.length = 4
    · rw [hl]; rfl
    · have h2 : ¬ ((x.length : Int) = 4) := by omega
      simp [hl, h2]
theorem binT_ok {t : List Nat} (h : BinT t) : (t.all fun c => decide (c ∈ [48, 49])) = true := by
  rw [List.all_eq_true]
  intro c hc
  rcases h.2 c hc with rfl | rfl <;> decide
theorem okTab_of {t : List Nat} : okTab t = true ↔ BinT t := by
  unfold okTab BinT
  rw [Bool.and_eq_true, List.all_eq_true, beq_iff_eq]
  refine and_congr_right fun _ => ⟨fun h c hc => ?_, fun h c hc => ?_⟩
  · have := h c hc
    unfold isBin at this
    simpa using this
  · unfold isBin
    simpa using h c hc
theorem init_Rule (x : Addr) (ds : List D) (b : Bs) (r : List D × Bs) (hl : ds.length = 2) (h : ruleI ds b = some r) : F_Rule___init__ (startD 3 (.bag x :: ds)) b = some r := by
  unfold ruleI at h
  split at h
  · rename_i t n
    obtain ⟨c, e⟩ := M.guard_some h
    rw [Bool.and_eq_true, Bool.and_eq_true] at c
    obtain ⟨c1, c2, c3⟩ := c
    have ht := okTab_of.mp c1
    have c2 := of_decide_eq_true c2
    have c3 := of_decide_eq_true c3
    have hl : t.length = 4 := ht.1
    rw [← e]
    have : F_Rule___init__ (startD 3 [.bag x, .str t, .int n]) = M.ret [.int n, .str t] := by
      simp only [F_Rule___init__]
      walk_at "ev2"
      rw [is_table_is t (by omega), binT_ok ht]
      walk_at "ev2"
      simp only [hl, decide_true]
      walk_at "ev2"
      rw [is_integer_is]
      walk_at "ev2"
      simp only [decide_eq_true c2]
      walk_at "ev2"
      simp only [decide_eq_true c3]
      walk_at "ev2"
    rw [this]
  · cases h
theorem make_rule {t : List Nat} {r : Nat} (ht : BinT t) (hr : r ≤ 2) : ruleI [.str t, .int (r : Int)] = M.ret [.int (r : Int), .str t] := by
  show M.guard _ _ = _
  rw [M.guard_of]
  rw [okTab_of.mpr ht, decide_eq_true (show (0 : Int) ≤ r by omega), decide_eq_true (show (r : Int) ≤ 2 by omega)]
  rfl
theorem rule_table (t : List Nat) (r : Nat) : R_Rule_table [rul t r] = M.ret (.str t) := by
  simp only [R_Rule_table, F_Rule_table]
  walk_at "ev2"
theorem rule_signs (t : List Nat) (r : Nat) : R_Rule_signs [rul t r] = M.ret (.str (sigs r)) := by
  simp only [R_Rule_signs, F_Rule_signs]
  walk_at "ev2"
  rw [cut_to _ (by omega)]
  rw [show ((2 : Int) + r).toNat = r + 2 by omega]
  rfl
theorem sign_after_is {t : List Nat} {r a b c : Nat} (ht : t.length = 4) (hr : r ≤ 2) (hb : 48 ≤ b ∧ b < 50 + r) : R_sign_after [.str t, .str [49 + r], .str [a], .str [b], .str [c]] = M.ret (.str [sgn t r a b c]) := by
  simp only [R_sign_after, F_sign_after]
  walk_at "ev2"
  unfold sgn
  by_cases h : b = 48
  · rw [cnd_dt h, if_pos h]
    walk_at "ev2"
    congr 3
    by_cases ha : a = 49 <;> by_cases hc : c = 49 <;> simp [ha, hc]
  · rw [cnd_df h, if_neg h]
    walk_at "ev2"
    by_cases h2 : b = 49 + r
    · rw [cnd_dt h2, if_pos h2]
      walk_at "ev2"
    · rw [cnd_df h2, if_neg h2]
      walk_at "ev2"
      congr 3
      have : b = 49 ∨ b = 50 := by omega
      rcases this with rfl | rfl <;> rfl
theorem row_after_is {t : List Nat} {r : Nat} {x : List Nat} (ht : t.length = 4) (hr : r ≤ 2) (hz : x.length ≤ 100000) (hx : Sg r x) : R_row_after_beat [.str t, .str [49 + r], .str x] = M.ret (.str (rowL t r x)) := by
  simp only [R_row_after_beat, F_row_after_beat]
  walk_at "ev2"
  rw [compM_mapI (l := fun (k : Nat) => [(3, D.int (0 + (k : Nat)))]) (y := fun (k : Nat) => D.str [sgn t r (x.getD k 0) (x.getD (k + 1) 0) (x.getD (k + 2) 0)]) (fun k hk => ⟨rfl, rfl, ?_⟩)]
  · walk_at "ev2"
    rw [joinF_one (by simp; omega)]
    walk_at "ev2"
    unfold rowL
    rw [show ((x.length : Int) - 2).toNat = x.length - 2 by omega]
  · have hk : k < x.length - 2 := by
      have := List.mem_range.mp hk
      omega
    walk_at "ev2"
    rw [show (0 + (k : Int)).toNat = k by omega, show (0 + (k : Int) + 1).toNat = k + 1 by omega, show (0 + (k : Int) + 2).toNat = k + 2 by omega]
    exact sign_after_is ht hr (hx.get (by omega))
theorem last_sign {r : Nat} (hr : r ≤ 2) : (sigs r).getD ((sigs r).length - 1) 0 = 49 + r := by
  rw [sigs_get hr (by rw [sigs_len hr]; omega), sigs_len hr]
  omega
theorem ring_after_is {t : List Nat} {r : Nat} {x : List Nat} (ht : t.length = 4) (hr : r ≤ 2) (h0 : 0 < x.length) (hz : x.length ≤ 10000) (hx : Sg r x) : R_Rule_ring_after [rul t r, .str x] = M.ret (.str (ringL t r x)) := by
  have hl := sigs_len hr
  simp only [R_Rule_ring_after, F_Rule_ring_after]
  walk_at "ev2"
  rw [rule_signs]
  walk_at "ev2"
  rw [last_sign hr, row_after_is ht hr (by simp; omega), row_wrap t r x h0]
  walk_at "ev2"
  intro c hc
  simp at hc
  rcases hc with rfl | hc | rfl
  · exact hx.get (by omega)
  · exact hx c hc
  · exact hx.get (by omega)
def F__law_beat : Env2 → M Out :=
  (seqM (unpM (bTup 2 (bCons (bName 3) (bCons (bName 4) bNil))) [0] (rdEnv 0))
  (seqM (setM 2 [] (cst (.str [])))
  (seqM (forA [1] (iEnumM (aC (rdEnv 1) aN)) (bTup 2 (bCons (bName 5) (bCons (bName 6) bNil)))
  (seqM (setNM 7 [1, 5] (nLst (aC (e2 ixF (rdEnv 1) (e2 subD (rdEnv 5) (cst (.int 1)))) (aC (e2 ixF (rdEnv 1) (e2 modD (eCall intF (aC (e2 addD (rdEnv 5) (cst (.int 1))) aN)) (eCall lenG (aC (rdEnv 1) aN)))) aN))))
  (ifM [6] (t2 (eqD false) (rdEnv 6) (cst (.str [48])))
  (setM 2 [2, 3, 7, 8] (e2 addD (rdEnv 2) (e2 ixF (rdEnv 3) (eCall binF (aC (e2 joinF (cst (.str [])) (eN (nLc [8] (iAny (rdEnv 7)) (bName 8) cT (eCall strF (aC (eCall intF (aC (e2 (eqD false) (rdEnv 8) (cst (.str [49]))) aN)) aN))))) (aC (cst (.int 2)) aN))))))
  (setM 2 [2, 4, 6] (e2 addD (rdEnv 2) (e2 ixF (cst (.str [48, 49, 50, 51])) (e2 modD (eCall intF (aC (e2 addD (eCall intF (aC (rdEnv 6) aN)) (cst (.int 1))) aN)) (e2 addD (rdEnv 4) (cst (.int 2))))))))))
  (retM [2] (rdEnv 2)))))
def R__law_beat : List D → M D := runD 9 F__law_beat
def F__law_inner : Env2 → M Out :=
  (retM [0, 1] (eIf (t2 gtD (eCall lenG (aC (rdEnv 1) aN)) (cst (.int 2))) (eSl (eCall R__law_beat (aC (rdEnv 0) (aC (rdEnv 1) aN))) (oS (cst (.int 1))) (oS (e1 negD (cst (.int 1))))) (cst (.str []))))
def R__law_inner : List D → M D := runD 2 F__law_inner
def ringAt (t : List Nat) (r : Nat) (x : List Nat) (k : Nat) : Nat := sgn t r (x.getD ((k + (x.length - 1)) % x.length) 0) (x.getD k 0) (x.getD ((k + 1) % x.length) 0)
theorem ringL_at (t : List Nat) (r : Nat) (x : List Nat) : ringL t r x = (List.range x.length).map (ringAt t r x) := rfl
theorem pairs_str (x : List Nat) : pairsD (x.map fun c => D.str [c]) = (List.range x.length).map fun (k : Nat) => D.tup [.int (k : Int), .str [x.getD k 0]] := by
  apply List.ext_getElem
  · simp [pairsD]
  · intro i h1 h2
    simp only [pairsD, List.getElem_zipWith, List.getElem_range, List.getElem_map]
    congr 4
    have : i < x.length := by simpa using h2
    simp [List.getD, List.getElem?_eq_getElem this]
theorem enumD_str (x : List Nat) : enumD [.str x] = M.ret ((List.range x.length).map fun (k : Nat) => D.tup [.int (k : Int), .str [x.getD k 0]]) := by
  rw [← pairs_str]; rfl
theorem back_mod {k n : Nat} (h : k < n) : (((k : Int) - 1) % (n : Int)).toNat = (k + (n - 1)) % n := by
  cases k with
  | zero =>
    have e : ((0 : Nat) : Int) - 1 = (n - 1 : Int) + (-1) * n := by omega
    rw [e, Int.add_mul_emod_self_right, Int.emod_eq_of_lt (by omega) (by omega), Nat.mod_eq_of_lt (by omega)]
    omega
  | succ k =>
    rw [show (((k + 1 : Nat) : Int) - 1) = (k : Int) by omega, show k + 1 + (n - 1) = k + n by omega, Nat.add_mod_right, Nat.mod_eq_of_lt (by omega), Int.emod_eq_of_lt (by omega) (by omega)]
    omega
theorem fore_mod {k n : Nat} : (((k : Int) + 1) % (n : Int)).toNat = (k + 1) % n := by
  rw [show (k : Int) + 1 = ((k + 1 : Nat) : Int) by omega, ← Int.natCast_emod]
  omega
theorem law_beat_is {t : List Nat} {r : Nat} {x : List Nat} (ht : BinT t) (hr : r ≤ 2) (hz : x.length ≤ 10000) (hx : Sg r x) : R__law_beat [.tup [.str t, .int (r : Int)], .str x] = M.ret (.str (ringL t r x)) := by
  have hl : t.length = 4 := ht.1
  simp only [R__law_beat, F__law_beat]
  walk_at "ev2"
  rw [enumD_str]
  walk_at "ev2"
  refine Ev.eq (ev_loop (fun i ρ => ∃ s5 s6 s7 s8, ρ = [some (.val (.tup [.str t, .int (r : Int)])), some (.val (.str x)), some (.val (.str ((List.range i).map (ringAt t r x)))), some (.val (.str t)), some (.val (.int (r : Int))), s5, s6, s7, s8]) ⟨_, _, _, _, rfl⟩ ?_ ?_)
  · rintro k d ρ hk ⟨s5, s6, s7, s8, rfl⟩
    obtain ⟨hi, rfl⟩ := get_rmap hk
    have hg := hx.get hi
    refine ⟨[(5, .int (k : Int)), (6, .str [x.getD k 0])], rfl, ?_⟩
    walk_at "ev2"
    rw [ixD_strm (by omega) (by omega) (by omega), back_mod hi]
    walk_at "ev2"
    have hb1 := Nat.mod_lt (k + (x.length - 1)) (show 0 < x.length by omega)
    by_cases h0 : x.getD k 0 = 48
    · rw [cnd_dt h0]
      walk_at "evl"
      rw [joinF_two]
      walk_at "ev2"
      rw [binF_eq (by split <;> simp) (by split <;> simp)]
      walk_at "ev2"
      rw [ixD_str (by omega) (by split <;> split <;> omega) (by split <;> split <;> omega)]
      walk_at "ev2"
      have key : ringAt t r x k = t.getD (((if decide (x.getD ((k + (x.length - 1)) % x.length) 0 = 49) = true then 49 else 48) - 48) * 2 + ((if decide (x.getD (((k : Int) + 1) % (x.length : Int)).toNat 0 = 49) = true then 49 else 48) - 48)) 0 := by
        rw [fore_mod]
        unfold ringAt sgn
        rw [if_pos h0]
        congr 1
        split <;> split <;> simp_all
      rw [List.range_succ, List.map_append, List.map_singleton, key]
      exact Ev.ret ⟨_, .inl rfl, _, _, _, _, rfl⟩
    · rw [cnd_df h0]
      have hm : 0 ≤ ((x.getD k 0 : Int) - 48 + 1) % ((r : Int) + 2) ∧ ((x.getD k 0 : Int) - 48 + 1) % ((r : Int) + 2) < (r : Int) + 2 := ⟨Int.emod_nonneg _ (by omega), Int.emod_lt_of_pos _ (by omega)⟩
      walk_at "ev2"
      have key : ringAt t r x k = [48, 49, 50, 51].getD (((x.getD k 0 : Int) - 48 + 1) % ((r : Int) + 2)).toNat 0 := by
        unfold ringAt sgn
        rw [if_neg h0]
        generalize x.getD k 0 = c at *
        have hr' : r = 0 ∨ r = 1 ∨ r = 2 := by omega
        have hc : c = 49 ∨ c = 50 ∨ c = 51 := by omega
        rcases hr' with rfl | rfl | rfl <;> rcases hc with rfl | rfl | rfl <;> first | rfl | omega
      rw [List.range_succ, List.map_append, List.map_singleton, key]
      exact Ev.ret ⟨_, .inl rfl, _, _, _, _, rfl⟩
  · rintro ρ' ⟨s5, s6, s7, s8, rfl⟩
    walk_at "ev2"
    exact Ev.ret (by simp [ringL_at])
theorem cut_mid {α : Type} {xs : List α} (h : 2 ≤ xs.length) : cutL xs (some 1) (some (-1)) = (xs.drop 1).take (xs.length - 2) := by
  unfold cutL
  have e1 : HT.sIx xs.length 0 (some 1) = 1 := by
    show (if (1 : Int) < 0 then ((1 : Int) + (xs.length : Int)).toNat else min (1 : Int).toNat xs.length) = _
    rw [if_neg (by omega)]
    simp
    omega
  have e2 : HT.sIx xs.length xs.length (some (-1)) = xs.length - 1 := by
    show (if (-1 : Int) < 0 then (-1 + (xs.length : Int)).toNat else min (-1 : Int).toNat xs.length) = _
    rw [if_pos (by omega)]
    omega
  rw [e1, e2]
  congr 1
theorem law_inner_is {t : List Nat} {r : Nat} {x : List Nat} (ht : BinT t) (hr : r ≤ 2) (hz : x.length ≤ 10000) (hx : Sg r x) : R__law_inner [.tup [.str t, .int (r : Int)], .str x] = M.ret (.str (rowL t r x)) := by
  simp only [R__law_inner, F__law_inner]
  walk_at "ev2"
  by_cases h : (2 : Int) < x.length
  · rw [cnd_dt h]
    walk_at "ev2"
    rw [law_beat_is ht hr hz hx]
    have hl := ringL_len t r x
    walk_at "ev2"
    congr 2
    rw [cut_mid (by omega)]
    apply List.ext_getElem
    · simp [ringL, rowL]
      omega
    · intro i h1 h2
      have hi : i < x.length - 2 := by simpa [rowL] using h2
      simp only [ringL, rowL, List.getElem_take, List.getElem_drop, List.getElem_map, List.getElem_range]
      rw [show 1 + i + (x.length - 1) = i + x.length by omega, Nat.add_mod_right, Nat.mod_eq_of_lt (show i < x.length by omega), Nat.mod_eq_of_lt (show 1 + i + 1 < x.length by omega), show 1 + i + 1 = i + 2 by omega, show 1 + i = i + 1 by omega]
  · rw [cnd_df h]
    walk_at "ev2"
    unfold rowL
    rw [show x.length - 2 = 0 by omega]
    rfl
theorem sg_okd {r : Nat} {x : List Nat} (hr : r ≤ 2) (h : Sg r x) {w : Nat} (hz : 10 * x.length + 8 ≤ w) : Okd 0 w (.str x) :=
  (Okd.str (by rw [List.all_eq_true]; intro c hc; have := h c hc; exact decide_eq_true (by omega))).mono (Nat.le_refl _) hz
def F_after : Env2 → M Out :=
  (seqM (forRM [2] (iRg1 (aC (rdEnv 2) aN)) (bName 3)
  (setM 1 [0, 1] (eMeth 0 R_Rule_ring_after (rdEnv 0) (aC (rdEnv 1) aN))))
  (retM [1] (rdEnv 1)))
def R_after : List D → M D := runD 4 F_after
def itN {α : Type} (f : α → α) : Nat → α → α
  | 0, x => x
  | n + 1, x => itN f n (f x)
theorem itN_succ {α : Type} (f : α → α) : ∀ (n : Nat) (x : α), itN f (n + 1) x = f (itN f n x)
  | 0, _ => rfl
  | n + 1, x => itN_succ f n (f x)
theorem itN_add {α : Type} (f : α → α) (m : Nat) : ∀ (n : Nat) (x : α), itN f (m + n) x = itN f m (itN f n x)
  | 0, _ => rfl
  | n + 1, x => by rw [← Nat.add_assoc]; exact itN_add f m n (f x)
theorem itN_ring_sg {t : List Nat} {r : Nat} (ht : BinT t) : ∀ (n : Nat) {x : List Nat}, Sg r x → Sg r (itN (ringL t r) n x)
  | 0, _, h => h
  | n + 1, _, h => itN_ring_sg ht n (ringL_sg ht h)
theorem itN_ring_len (t : List Nat) (r : Nat) : ∀ (n : Nat) (x : List Nat), (itN (ringL t r) n x).length = x.length
  | 0, _ => rfl
  | n + 1, x => (itN_ring_len t r n _).trans (ringL_len t r x)
theorem itN_row_sg {t : List Nat} {r : Nat} (ht : BinT t) : ∀ (n : Nat) {x : List Nat}, Sg r x → Sg r (itN (rowL t r) n x)
  | 0, _, h => h
  | n + 1, _, h => itN_row_sg ht n (rowL_sg ht h)
theorem itN_row_len (t : List Nat) (r : Nat) : ∀ (n : Nat) (x : List Nat), (itN (rowL t r) n x).length = x.length - 2 * n
  | 0, _ => rfl
  | n + 1, x => by
    show (itN (rowL t r) n _).length = _
    rw [itN_row_len t r n, rowL_len]; omega
theorem after_is {t : List Nat} {r n : Nat} {x : List Nat} (ht : BinT t) (hr : r ≤ 2) (h0 : 0 < x.length) (hz : x.length ≤ 10000) (hx : Sg r x) (hn : n ≤ 100000) : R_after [rul t r, .str x, .int (n : Int)] = M.ret (.str (itN (ringL t r) n x)) := by
  simp only [R_after, F_after]
  walk_at "ev2"
  refine Ev.eq (ev_loop (fun i ρ => ∃ s3, ρ = [some (.val (rul t r)), some (.val (.str (itN (ringL t r) i x))), some (.val (.int (n : Int))), s3]) ⟨_, rfl⟩ ?_ ?_)
  · rintro k d ρ hk ⟨s3, rfl⟩
    refine ⟨[(3, d)], rfl, ?_⟩
    walk_at "ev2"
    rw [ring_after_is ht.1 hr (by rw [itN_ring_len]; omega) (by rw [itN_ring_len]; omega) (itN_ring_sg ht k hx)]
    walk_at "ev2"
    exact Ev.ret ⟨_, .inl rfl, _, by rw [itN_succ]⟩
  · rintro ρ' ⟨s3, rfl⟩
    walk_at "ev2"
    exact Ev.ret (by simp)
def code (b : Nat) : List Nat → Nat
  | [] => 0
  | c :: r => (c - 48) + b * code b r
theorem nodup_map_inj {α β : Type} {f : α → β} : ∀ {l : List α}, l.Nodup → (∀ a ∈ l, ∀ b ∈ l, f a = f b → a = b) → (l.map f).Nodup
  | [], _, _ => List.nodup_nil
  | a :: l, h, hi => by
    rw [List.nodup_cons] at h
    rw [List.map_cons, List.nodup_cons]
    refine ⟨fun hm => ?_, nodup_map_inj h.2 fun x hx y hy => hi x (by simp [hx]) y (by simp [hy])⟩
    obtain ⟨b, hb, e⟩ := List.mem_map.mp hm
    have := hi b (by simp [hb]) a (by simp) e
    subst this
    exact h.1 hb
def itL {α : Type} (f : α → α) (x : α) (m : Nat) : List α := (List.range m).map fun i => itN f i x
theorem itL_len {α : Type} (f : α → α) (x : α) (m : Nat) : (itL f x m).length = m := by simp [itL]
theorem mem_itL {α : Type} {f : α → α} {x y : α} {m : Nat} : y ∈ itL f x m ↔ ∃ i, i < m ∧ itN f i x = y := by
  unfold itL
  simp
theorem itL_get {α : Type} {f : α → α} {x : α} {m i : Nat} (h : i < m) : (itL f x m)[i]? = some (itN f i x) := by
  unfold itL
  rw [List.getElem?_map, List.getElem?_range h]; rfl
structure IsPath {α : Type} (f : α → α) (x : α) (m : Nat) : Prop where
  nd : (itL f x m).Nodup
  back : itN f m x ∈ itL f x m
theorem IsPath.pos {α : Type} {f : α → α} {x : α} {m : Nat} (h : IsPath f x m) : 0 < m := by
  obtain ⟨i, hi, _⟩ := mem_itL.mp h.back
  omega
theorem IsPath.uniq {α : Type} {f : α → α} {x : α} {m k : Nat} (h : IsPath f x m) (h' : IsPath f x k) : m = k := by
  have aux : ∀ {m k : Nat}, IsPath f x m → IsPath f x k → ¬ m < k := by
    intro m k h h' hlt
    obtain ⟨i, hi, e⟩ := mem_itL.mp h.back
    have nd := h'.nd
    have h1 := itL_get (f := f) (x := x) (m := k) (i := m) hlt
    have h2 := itL_get (f := f) (x := x) (m := k) (i := i) (by omega)
    rw [e] at h2
    have := (List.getElem?_inj (by rw [itL_len]; exact hlt) nd).mp (h1.trans h2.symm)
    omega
  have a1 := aux h h'
  have a2 := aux h' h
  omega
theorem nodup_snoc {α : Type} {l : List α} {a : α} (h : l.Nodup) (ha : a ∉ l) : (l ++ [a]).Nodup := by
  rw [List.nodup_append]
  refine ⟨h, by simp, fun b hb c hc z => ?_⟩
  simp at hc
  subst hc
  subst z
  exact ha hb
abbrev strL (ls : List (List Nat)) : List D := ls.map D.str
def turnL (t : List Nat) (p : Int) : List Nat := (List.range t.length).map fun (k : Nat) => t.getD (((k : Int) - p) % (t.length : Int)).toNat 0
theorem turnL_len (t : List Nat) (p : Int) : (turnL t p).length = t.length := by simp [turnL]
theorem turnL_get {x : List Nat} {p : Int} {k : Nat} (hk : k < x.length) : (turnL x p).getD k 0 = x.getD (((k : Int) - p) % (x.length : Int)).toNat 0 := by
  unfold turnL
  rw [List.getD_eq_getElem?_getD, List.getElem?_map, List.getElem?_range hk]
  rfl
def rat (x : List Nat) (i : Int) : Nat := x.getD (i % (x.length : Int)).toNat 0
theorem rat_nat {x : List Nat} {k : Nat} (hk : k < x.length) : rat x (k : Int) = x.getD k 0 := by
  unfold rat
  rw [Int.emod_eq_of_lt (by omega) (by omega), Int.toNat_natCast]
theorem rat_ext {x y : List Nat} (hl : x.length = y.length) (h : ∀ i, rat x i = rat y i) : x = y := by
  apply List.ext_getElem hl
  intro k h1 h2
  have := h k
  rw [rat_nat h1, rat_nat h2, List.getD_eq_getElem?_getD, List.getD_eq_getElem?_getD, List.getElem?_eq_getElem h1, List.getElem?_eq_getElem h2] at this
  exact this
theorem rat_mod {x : List Nat} {i j : Int} (h : i % (x.length : Int) = j % (x.length : Int)) : rat x i = rat x j := by
  unfold rat
  rw [h]
theorem rat_turn {x : List Nat} (h0 : 0 < x.length) (p i : Int) : rat (turnL x p) i = rat x (i - p) := by
  have h1 := Int.emod_nonneg i (by omega : (x.length : Int) ≠ 0)
  have h2 := Int.emod_lt_of_pos i (by omega : (0 : Int) < x.length)
  unfold rat
  rw [turnL_len, turnL_get (by omega), Int.toNat_of_nonneg h1, Int.emod_sub_emod]
theorem rat_ring {t : List Nat} {r : Nat} {x : List Nat} (h0 : 0 < x.length) (i : Int) : rat (ringL t r x) i = sgn t r (rat x (i - 1)) (rat x i) (rat x (i + 1)) := by
  have h1 := Int.emod_nonneg i (by omega : (x.length : Int) ≠ 0)
  have h2 := Int.emod_lt_of_pos i (by omega : (0 : Int) < x.length)
  have ll : (ringL t r x).length = x.length := by simp [ringL]
  have e0 : (((i % (x.length : Int)).toNat : Nat) : Int) = i % (x.length : Int) := Int.toNat_of_nonneg h1
  have hk : (i % (x.length : Int)).toNat < x.length := by omega
  unfold rat
  rw [ll]
  conv => lhs; unfold ringL
  rw [List.getD_eq_getElem?_getD, List.getElem?_map, List.getElem?_range hk, Option.map_some, Option.getD_some]
  have e1 : ((i % (x.length : Int)).toNat + (x.length - 1)) % x.length = ((i - 1) % (x.length : Int)).toNat := by
    have : ((((i % (x.length : Int)).toNat + (x.length - 1)) % x.length : Nat) : Int) = (i - 1) % (x.length : Int) := by
      rw [Int.natCast_emod, Int.natCast_add, e0, show ((x.length - 1 : Nat) : Int) = (x.length : Int) - 1 by omega, Int.emod_add_emod, show i + ((x.length : Int) - 1) = i - 1 + x.length by omega, Int.add_emod_right]
    omega
  have e2 : ((i % (x.length : Int)).toNat + 1) % x.length = ((i + 1) % (x.length : Int)).toNat := by
    have : ((((i % (x.length : Int)).toNat + 1) % x.length : Nat) : Int) = (i + 1) % (x.length : Int) := by
      rw [Int.natCast_emod, Int.natCast_add, e0, Int.natCast_one, Int.emod_add_emod]
    omega
  rw [e1, e2]
theorem ring_turn {t : List Nat} {r : Nat} {x : List Nat} (h0 : 0 < x.length) (p : Int) : ringL t r (turnL x p) = turnL (ringL t r x) p := by
  refine rat_ext (by rw [ringL_len, turnL_len, turnL_len, ringL_len]) fun i => ?_
  rw [rat_ring (by rw [turnL_len]; exact h0), rat_turn h0, rat_turn h0, rat_turn h0, rat_turn (by rw [ringL_len]; exact h0), rat_ring h0]
  congr 2 <;> omega
theorem turn_turn {x : List Nat} (h0 : 0 < x.length) (p q : Int) : turnL (turnL x p) q = turnL x (p + q) := by
  refine rat_ext (by rw [turnL_len, turnL_len, turnL_len]) fun i => ?_
  rw [rat_turn (by rw [turnL_len]; exact h0), rat_turn h0, rat_turn h0, show i - q - p = i - (p + q) by omega]
theorem turn_zero (x : List Nat) : turnL x 0 = x := by
  by_cases h : x.length = 0
  · rw [List.length_eq_zero_iff.mp h]; rfl
  · refine rat_ext (turnL_len _ _) fun i => ?_
    rw [rat_turn (by omega), Int.sub_zero]
theorem turn_mod {x : List Nat} (h0 : 0 < x.length) {p q : Int} (h : p % (x.length : Int) = q % (x.length : Int)) : turnL x p = turnL x q := by
  refine rat_ext (by rw [turnL_len, turnL_len]) fun i => ?_
  rw [rat_turn h0, rat_turn h0]
  exact rat_mod (by rw [Int.sub_emod, h, ← Int.sub_emod])
theorem itN_turn {t : List Nat} {r : Nat} (p : Int) : ∀ (k : Nat) {x : List Nat}, 0 < x.length → itN (ringL t r) k (turnL x p) = turnL (itN (ringL t r) k x) p
  | 0, x, _ => rfl
  | k + 1, x, h0 => by
    rw [itN_succ, itN_succ, itN_turn p k h0, ring_turn (by rw [itN_ring_len]; exact h0)]
theorem getD_ext {x y : List Nat} (hl : x.length = y.length) (h : ∀ k, k < y.length → x.getD k 0 = y.getD k 0) : x = y := by
  apply List.ext_getElem hl
  intro k h1 h2
  have := h k h2
  rw [List.getD_eq_getElem?_getD, List.getD_eq_getElem?_getD, List.getElem?_eq_getElem h1, List.getElem?_eq_getElem h2] at this
  exact this
theorem IsPath.inj {α : Type} {f : α → α} {x : α} {m i j : Nat} (h : IsPath f x m) (hi : i < m) (hj : j < m) (e : itN f i x = itN f j x) : i = j := by
  have h1 := itL_get (f := f) (x := x) hi
  have h2 := itL_get (f := f) (x := x) hj
  rw [← e] at h2
  exact (List.getElem?_inj (by rw [itL_len]; exact hi) h.nd).mp (h1.trans h2.symm)
theorem itN_conj {α β : Type} {f : α → α} {g : β → β} {φ : α → β} {x : α} (h : ∀ i, g (φ (itN f i x)) = φ (itN f (i + 1) x)) : ∀ i, itN g i (φ x) = φ (itN f i x)
  | 0 => rfl
  | i + 1 => by rw [itN_succ, itN_conj h i, h i]
def mirT (t : List Nat) : List Nat := [t.getD 0 0, t.getD 2 0, t.getD 1 0, t.getD 3 0]
theorem sgn_mir (t : List Nat) (r a b c : Nat) : sgn (mirT t) r a b c = sgn t r c b a := by
  unfold sgn mirT
  by_cases h1 : a = 49 <;> by_cases h2 : c = 49 <;> simp [h1, h2]
def Hit (I : Env2 → Prop) (g : Option D) (o : Out) : Prop := match g with
  | some d => o = .rt d
  | none => ∃ ρ, o = .nx ρ ∧ I ρ
theorem Hit.mono {I J : Env2 → Prop} {g : Option D} {o : Out} (h : Hit I g o) (hij : ∀ ρ, I ρ → J ρ) : Hit J g o := by
  cases g with
  | some d => exact h
  | none => obtain ⟨ρ, e, hi⟩ := h; exact ⟨ρ, e, hij ρ hi⟩
local macro_rules | `(tactic| walk_at "ev3") => `(tactic| try simp -implicitDefEqProofs -dsimp (disch := walk_at "dis") only [↓q_seq, ↓q_seqK_nx, ↓q_seqK_rt, ↓q_seqK_rn, ↓q_seqK_bk, ↓q_seqK_ct, ↓q_runD, ↓q_runN, q_runK_rt, q_runK_rn, q_runK_nx, q_runKN_rn, ↓q_set, ↓q_setN, ↓q_ret, ↓q_retN, ↓q_if, ↓q_unp, q_unpK, ↓q_app, q_appK, q_guard, ↓q_for, ↓q_forR, q_loopK_nx, q_loopK_ct, q_loopK_bk, q_loopK_rt, q_loopK_rn, ↓q_sNil, ↓q_e2, ↓q_t2, ↓q_e1, ↓q_cst, ↓q_aN, ↓q_aC, ↓q_call, ↓q_callN, ↓q_eN, ↓q_nLst, q_lstK, ↓q_eTup, q_tupK, ↓q_tVal, ↓q_tNot, ↓q_tAnd, ↓q_tOr, ↓q_eAnd, ↓q_eNot, ↓q_eIf, ↓q_iAny, ↓q_iRg1, ↓q_iEnum, ↓q_nLc, ↓q_cT, ↓q_oN, ↓q_oS, ↓q_eSl, ↓q_eChain, ↓q_tBl, ↓q_eMake, ↓q_eMeth, ↓q_iSeq, q_selK, q_self, ↓q_iTwoS, q_two2s, ↓q_nLc2, q_inE, q_notInE, q_is_non, q_is_str, q_is_int, q_is_tup, q_is_lst, q_isnt_non, q_isnt_str, q_isnt_int, q_isnt_tup, q_isnt_lst, q_list_l, q_list_t, q_ixF_s, q_ixF_l, q_ixF_t, q_ixF_b, q_inF_s, q_inF_l, q_inF_t, q_lenG_s, q_lenG_l, q_lenG_t, q_lenG_d, q_lenG_dt, ↓q_setD, ↓q_dput, q_dputK, q_keyI, q_keyS, q_seeT, q_toDv, q_toDl, q_toDk, q_toDt, q_toDs0, q_toDs1, q_toDsm, q_fls0, q_fls1, q_flv, q_fll, q_flk, q_flt, q_flsm, q_sloV, q_sloK, q_sloT, q_sloL, q_sloLl, ↓q_oV, ↓q_oL, ↓q_oC, ↓q_oaN, ↓q_oaC, ↓q_parO, q_parOK, q_flatS, q_flatI, q_flatS2, q_mapv0, q_sloL0, bnd_ret, bnd_assoc, bnd_assoc', bnd_r, cnd_t, cnd_f, fail_bnd, bind_bnd, str01, List.cons.injEq, and_true, decide_true, decide_false, cut_toN, cut_fromN, cut_from1N, cut_to1N, cut_to1, cut_to2, cut_to3, cut_from1, cut_toM1, cut_fromM1, DL.startD, List.map_cons, List.map_nil, List.length_cons, List.length_nil, Nat.reduceAdd, Nat.reduceSub, List.replicate, List.cons_append, List.nil_append, view_eq, viewAt_cons, viewAt_nil, List.contains_cons, List.contains_nil, Nat.reduceBEq, Bool.or_true, Bool.or_false, Bool.true_or, Bool.false_or, if_true, Bool.false_eq_true, if_false, Option.map_some, Option.map_none, see_val, see_own, rd_0, rd_1, rd_2, rd_3, rd_4, rd_5, rd_6, rd_7, rd_8, rd_9, Int.reduceToNat, flat_int, flat_str, flat_bl, flat_non, flat_bag, flat_lst, flat_tup, flat_obj, List.all_cons, List.all_nil, Bool.and_true, Bool.true_and, Bool.and_false, Bool.false_and, keepIf_t, keepIf_f, frz_eq, frzAt_cons, frzAt_nil, List.set_cons_succ, List.set_cons_zero, subD_int, addD_int, negD_int, asI_int, asB_bl, truD_bl, lenF_lst, lenF_tup, intF_int, intF_bl, absF_int, ltD_int, leD_int, gtD_int, geD_int, eqD_int, eqD_str, neD_int, neD_str, inD_str, notInD_str, slD_lst, slD_scr, revD_lst, itemsD_lst, itemsD_tup, itemsD_str, Bool.not_true, Bool.not_false, ixD_l, ixD_t, ofSome, atI_0, atI_1, atI_2, atI_3, atI_4, atI_app, slotD_obj, propD_obj, propN_obj, isC_obj, get0, get1, get2, get3, getS, bName_eq, bTup_eq, bCons_eq, bNil_eq, setAll2_cons, setAll2_nil, setAllD_cons, setAllD_nil, wipeD_cons, wipeD_nil, isi_str_str, isi_int_int, isi_bool_int, List.getElem?_cons_zero, List.getElem?_cons_succ, q_flat_dct, q_flat_dcT, q_isB, q_isntB, q_n2, q_cndN, q_szL, q_sloL1, q_sloL2, q_sloL3, q_c0, q_c1, q_c2, q_c3, q_c4, q_c5, q_c6, q_c7, q_c8, q_c9, q_c10, q_c11, q_c12, q_c13, q_c14, q_c15, q_c16, q_getF2, q_e3D, q_dictPF, q_guardT, q_liftE, q_liftK, q_seqE, q_seqEK_nx, q_seqEK_rt, q_seqEK_rn, q_seqEK_ex, q_ifE, q_eCallE, q_runE, q_runEK_rt, q_runEK_rn, q_runEK_nx, q_runEK_ex, q_eLiftE, q_eqBl, q_neBl, q_toDu, q_flu, q_sloU, q_iKeysD, q_keysD0, q_keysD0l, q_keysD0s, q_pairsD0, q_popM, q_popK, q_exvM, q_exvD, q_exvK, q_listKF, q_sumL, q_asLF, q_asLK, q_tput, q_tputK, q_inT, q_inTK, q_keysI1, q_keys2s, q_keys2i, q_keys2ii, q_celK, q_okE_ok, q_okE_ex, q_sxSet, q_sxSetK_ok, q_sxSetK_ex, q_axNil, q_axCons, q_axConsK_ok, q_axConsK_ex, q_axConsK2_ok, q_axConsK2_ex, q_eIfE, q_forX, q_forRX, q_noxE, q_noxEK, q_sxPar, q_sxParK_ok, q_cut2, q_cut3, eq_self, cnd_dt, cnd_df, Int.toNat_natCast, lenF_str, modD_int, divD_int, addD_str, addD_lst, slD_str, revD_str, ixD_str, ixD_str1, ixD_strmod, rng1_int, rng2_int, mulD_intl, mulD_intr, intF_dig])
def F__law_my_rule : Env2 → M Out :=
  (retM [0] (eMake 0 ruleI (aC (e2 ixF (rdEnv 0) (cst (.int 0))) (aC (e2 ixF (rdEnv 0) (cst (.int 1))) aN))))
def R__law_my_rule : List D → M D := runD 1 F__law_my_rule
theorem take_n {p : Addr} {m : Int} (h1 : 1 ≤ m) (h2 : m < 1000000000000000000000000000000) : Tot p (R__law_take [.bag p, .int m]) fun d => ∃ n : Nat, d = .int (n : Int) ∧ (n : Int) < m :=
  (take_tot h1 h2).mono fun d ⟨v, e, v0, v1⟩ => ⟨v.toNat, by rw [e, Int.toNat_of_nonneg v0], by omega⟩
theorem my_rule_is {t : List Nat} {r : Nat} (ht : BinT t) (hr : r ≤ 2) : R__law_my_rule [.tup [.str t, .int (r : Int)]] = M.ret (rul t r) := by
  simp only [R__law_my_rule, F__law_my_rule]
  walk_at "ev3"
  rw [make_rule ht hr]
  walk_at "ev3"
theorem repL_succ {α : Type} (x : List α) (k : Nat) : repL x (k + 1) = x ++ repL x k := by
  simp [repL, List.replicate_succ]
theorem repL_len {α : Type} (x : List α) : ∀ k, (repL x k).length = k * x.length
  | 0 => by simp [repL]
  | k + 1 => by rw [repL_succ, List.length_append, repL_len x k, Nat.succ_mul, Nat.add_comm]
theorem rep_get {x : List Nat} : ∀ {k j : Nat}, j < k * x.length → (repL x k).getD j 0 = x.getD (j % x.length) 0
  | 0, j, h => by omega
  | k + 1, j, h => by
    rw [Nat.succ_mul] at h
    rw [repL_succ, List.getD_eq_getElem?_getD, List.getD_eq_getElem?_getD]
    by_cases hj : j < x.length
    · rw [List.getElem?_append_left hj, Nat.mod_eq_of_lt hj]
    · rw [List.getElem?_append_right (by omega), ← List.getD_eq_getElem?_getD, rep_get (k := k) (by omega), ← List.getD_eq_getElem?_getD, Nat.mod_eq_sub_mod (a := j) (by omega)]
theorem rat_rep {x : List Nat} (h0 : 0 < x.length) {k : Nat} (hk : 0 < k) (i : Int) : rat (repL x k) i = rat x i := by
  have hp : 0 < k * x.length := Nat.mul_pos hk h0
  unfold rat
  rw [repL_len]
  have h1 := Int.emod_nonneg i (by omega : ((k * x.length : Nat) : Int) ≠ 0)
  have h2 := Int.emod_lt_of_pos i (by omega : (0 : Int) < ((k * x.length : Nat) : Int))
  rw [rep_get (by omega)]
  congr 1
  have h3 : (i % ((k * x.length : Nat) : Int)) % (x.length : Int) = i % (x.length : Int) := Int.emod_emod_of_dvd _ ⟨(k : Int), by rw [Int.natCast_mul, Int.mul_comm]⟩
  have h4 := Int.emod_nonneg i (by omega : ((x.length : Nat) : Int) ≠ 0)
  have h5 : (((i % ((k * x.length : Nat) : Int)).toNat % x.length : Nat) : Int) = (i % ((k * x.length : Nat) : Int)) % (x.length : Int) := by
    rw [Int.natCast_emod, Int.toNat_of_nonneg h1]
  omega
theorem ring_rep {t : List Nat} {r : Nat} {x : List Nat} (h0 : 0 < x.length) {k : Nat} (hk : 0 < k) : ringL t r (repL x k) = repL (ringL t r x) k := by
  have hp : 0 < k * x.length := Nat.mul_pos hk h0
  refine rat_ext (by rw [ringL_len, repL_len, repL_len, ringL_len]) fun i => ?_
  rw [rat_ring (by rw [repL_len]; exact hp), rat_rep h0 hk, rat_rep h0 hk, rat_rep h0 hk, rat_rep (by rw [ringL_len]; exact h0) hk, rat_ring h0]
theorem turn_rep {x : List Nat} (h0 : 0 < x.length) {k : Nat} (hk : 0 < k) (p : Int) : turnL (repL x k) p = repL (turnL x p) k := by
  have hp : 0 < k * x.length := Nat.mul_pos hk h0
  refine rat_ext (by rw [turnL_len, repL_len, repL_len, turnL_len]) fun i => ?_
  rw [rat_turn (by rw [repL_len]; exact hp), rat_rep h0 hk, rat_rep (by rw [turnL_len]; exact h0) hk, rat_turn h0]
theorem itN_rep {t : List Nat} {r : Nat} {x : List Nat} (h0 : 0 < x.length) {k : Nat} (hk : 0 < k) (n : Nat) : itN (ringL t r) n (repL x k) = repL (itN (ringL t r) n x) k :=
  itN_conj (f := ringL t r) (g := ringL t r) (φ := fun z => repL z k) (fun i => by rw [ring_rep (by rw [itN_ring_len]; exact h0) hk, ← itN_succ (ringL t r)]) n
def Shp (t : List Nat) (r : Nat) (x : List Nat) (p : Int) (q : Nat) : Prop := itN (ringL t r) q x = turnL x p
section
variable {t : List Nat} {r : Nat} {x : List Nat} {p : Int} {q : Nat}
theorem Shp.after (h0 : 0 < x.length) (h : Shp t r x p q) (n : Nat) : Shp t r (itN (ringL t r) n x) p q := by
  unfold Shp at h ⊢
  rw [← itN_add, Nat.add_comm, itN_add, h, itN_turn p n h0]
theorem Shp.rep (h0 : 0 < x.length) (h : Shp t r x p q) {k : Nat} (hk : 0 < k) : Shp t r (repL x k) p q := by
  unfold Shp at h ⊢
  rw [itN_rep h0 hk, h, turn_rep h0 hk]
theorem Shp.more (h0 : 0 < x.length) (h : Shp t r x p q) (k : Int) : Shp t r x (p + k * x.length) q := by
  unfold Shp at h ⊢
  rw [h]
  refine turn_mod h0 ?_
  rw [Int.add_mul_emod_self_right]
theorem Shp.add {p2 : Int} {q2 : Nat} (h0 : 0 < x.length) (h : Shp t r x p q) (h2 : Shp t r x p2 q2) : Shp t r x (p + p2) (q + q2) := by
  unfold Shp at h h2 ⊢
  rw [itN_add, h2, itN_turn p2 q h0, h, turn_turn h0]
theorem Shp.mul (h0 : 0 < x.length) (h : Shp t r x p q) : ∀ k : Nat, Shp t r x (p * k) (q * k)
  | 0 => by
    show itN (ringL t r) (q * 0) x = turnL x (p * 0)
    rw [Nat.mul_zero, Int.mul_zero, turn_zero]
    rfl
  | k + 1 => by
    have := (Shp.mul h0 h k).add h0 h
    rw [Nat.mul_succ, Int.natCast_add, Int.mul_add]
    simpa using this
theorem Shp.back (h0 : 0 < x.length) (h : Shp t r x p q) (hq : 0 < q) (n : Nat) : ∃ m, itN (ringL t r) (m + n) x = x := by
  have := h.mul h0 (x.length * n)
  unfold Shp at this
  have hm : n ≤ q * (x.length * n) := by
    have h1 : 1 * (1 * n) ≤ q * (x.length * n) := Nat.mul_le_mul hq (Nat.mul_le_mul h0 (Nat.le_refl n))
    omega
  refine ⟨q * (x.length * n) - n, ?_⟩
  rw [Nat.sub_add_cancel hm, this]
  have e : p * ((x.length * n : Nat) : Int) = 0 + p * n * x.length := by
    rw [Int.natCast_mul, Int.zero_add, Int.mul_comm (x.length : Int), Int.mul_assoc]
  rw [e, turn_mod h0 (Int.add_mul_emod_self_right _ _ _), turn_zero]
end
def F__law_my_all : Env2 → M Out :=
  (seqM (setNM 2 [] (nLst (aC (cst (.str [])) aN)))
  (seqM (forRM [1] (iRg1 (aC (rdEnv 1) aN)) (bName 3)
  (setM 2 [0, 2, 4, 5] (eCall sumLF (aC (eN (nLc [4] (iAny (rdEnv 2)) (bName 4) cT (eN (nLc [5] (iAny (rdEnv 0)) (bName 5) cT (e2 addD (rdEnv 4) (rdEnv 5)))))) (aC (eN (nLst aN)) aN)))))
  (retOwn 2)))
def R__law_my_all : List D → M D := runD 6 F__law_my_all
local macro_rules | `(tactic| walk_at "ev4") => `(tactic| try simp -implicitDefEqProofs -dsimp (disch := walk_at "dis") only [after_is, rule_signs, ↓q_seq, ↓q_seqK_nx, ↓q_seqK_rt, ↓q_seqK_rn, ↓q_seqK_bk, ↓q_seqK_ct, ↓q_runD, ↓q_runN, q_runK_rt, q_runK_rn, q_runK_nx, q_runKN_rn, ↓q_set, ↓q_setN, ↓q_ret, ↓q_retN, ↓q_if, ↓q_unp, q_unpK, ↓q_app, q_appK, q_guard, ↓q_for, ↓q_forR, q_loopK_nx, q_loopK_ct, q_loopK_bk, q_loopK_rt, q_loopK_rn, ↓q_sNil, ↓q_e2, ↓q_t2, ↓q_e1, ↓q_cst, ↓q_aN, ↓q_aC, ↓q_call, ↓q_callN, ↓q_eN, ↓q_nLst, q_lstK, ↓q_eTup, q_tupK, ↓q_tVal, ↓q_tNot, ↓q_tAnd, ↓q_tOr, ↓q_eAnd, ↓q_eNot, ↓q_eIf, ↓q_iAny, ↓q_iRg1, ↓q_iEnum, ↓q_nLc, ↓q_cT, ↓q_oN, ↓q_oS, ↓q_eSl, ↓q_eChain, ↓q_tBl, ↓q_eMake, ↓q_eMeth, ↓q_iSeq, q_selK, q_self, ↓q_iTwoS, q_two2s, ↓q_nLc2, q_inE, q_notInE, q_is_non, q_is_str, q_is_int, q_is_tup, q_is_lst, q_isnt_non, q_isnt_str, q_isnt_int, q_isnt_tup, q_isnt_lst, q_list_l, q_list_t, q_ixF_s, q_ixF_l, q_ixF_t, q_ixF_b, q_inF_s, q_inF_l, q_inF_t, q_lenG_s, q_lenG_l, q_lenG_t, q_lenG_d, q_lenG_dt, ↓q_setD, ↓q_dput, q_dputK, q_keyI, q_keyS, q_seeT, q_toDv, q_toDl, q_toDk, q_toDt, q_toDs0, q_toDs1, q_toDsm, q_fls0, q_fls1, q_flv, q_fll, q_flk, q_flt, q_flsm, q_sloV, q_sloK, q_sloT, q_sloL, q_sloLl, ↓q_oV, ↓q_oL, ↓q_oC, ↓q_oaN, ↓q_oaC, ↓q_parO, q_parOK, q_flatS, q_flatI, q_flatS2, q_mapv0, q_sloL0, bnd_ret, bnd_assoc, bnd_assoc', bnd_r, cnd_t, cnd_f, fail_bnd, bind_bnd, str01, List.cons.injEq, and_true, decide_true, decide_false, cut_toN, cut_fromN, cut_from1N, cut_to1N, cut_to1, cut_to2, cut_to3, cut_from1, cut_toM1, cut_fromM1, DL.startD, List.map_cons, List.map_nil, List.length_cons, List.length_nil, Nat.reduceAdd, Nat.reduceSub, List.replicate, List.cons_append, List.nil_append, view_eq, viewAt_cons, viewAt_nil, List.contains_cons, List.contains_nil, Nat.reduceBEq, Bool.or_true, Bool.or_false, Bool.true_or, Bool.false_or, if_true, Bool.false_eq_true, if_false, Option.map_some, Option.map_none, see_val, see_own, rd_0, rd_1, rd_2, rd_3, rd_4, rd_5, rd_6, rd_7, rd_8, rd_9, Int.reduceToNat, flat_int, flat_str, flat_bl, flat_non, flat_bag, flat_lst, flat_tup, flat_obj, List.all_cons, List.all_nil, Bool.and_true, Bool.true_and, Bool.and_false, Bool.false_and, keepIf_t, keepIf_f, frz_eq, frzAt_cons, frzAt_nil, List.set_cons_succ, List.set_cons_zero, subD_int, addD_int, negD_int, asI_int, asB_bl, truD_bl, lenF_lst, lenF_tup, intF_int, intF_bl, absF_int, ltD_int, leD_int, gtD_int, geD_int, eqD_int, eqD_str, neD_int, neD_str, inD_str, notInD_str, slD_lst, slD_scr, revD_lst, itemsD_lst, itemsD_tup, itemsD_str, Bool.not_true, Bool.not_false, ixD_l, ixD_t, ofSome, atI_0, atI_1, atI_2, atI_3, atI_4, atI_app, slotD_obj, propD_obj, propN_obj, isC_obj, get0, get1, get2, get3, getS, bName_eq, bTup_eq, bCons_eq, bNil_eq, setAll2_cons, setAll2_nil, setAllD_cons, setAllD_nil, wipeD_cons, wipeD_nil, isi_str_str, isi_int_int, isi_bool_int, List.getElem?_cons_zero, List.getElem?_cons_succ, q_flat_dct, q_flat_dcT, q_isB, q_isntB, q_n2, q_cndN, q_szL, q_sloL1, q_sloL2, q_sloL3, q_c0, q_c1, q_c2, q_c3, q_c4, q_c5, q_c6, q_c7, q_c8, q_c9, q_c10, q_c11, q_c12, q_c13, q_c14, q_c15, q_c16, q_getF2, q_e3D, q_dictPF, q_guardT, q_liftE, q_liftK, q_seqE, q_seqEK_nx, q_seqEK_rt, q_seqEK_rn, q_seqEK_ex, q_ifE, q_eCallE, q_runE, q_runEK_rt, q_runEK_rn, q_runEK_nx, q_runEK_ex, q_eLiftE, q_eqBl, q_neBl, q_toDu, q_flu, q_sloU, q_iKeysD, q_keysD0, q_keysD0l, q_keysD0s, q_pairsD0, q_popM, q_popK, q_exvM, q_exvD, q_exvK, q_listKF, q_sumL, q_asLF, q_asLK, q_tput, q_tputK, q_inT, q_inTK, q_keysI1, q_keys2s, q_keys2i, q_keys2ii, q_celK, q_okE_ok, q_okE_ex, q_sxSet, q_sxSetK_ok, q_sxSetK_ex, q_axNil, q_axCons, q_axConsK_ok, q_axConsK_ex, q_axConsK2_ok, q_axConsK2_ex, q_eIfE, q_forX, q_forRX, q_noxE, q_noxEK, q_sxPar, q_sxParK_ok, q_cut2, q_cut3, eq_self, cnd_dt, cnd_df, Int.toNat_natCast, lenF_str, modD_int, divD_int, addD_str, addD_lst, slD_str, revD_str, ixD_str, ixD_str1, ixD_strmod, rng1_int, rng2_int, mulD_intl, mulD_intr, intF_dig])
def allS (s : List Nat) : Nat → List (List Nat)
  | 0 => [[]]
  | n + 1 => (allS s n).flatMap fun x => s.map fun c => x ++ [c]
theorem allS_len (s : List Nat) : ∀ n, (allS s n).length = s.length ^ n
  | 0 => rfl
  | n + 1 => by
    show ((allS s n).flatMap _).length = _
    rw [List.length_flatMap]
    simp only [List.length_map]
    rw [List.map_const', List.sum_replicate_nat, allS_len s n, Nat.pow_succ]
theorem mem_allS {s : List Nat} : ∀ {n : Nat} {x : List Nat}, x ∈ allS s n ↔ x.length = n ∧ ∀ c ∈ x, c ∈ s
  | 0, x => by
    constructor
    · intro h
      obtain rfl := List.mem_singleton.mp h
      exact ⟨rfl, fun c hc => nomatch hc⟩
    · rintro ⟨h, _⟩
      rw [List.length_eq_zero_iff.mp h]
      exact List.mem_singleton.mpr rfl
  | n + 1, x => by
    show x ∈ (allS s n).flatMap _ ↔ _
    rw [List.mem_flatMap]
    constructor
    · rintro ⟨y, hy, hx⟩
      obtain ⟨c, hc, rfl⟩ := List.mem_map.mp hx
      obtain ⟨h1, h2⟩ := mem_allS.mp hy
      refine ⟨by simp [h1], fun d hd => ?_⟩
      rcases List.mem_append.mp hd with hd | hd
      · exact h2 d hd
      · rw [List.mem_singleton.mp hd]; exact hc
    · rintro ⟨h1, h2⟩
      have hne : x ≠ [] := fun e => by rw [e] at h1; simp at h1
      refine ⟨x.dropLast, mem_allS.mpr ⟨by rw [List.length_dropLast, h1]; rfl, fun c hc => h2 c (List.dropLast_subset x hc)⟩, List.mem_map.mpr ⟨x.getLast hne, h2 _ (List.getLast_mem hne), List.dropLast_concat_getLast hne⟩⟩
theorem strL_allS (s : List Nat) (n : Nat) : strL (allS s (n + 1)) = (allS s n).flatMap fun x => s.map fun c => D.str (x ++ [c]) := by
  show ((allS s n).flatMap _).map D.str = _
  rw [List.map_flatMap]
  congr 1
  funext x
  rw [List.map_map]
  rfl
theorem pow_small_le {k i n B : Nat} (h1 : 1 ≤ k) (hi : i ≤ n) (h : k ^ n ≤ B) : k ^ i ≤ B := Nat.le_trans (Nat.pow_le_pow_right h1 hi) h
theorem my_all_is {s : List Nat} {n : Nat} (hs : 1 ≤ s.length) (hs2 : s.length ≤ 1000) (hn : n ≤ 1000) (hp : s.length ^ n ≤ 100000) : R__law_my_all [.str s, .int (n : Int)] = M.ret (.lst (strL (allS s n))) := by
  simp only [R__law_my_all, F__law_my_all]
  walk_at "ev4"
  refine Ev.eq (ev_loop (fun i ρ => ∃ s3 s4 s5 z, (z = .own (strL (allS s i)) ∨ z = .val (.lst (strL (allS s i)))) ∧ ρ = [some (.val (.str s)), some (.val (.int (n : Int))), some z, s3, s4, s5]) ⟨_, _, _, _, .inl rfl, rfl⟩ ?_ ?_)
  · rintro i d ρ hd ⟨s3, s4, s5, z, hz, rfl⟩
    have hz : z.see = .lst (strL (allS s i)) := by rcases hz with rfl | rfl <;> rfl
    obtain ⟨hi, rfl⟩ := get_rmap hd
    refine ⟨_, rfl, ?_⟩
    walk_at "env"
    walk_at "ev4"
    rw [hz]
    walk_at "ev4"
    rw [compM_mapI (l := fun x => [(4, D.str x)]) (y := fun x => D.lst (s.map fun c => D.str (x ++ [c]))) (fun x hx => ⟨rfl, rfl, ?_⟩)]
    · have hl : ((allS s i).flatMap fun x => s.map fun c => D.str (x ++ [c])).length = s.length ^ (i + 1) := by rw [← strL_allS, List.length_map, allS_len]
      have hl2 := pow_small_le (i := i + 1) hs (by omega) hp
      have hl3 := pow_small_le (i := i) hs (by omega) hp
      have hl4 := allS_len s i
      rw [← strL_allS] at hl
      walk_at "ev4"
      rw [q_sumL (fun x => s.map fun c => D.str (x ++ [c])) _ (by rw [← List.flatMap_def, ← strL_allS]; omega), ← List.flatMap_def, ← strL_allS]
      walk_at "ev4"
      exact Ev.ret ⟨_, .inl rfl, _, _, _, _, .inr rfl, rfl⟩
    · have hxl := (mem_allS.mp hx).1
      walk_at "ev4"
      rw [compM_mapI (l := fun c => [(5, D.str [c])]) (y := fun c => D.str (x ++ [c])) (fun c hc => ⟨rfl, rfl, ?_⟩)]
      · walk_at "ev4"
      · walk_at "ev4"
  · rintro ρ ⟨s3, s4, s5, z, hz, rfl⟩
    rw [List.length_map, List.length_range] at hz
    rcases hz with rfl | rfl
    · walk_at "ev4"
      exact Ev.ret rfl
    · walk_at "ev4"
      exact Ev.ret rfl
def tabs : List (List Nat) := (List.range 16).map bin4
theorem bin4_bin {k : Nat} : BinT (bin4 k) := by
  refine ⟨rfl, fun c hc => ?_⟩
  unfold bin4 at hc
  simp only [List.mem_cons, List.not_mem_nil, or_false] at hc
  omega
theorem tabs_bin {t : List Nat} (h : t ∈ tabs) : BinT t := by
  obtain ⟨k, _, rfl⟩ := List.mem_map.mp h
  exact bin4_bin
theorem mem_tabs {t : List Nat} : t ∈ tabs ↔ BinT t := by
  refine ⟨tabs_bin, fun h => ?_⟩
  match t, h with
  | [a, b, c, d], h =>
    have ha := h.2 a (by simp)
    have hb := h.2 b (by simp)
    have hc := h.2 c (by simp)
    have hd := h.2 d (by simp)
    rcases ha with rfl | rfl <;> rcases hb with rfl | rfl <;> rcases hc with rfl | rfl <;> rcases hd with rfl | rfl <;> decide
  | [], h => exact absurd h.1 (by simp)
  | [_], h => exact absurd h.1 (by simp)
  | [_, _], h => exact absurd h.1 (by simp)
  | [_, _, _], h => exact absurd h.1 (by simp)
  | _ :: _ :: _ :: _ :: _ :: _, h => exact absurd h.1 (by simp)
theorem lt_snoc {x y : List Nat} (c d : Nat) (hl : x.length = y.length) (h : x < y) : x ++ [c] < y ++ [d] := by
  induction x generalizing y with
  | nil =>
    cases y with
    | nil => exact absurd h (List.lt_irrefl _)
    | cons b ys => simp at hl
  | cons a xs ih =>
    cases y with
    | nil => simp at hl
    | cons b ys =>
      rw [List.cons_append, List.cons_append]
      rcases List.cons_lt_cons_iff.mp h with h | ⟨h1, h2⟩
      · exact List.cons_lt_cons_iff.mpr (.inl h)
      · exact List.cons_lt_cons_iff.mpr (.inr ⟨h1, ih (by simpa using hl) h2⟩)
theorem lt_last {x : List Nat} {c d : Nat} (h : c < d) : x ++ [c] < x ++ [d] := by
  induction x with
  | nil => exact List.cons_lt_cons_iff.mpr (.inl h)
  | cons a xs ih => exact List.cons_lt_cons_iff.mpr (.inr ⟨rfl, ih⟩)
theorem allS_pw {s : List Nat} (hs : s.Pairwise (· < ·)) : ∀ n, (allS s n).Pairwise (· < ·)
  | 0 => List.pairwise_singleton _ _
  | n + 1 => by
    show ((allS s n).flatMap fun x => s.map fun c => x ++ [c]).Pairwise (· < ·)
    rw [List.pairwise_flatMap]
    refine ⟨fun x _ => List.pairwise_map.mpr (hs.imp fun h => lt_last h), ?_⟩
    have ih := allS_pw hs n
    refine List.Pairwise.imp_of_mem (fun {x y} hx hy h => ?_) ih
    intro a ha b hb
    obtain ⟨c, _, rfl⟩ := List.mem_map.mp ha
    obtain ⟨d, _, rfl⟩ := List.mem_map.mp hb
    exact lt_snoc c d ((mem_allS.mp hx).1.trans (mem_allS.mp hy).1.symm) h
theorem sigs_pw {r : Nat} : (sigs r).Pairwise (· < ·) := by
  unfold sigs
  exact List.Pairwise.sublist (List.take_sublist _ _) (by decide)
theorem pw_nodup {xs : List (List Nat)} (h : xs.Pairwise (· < ·)) : xs.Nodup := h.imp fun {a b} h e => by
  subst e
  exact List.lt_irrefl _ h
theorem sortS_of {xs : List (List Nat)} (h : xs.Pairwise (· < ·)) : sortS xs = xs := (sortS_uniq (List.Perm.refl _) (h.imp fun {a b} h => leS_iff.mpr (List.le_of_lt h))).symm
def F_Rule___call__ : Env2 → M Out :=
  (retM [0, 1, 2, 3] (eCall R_sign_after (aC (e1 (slotD 0 1) (rdEnv 0)) (aC (e2 ixF (e1 (propD 0 R_Rule_signs) (rdEnv 0)) (e1 negD (cst (.int 1)))) (aC (rdEnv 1) (aC (rdEnv 2) (aC (rdEnv 3) aN)))))))
def R_Rule___call__ : List D → M D := runD 4 F_Rule___call__
theorem call_is {t : List Nat} {r a b c : Nat} (ht : BinT t) (hr : r ≤ 2) (hb : 48 ≤ b ∧ b < 50 + r) : R_Rule___call__ [rul t r, .str [a], .str [b], .str [c]] = M.ret (.str [sgn t r a b c]) := by
  have hl := sigs_len hr
  simp only [R_Rule___call__, F_Rule___call__]
  walk_at "ev3"
  rw [rule_signs]
  walk_at "ev3"
  rw [last_sign hr, sign_after_is ht.1 hr hb]
  walk_at "ev3"
theorem getD_rev {x : List Nat} {k : Nat} (h : k < x.length) : x.reverse.getD k 0 = x.getD (x.length - 1 - k) 0 := by
  rw [List.getD_eq_getElem?_getD, List.getElem?_reverse h, ← List.getD_eq_getElem?_getD]
theorem row_mir {t : List Nat} {r : Nat} (x : List Nat) : rowL (mirT t) r x.reverse = (rowL t r x).reverse := by
  have l1 : (rowL (mirT t) r x.reverse).length = x.length - 2 := by rw [rowL_len, List.length_reverse]
  have l2 : (rowL t r x).length = x.length - 2 := rowL_len t r x
  refine getD_ext (by rw [l1, List.length_reverse, l2]) fun k hk => ?_
  rw [List.length_reverse, l2] at hk
  rw [getD_rev (by rw [l2]; exact hk), l2]
  have g1 : ∀ (u z : List Nat) (j : Nat), j < z.length - 2 → (rowL u r z).getD j 0 = sgn u r (z.getD j 0) (z.getD (j + 1) 0) (z.getD (j + 2) 0) := fun u z j hj => by
    unfold rowL
    rw [List.getD_eq_getElem?_getD, List.getElem?_map, List.getElem?_range hj]
    rfl
  rw [g1 _ _ _ (by rw [List.length_reverse]; exact hk), g1 _ _ _ (by omega), sgn_mir, getD_rev (by omega), getD_rev (by omega), getD_rev (by omega)]
  congr 2 <;> omega
theorem mir_mir {t : List Nat} (h : BinT t) : mirT (mirT t) = t := by
  obtain ⟨h, _⟩ := h
  match t, h with
  | [a, b, c, d], _ => rfl
theorem sortS_perm_eq {xs ys : List (List Nat)} (h : xs.Perm ys) : sortS xs = sortS ys := sortS_uniq ((sortS_perm xs).trans h) (sortS_pw xs)
section
variable {N : Type} [DecidableEq N]
def walks (S : Nat → N → List N) (sp : N → Nat) (s : N) : Nat → Nat → N → List (List Nat)
  | 0, _, v => if v = s then [[]] else []
  | r + 1, a, v => (S a v).flatMap fun g => (walks S sp s r (a + 1) g).map (sp v :: ·)
variable {S : Nat → N → List N} {sp : N → Nat} {s : N}
def sm : List Nat → Nat
  | [] => 0
  | x :: r => x + sm r
theorem sm_append : ∀ x y : List Nat, sm (x ++ y) = sm x + sm y
  | [], y => by simp [sm]
  | a :: x, y => by
    show a + sm (x ++ y) = _
    rw [sm_append x y]
    simp only [sm]
    omega
theorem len_flatMap {α β : Type} (f : α → List β) : ∀ l : List α, (l.flatMap f).length = sm (l.map fun x => (f x).length)
  | [] => rfl
  | a :: l => by
    rw [List.flatMap_cons, List.length_append, len_flatMap f l]
    rfl
def cnt (S : Nat → N → List N) (sp : N → Nat) (s : N) (r a : Nat) (v : N) : Nat := (walks S sp s r a v).length
theorem cnt_succ (r a : Nat) (v : N) : cnt S sp s (r + 1) a v = sm ((S a v).map fun g => cnt S sp s r (a + 1) g) := by
  unfold cnt
  rw [walks, len_flatMap]
  simp only [List.length_map]
def lk {α : Type} (l : List (N × α)) (x : N) : Option α := (l.find? fun p => decide (p.1 = x)).map (·.2)
def lkd (l : List (N × Nat)) (x : N) : Nat := (lk l x).getD 0
theorem lk_cons {α : Type} (p : N × α) (l : List (N × α)) (x : N) : lk (p :: l) x = if p.1 = x then some p.2 else lk l x := by
  unfold lk
  rw [List.find?_cons]
  by_cases h : p.1 = x
  · simp [h]
  · simp [h]
theorem lk_none {α : Type} {l : List (N × α)} {x : N} (h : x ∉ l.map (·.1)) : lk l x = none := by
  induction l with
  | nil => rfl
  | cons p l ih =>
    simp only [List.map_cons, List.mem_cons, not_or] at h
    rw [lk_cons, if_neg fun e => h.1 e.symm]
    exact ih h.2
theorem lk_some {α : Type} {l : List (N × α)} {x : N} {v : α} (h : lk l x = some v) : (x, v) ∈ l := by
  induction l with
  | nil => cases h
  | cons p l ih =>
    rw [lk_cons] at h
    by_cases e : p.1 = x
    · rw [if_pos e] at h
      cases h
      rw [← e]
      exact List.mem_cons_self
    · rw [if_neg e] at h
      exact List.mem_cons_of_mem _ (ih h)
theorem lk_mem {α : Type} {l : List (N × α)} {x : N} {v : α} (nd : (l.map (·.1)).Nodup) (h : (x, v) ∈ l) : lk l x = some v := by
  induction l with
  | nil => cases h
  | cons p l ih =>
    rw [List.map_cons, List.nodup_cons] at nd
    rw [lk_cons]
    rcases List.mem_cons.mp h with rfl | h
    · rw [if_pos rfl]
    · rw [if_neg fun e => nd.1 (by rw [e]; exact List.mem_map.mpr ⟨_, h, rfl⟩)]
      exact ih nd.2 h
def backL (It : Nat → List (N × List N)) (s : N) : Nat → Nat → List (N × Nat)
  | 0, _ => [(s, 1)]
  | r + 1, a => (It a).filterMap fun p => if 0 < sm (p.2.map (lkd (backL It s r (a + 1)))) then some (p.1, sm (p.2.map (lkd (backL It s r (a + 1))))) else none
theorem lkd_fm {α : Type} {f : N × α → Nat} : ∀ {l : List (N × α)} {x : N}, (l.map (·.1)).Nodup → lkd (l.filterMap fun p => if 0 < f p then some (p.1, f p) else none) x = ((lk l x).map fun v => f (x, v)).getD 0
  | [], x, _ => rfl
  | p :: l, x, nd => by
    rw [List.map_cons, List.nodup_cons] at nd
    rw [List.filterMap_cons, lk_cons]
    have ih := lkd_fm (f := f) (x := x) nd.2
    by_cases h : 0 < f p
    · simp only [h, if_true]
      unfold lkd at ih ⊢
      rw [lk_cons]
      by_cases e : p.1 = x
      · rw [if_pos e, if_pos e]
        subst e
        rfl
      · rw [if_neg e, if_neg e]
        exact ih
    · simp only [h, if_false]
      rw [ih]
      by_cases e : p.1 = x
      · rw [if_pos e]
        subst e
        rw [lk_none nd.1]
        have h : ¬ 0 < f (p.1, p.2) := h
        show 0 = f (p.1, p.2)
        omega
      · rw [if_neg e]
theorem back_cnt {It : Nat → List (N × List N)} (hI : ∀ a, ((It a).map (·.1)).Nodup) (hS : ∀ a v, S a v = (lk (It a) v).getD []) : ∀ (r a : Nat) (v : N), lkd (backL It s r a) v = cnt S sp s r a v
  | 0, a, v => by
    unfold backL cnt walks lkd
    rw [lk_cons]
    by_cases e : s = v
    · rw [if_pos e, if_pos e.symm]; rfl
    · rw [if_neg e, if_neg fun z => e z.symm]; rfl
  | r + 1, a, v => by
    unfold backL
    rw [lkd_fm (f := fun p => sm (p.2.map (lkd (backL It s r (a + 1))))) (hI a), cnt_succ, hS]
    have e : lkd (backL It s r (a + 1)) = fun g => cnt S sp s r (a + 1) g := funext (back_cnt hI hS r (a + 1))
    cases lk (It a) v with
    | none => rfl
    | some gs => simp only [Option.map_some, Option.getD_some, e]
end
section
variable {N : Type} [DecidableEq N] {S : Nat → N → List N} {sp : N → Nat} {s : N}
def walksV (S : Nat → N → List N) (sp : N → Nat) (s : N) (r a : Nat) (V : List N) : List (List Nat) := V.flatMap (walks S sp s r a)
def endsV (S : Nat → N → List N) (sp : N → Nat) : Nat → List Nat → List N → List N
  | _, [], V => V
  | a, c :: t, V => endsV S sp (a + 1) t ((V.filter fun v => decide (sp v = c)).flatMap (S a))
theorem walksV_pre : ∀ (t : List Nat) (r a : Nat) (V : List N), (walksV S sp s (t.length + r) a V).filter (fun y => t.isPrefixOf y) = (walksV S sp s r (a + t.length) (endsV S sp a t V)).map (t ++ ·)
  | [], r, a, V => by
    simp [endsV]
  | c :: t, r, a, V => by
    rw [endsV]
    have ih := walksV_pre t r (a + 1) ((V.filter fun v => decide (sp v = c)).flatMap (S a))
    rw [show a + 1 + t.length = a + (c :: t).length by rw [List.length_cons]; omega] at ih
    rw [show (fun u : List Nat => (c :: t) ++ u) = (fun u => c :: u) ∘ (fun u => t ++ u) from rfl, ← List.map_map, ← ih]
    rw [show (c :: t).length + r = (t.length + r) + 1 by rw [List.length_cons]; omega]
    unfold walksV
    clear ih
    induction V with
    | nil => rfl
    | cons v V ih =>
      rw [List.flatMap_cons, List.filter_append, ih, List.filter_cons]
      by_cases e : sp v = c
      · rw [if_pos (decide_eq_true e), List.flatMap_cons, List.flatMap_append, List.filter_append, List.map_append]
        congr 1
        rw [walks, e]
        induction S a v with
        | nil => rfl
        | cons g gs ih =>
          rw [List.flatMap_cons, List.flatMap_cons, List.filter_append, List.filter_append, List.map_append, ih]
          congr 1
          rw [List.filter_map]
          congr 1
          refine List.filter_congr fun u _ => ?_
          simp [List.isPrefixOf]
      · rw [if_neg (by simpa using e)]
        have z : (walks S sp s (t.length + r + 1) a v).filter (fun y => (c :: t).isPrefixOf y) = [] := List.filter_eq_nil_iff.mpr fun y hy => by
          rw [walks] at hy
          obtain ⟨g, _, h2⟩ := List.mem_flatMap.mp hy
          obtain ⟨u, _, rfl⟩ := List.mem_map.mp h2
          simp only [List.isPrefixOf, Bool.and_eq_true, beq_iff_eq, not_and]
          intro z
          exact absurd z.symm e
        rw [z, List.nil_append]
theorem endsV_snoc : ∀ (t : List Nat) (c a : Nat) (V : List N), endsV S sp a (t ++ [c]) V = ((endsV S sp a t V).filter fun v => decide (sp v = c)).flatMap (S (a + t.length))
  | [], c, a, V => by simp [endsV]
  | d :: t, c, a, V => by
    rw [List.cons_append, endsV, endsV_snoc t c (a + 1), endsV, List.length_cons]
    rw [show a + 1 + t.length = a + (t.length + 1) by omega]
theorem pre_many (t : List Nat) (c r : Nat) (V : List N) : ((walksV S sp s (t.length + (r + 1)) 0 V).filter fun y => (t ++ [c]).isPrefixOf y).length = sm (((endsV S sp 0 t V).filter fun v => decide (sp v = c)).map fun v => cnt S sp s (r + 1) t.length v) := by
  have h := walksV_pre (s := s) (S := S) (sp := sp) (t ++ [c]) r 0 V
  rw [show (t ++ [c]).length + r = t.length + (r + 1) by rw [List.length_append, List.length_singleton]; omega] at h
  rw [h, List.length_map, endsV_snoc, Nat.zero_add]
  unfold walksV
  rw [len_flatMap, Nat.zero_add, List.length_append, List.length_singleton]
  generalize (endsV S sp 0 t V).filter (fun v => decide (sp v = c)) = W
  induction W with
  | nil => rfl
  | cons v W ih =>
    rw [List.flatMap_cons, List.map_append, sm_append, ih, List.map_cons]
    show _ = cnt S sp s (r + 1) t.length v + _
    rw [cnt_succ]
    rfl
structure Rep (l : List (N × Nat)) (V : List N) : Prop where
  nd : (l.map (·.1)).Nodup
  ct : ∀ v, lkd l v = V.count v
theorem sm_split (f : N → Nat) (v : N) : ∀ V : List N, sm (V.map f) = V.count v * f v + sm ((V.filter fun u => decide (u ≠ v)).map f)
  | [] => by simp [sm]
  | u :: V => by
    rw [List.map_cons, List.count_cons, List.filter_cons]
    show f u + sm (V.map f) = _
    rw [sm_split f v V]
    by_cases e : u = v
    · subst e
      simp only [beq_self_eq_true, if_true, ne_eq, not_true_eq_false, decide_false, Bool.false_eq_true, if_false, Nat.add_mul]
      omega
    · rw [if_neg (by simpa using e), if_pos (decide_eq_true e), List.map_cons]
      simp only [sm, Nat.add_zero]
      omega
theorem Rep.sum (f : N → Nat) : ∀ {l : List (N × Nat)} {V : List N}, Rep l V → sm (l.map fun p => p.2 * f p.1) = sm (V.map f)
  | [], V, h => by
    cases V with
    | nil => rfl
    | cons v V =>
      have := h.ct v
      rw [List.count_cons_self] at this
      unfold lkd lk at this
      simp at this
  | p :: l, V, h => by
    have nd := h.nd
    rw [List.map_cons, List.nodup_cons] at nd
    have hp : p.2 = V.count p.1 := by
      have := h.ct p.1
      unfold lkd at this
      rw [lk_cons, if_pos rfl] at this
      exact this
    have hl : Rep l (V.filter fun u => decide (u ≠ p.1)) := ⟨nd.2, fun v => by
      by_cases e : p.1 = v
      · subst e
        unfold lkd
        rw [lk_none nd.1]
        show 0 = _
        rw [List.count_eq_zero.mpr]
        intro z
        have := (List.mem_filter.mp z).2
        simp at this
      · rw [List.count_filter (by simpa using fun z => e z.symm)]
        have := h.ct v
        unfold lkd at this ⊢
        rw [lk_cons, if_neg e] at this
        exact this⟩
    rw [List.map_cons, sm_split f p.1 V, ← hp, ← Rep.sum f hl]
    rfl
theorem Rep.filter {l : List (N × Nat)} {V : List N} (h : Rep l V) (c : N → Bool) : Rep (l.filter fun p => c p.1) (V.filter c) := by
  refine ⟨h.nd.sublist (List.filter_sublist.map _), fun v => ?_⟩
  have hv := h.ct v
  have e : lk (l.filter fun p => c p.1) v = if c v = true then lk l v else none := by
    unfold lk
    rw [List.find?_filter]
    by_cases hc : c v = true
    · rw [if_pos hc]
      congr 2
      funext p
      by_cases e : p.1 = v
      · simp [e, hc]
      · simp [e]
    · rw [if_neg hc, List.find?_eq_none.mpr]
      · rfl
      · intro p _
        by_cases e : p.1 = v
        · simp [e, hc]
        · simp [e]
  unfold lkd at hv ⊢
  rw [e]
  by_cases hc : c v = true
  · rw [if_pos hc, List.count_filter hc]
    exact hv
  · rw [if_neg hc, List.count_eq_zero.mpr]
    · rfl
    · intro z
      exact hc (List.mem_filter.mp z).2
def setA {α : Type} (l : List (N × α)) (k : N) (v : α) : List (N × α) := if k ∈ l.map (·.1) then l.map fun p => if p.1 = k then (p.1, v) else p else l ++ [(k, v)]
theorem setA_keys {α : Type} (l : List (N × α)) (k : N) (v : α) : (setA l k v).map (·.1) = if k ∈ l.map (·.1) then l.map (·.1) else l.map (·.1) ++ [k] := by
  unfold setA
  split
  · rw [List.map_map]
    refine List.map_congr_left fun p _ => ?_
    show (if p.1 = k then (p.1, v) else p).1 = p.1
    split <;> rfl
  · simp
theorem setA_nd {α : Type} {l : List (N × α)} {k : N} {v : α} (h : (l.map (·.1)).Nodup) : ((setA l k v).map (·.1)).Nodup := by
  rw [setA_keys]
  split
  · exact h
  · rw [List.nodup_append]
    exact ⟨h, by simp, fun a ha b hb => by
      simp at hb
      subst hb
      intro e
      subst e
      contradiction⟩
theorem lk_setA {α : Type} : ∀ (l : List (N × α)) (k x : N) (v : α), lk (setA l k v) x = if k = x then some v else lk l x := by
  intro l k x v
  unfold setA
  split
  · rename_i h
    induction l with
    | nil => simp at h
    | cons p l ih =>
      rw [List.map_cons, lk_cons, lk_cons]
      by_cases e : p.1 = k
      · simp only [e, if_true]
        by_cases e2 : k = x
        · simp [e2]
        · simp only [e2, if_false]
          have go : ∀ l : List (N × α), lk (l.map fun p => if p.1 = k then (p.1, v) else p) x = lk l x := by
            intro l
            induction l with
            | nil => rfl
            | cons q l ih =>
              rw [List.map_cons, lk_cons, lk_cons, ih]
              by_cases e3 : q.1 = k
              · simp [e3, e2]
              · simp [e3]
          exact go l
      · simp only [e, if_false]
        have h2 : k ∈ l.map (·.1) := by
          rcases List.mem_cons.mp h with h | h
          · exact absurd h.symm e
          · exact h
        rw [ih h2]
        by_cases e2 : p.1 = x
        · have : k ≠ x := fun z => e (by rw [z, e2])
          simp [e2, this]
        · simp [e2]
  · rename_i h
    induction l with
    | nil => rw [List.nil_append, lk_cons]
    | cons p l ih =>
      simp only [List.map_cons, List.mem_cons, not_or] at h
      rw [List.cons_append, lk_cons, lk_cons, ih h.2]
      by_cases e : p.1 = x
      · have : k ≠ x := fun z => h.1 (by rw [z, e])
        simp [e, this]
      · simp [e]
def addA (l : List (N × Nat)) (g : N) (m : Nat) : List (N × Nat) := setA l g (lkd l g + m)
theorem addA_get (l : List (N × Nat)) (g x : N) (m : Nat) : lkd (addA l g m) x = lkd l x + if g = x then m else 0 := by
  unfold addA
  have h := lk_setA l g x (lkd l g + m)
  rw [show lkd (setA l g (lkd l g + m)) x = (lk (setA l g (lkd l g + m)) x).getD 0 from rfl, h]
  by_cases e : g = x
  · subst e
    simp
  · simp only [e, if_false]
    rfl
def goOne (S : N → List N) (l : List (N × Nat)) (p : N × Nat) : List (N × Nat) := (S p.1).foldl (fun l g => addA l g p.2) l
theorem goOne_spec (S : N → List N) (p : N × Nat) (l : List (N × Nat)) (h : (l.map (·.1)).Nodup) : ((goOne S l p).map (·.1)).Nodup ∧ ∀ x, lkd (goOne S l p) x = lkd l x + p.2 * (S p.1).count x := by
  unfold goOne
  generalize S p.1 = gs
  induction gs generalizing l with
  | nil => exact ⟨h, fun x => by simp⟩
  | cons g gs ih =>
    obtain ⟨h1, h2⟩ := ih (addA l g p.2) (setA_nd h)
    refine ⟨h1, fun x => ?_⟩
    rw [List.foldl_cons, h2 x, addA_get, List.count_cons, Nat.mul_add]
    by_cases e : g = x
    · simp only [e, if_true, beq_self_eq_true, Nat.mul_one]
      omega
    · rw [if_neg e, if_neg (by simpa using e)]
      omega
def goAll (S : N → List N) (l : List (N × Nat)) : List (N × Nat) := l.foldl (goOne S) []
theorem Rep.goAll (S : N → List N) {l : List (N × Nat)} {V : List N} (h : Rep l V) : Rep (goAll S l) (V.flatMap S) := by
  have go : ∀ (l a : List (N × Nat)), (a.map (·.1)).Nodup → ((l.foldl (goOne S) a).map (·.1)).Nodup ∧ ∀ x, lkd (l.foldl (goOne S) a) x = lkd a x + sm (l.map fun p => p.2 * (S p.1).count x) := by
    intro l
    induction l with
    | nil => intro a ha; exact ⟨ha, fun x => by simp [sm]⟩
    | cons p l ih =>
      intro a ha
      obtain ⟨h1, h2⟩ := goOne_spec S p a ha
      obtain ⟨h3, h4⟩ := ih _ h1
      refine ⟨h3, fun x => ?_⟩
      rw [List.foldl_cons, h4 x, h2 x, List.map_cons]
      simp only [sm]
      omega
  obtain ⟨h1, h2⟩ := go l [] (by simp)
  refine ⟨h1, fun x => ?_⟩
  rw [show LW.goAll S l = l.foldl (goOne S) [] from rfl, h2 x]
  have := h.sum fun v => (S v).count x
  rw [this]
  show (lk [] x).getD 0 + _ = _
  rw [show ((lk ([] : List (N × Nat)) x).getD 0) = 0 from rfl, Nat.zero_add]
  clear this h2 h1 go h
  induction V with
  | nil => rfl
  | cons v V ih => rw [List.map_cons, List.flatMap_cons, List.count_append, ← ih]; rfl
theorem Rep.one (s : N) : Rep [(s, 1)] [s] := by
  refine ⟨by simp, fun v => ?_⟩
  unfold lkd
  rw [lk_cons, List.count_cons]
  by_cases e : s = v
  · rw [if_pos e, if_pos (by simpa using e)]; rfl
  · rw [if_neg e, if_neg (by simpa using e)]; rfl
theorem Rep.le {l : List (N × Nat)} {V : List N} (h : Rep l V) : ∀ r ∈ l, r.2 ≤ V.length := by
  intro r hr
  have := h.ct r.1
  unfold lkd at this
  rw [lk_mem h.nd (v := r.2) hr] at this
  rw [show r.2 = (some r.2).getD 0 from rfl, this]
  exact List.count_le_length
theorem nodup_bound {l m : List N} (nd : l.Nodup) (h : ∀ x ∈ l, x ∈ m) : l.length ≤ m.length := List.Nodup.length_le_of_subset nd h
end
abbrev Tx := List Nat
def ksT {α : Type} (l : List (Tx × α)) : List L2.Key := l.map fun p => kS p.1
def dT {α : Type} (f : α → D) (l : List (Tx × α)) : D := .dct (ksT l) (l.map fun p => f p.2)
theorem ksT_len {α : Type} (l : List (Tx × α)) : (ksT l).length = l.length := by simp [ksT]
theorem kS_iff {x y : Tx} : kS x = kS y ↔ x = y := ⟨kS_inj, fun h => by rw [h]⟩
theorem ksT_mem {α : Type} {l : List (Tx × α)} {x : Tx} : kS x ∈ ksT l ↔ x ∈ l.map (·.1) := by
  unfold ksT
  rw [List.mem_map, List.mem_map]
  constructor
  · rintro ⟨p, hp, e⟩
    exact ⟨p, hp, kS_inj e⟩
  · rintro ⟨p, hp, rfl⟩
    exact ⟨p, hp, rfl⟩
theorem getK_T {α : Type} (f : α → D) (x : Tx) : ∀ l : List (Tx × α), getK (ksT l) (l.map fun p => f p.2) (kS x) = (lk l x).map f
  | [] => rfl
  | p :: l => by
    have ih := getK_T f x l
    unfold getK ksT at ih ⊢
    rw [List.map_cons, List.map_cons, List.zip_cons_cons, List.find?_cons, lk_cons]
    by_cases e : p.1 = x
    · rw [decide_eq_true (kS_iff.mpr e), if_pos e]
      rfl
    · rw [decide_eq_false (fun z => e (kS_inj z)), if_neg e]
      exact ih
theorem ixF_T {α : Type} {f : α → D} {l : List (Tx × α)} {x : Tx} {v : α} (h : lk l x = some v) : ixF (dT f l) (.str x) = M.ret (f v) := by
  show M.of (getK (ksT l) _ (kS x)) = _
  rw [getK_T, h]
  rfl
theorem inF_T {α : Type} (neg : Bool) (f : α → D) (l : List (Tx × α)) (x : Tx) : inF neg (.str x) (dT f l) = M.ret (.bl (if neg then !(lk l x).isSome else (lk l x).isSome)) := by
  show M.ret (D.bl (if neg then !(getK (ksT l) _ (kS x)).isSome else (getK (ksT l) _ (kS x)).isSome)) = _
  rw [getK_T]
  cases lk l x <;> rfl
theorem getF2_T {α : Type} (f : α → D) (l : List (Tx × α)) (x : Tx) (z : D) : getF2 (dT f l) (.str x) z = M.ret (((lk l x).map f).getD z) := by
  show M.ret ((getK (ksT l) _ (kS x)).getD z) = _
  rw [getK_T]
theorem pairs_T {α : Type} (f : α → D) (l : List (Tx × α)) : pairsD0 (dT f l) = M.ret (l.map fun p => .tup [.str p.1, f p.2]) := by
  show M.ret (itemL _ _) = _
  unfold itemL ksT
  rw [List.zip_map', List.map_map]
  congr 1
theorem keys_T {α : Type} (f : α → D) (l : List (Tx × α)) : keysD0 (dT f l) = M.ret (l.map fun p => .str p.1) := by
  show M.ret ((ksT l).map kD) = _
  unfold ksT
  rw [List.map_map]
  congr 1
theorem listK_T {α : Type} (f : α → D) (l : List (Tx × α)) : listKF [dT f l] = M.ret (l.map fun p => .str p.1) := keys_T f l
def oT {α : Type} (f : α → D) (l : List (Tx × α)) : O := .k (ksT l) ((l.map fun p => f p.2).map O.v)
theorem oT_toD {α : Type} (f : α → D) (l : List (Tx × α)) : (oT f l).toD = dT f l := by
  show D.dct _ (O.toDs _) = _
  rw [O.toDs_v]
  rfl
theorem zip_T {α β : Type} (l : List (Tx × α)) (g : Tx × α → β) : (ksT l).zip (l.map g) = l.map fun p => (kS p.1, g p) := by
  unfold ksT
  rw [List.zip_map']
theorem setKs_T {α : Type} (l : List (Tx × α)) (k : Tx) (v : α) : setKs (ksT l) (kS k) = ksT (setA l k v) := by
  unfold setKs
  have h := congrArg (List.map kS) (setA_keys l k v)
  rw [List.map_map] at h
  show _ = (setA l k v).map (kS ∘ (·.1))
  rw [h]
  by_cases e : k ∈ l.map (·.1)
  · rw [if_pos (ksT_mem.mpr e), if_pos e, List.map_map]
    rfl
  · rw [if_neg fun z => e (ksT_mem.mp z), if_neg e, List.map_append, List.map_map]
    rfl
theorem setVs_T {α : Type} (f : α → D) (l : List (Tx × α)) (k : Tx) (v : α) : setVs (ksT l) ((l.map fun p => f p.2).map O.v) (kS k) (.v (f v)) = ((setA l k v).map fun p => f p.2).map O.v := by
  unfold setVs setA
  by_cases e : k ∈ l.map (·.1)
  · rw [if_pos (ksT_mem.mpr e), if_pos e]
    unfold repK
    rw [List.map_map, zip_T, List.map_map, List.map_map, List.map_map]
    refine List.map_congr_left fun p _ => ?_
    show (if kS p.1 = kS k then _ else _) = O.v (f (if p.1 = k then (p.1, v) else p).2)
    by_cases e : p.1 = k
    · rw [if_pos (kS_iff.mpr e), if_pos e]
    · rw [if_neg (fun z => e (kS_inj z)), if_neg e]
      rfl
  · rw [if_neg fun z => e (ksT_mem.mp z), if_neg e]
    simp
theorem put_T {α : Type} {ρ : Env2} {j : Nat} {f : α → D} {l : List (Tx × α)} {k : Tx} {v : α} (h : l.length < 16777216) : dputK ρ j (keyD (.str k)) (f v) (some (some (.tr (oT f l)))) = M.ret (.nx (ρ.set j (some (.tr (oT f (setA l k v)))))) := by
  have h2 := q_dputK (ρ2 := ρ) (j := j) (k := kS k) (d := f v) (ks := ksT l) (os := (l.map fun p => f p.2).map O.v) (by rw [ksT_len]; exact h)
  rw [setKs_T (v := v), setVs_T] at h2
  exact h2
abbrev dI (l : List (Tx × Nat)) : D := dT (fun m : Nat => D.int (m : Int)) l
abbrev dL (l : List (Tx × List Tx)) : D := dT (fun gs : List Tx => D.lst (gs.map D.str)) l
theorem getI (l : List (Tx × Nat)) (x : Tx) : getF2 (dI l) (.str x) (.int 0) = M.ret (.int (lkd l x : Int)) := by
  rw [getF2_T]
  unfold lkd
  cases lk l x <;> rfl
theorem put_T2 {α : Type} {ρ : Env2} {j : Nat} {f : α → D} {l : List (Tx × α)} {k : Tx} {v : α} (h : l.length < 16777216) : dputK ρ j (some (.inr ⟨k.toArray⟩)) (f v) (some (some (.tr (oT f l)))) = M.ret (.nx (ρ.set j (some (.tr (oT f (setA l k v)))))) := put_T h
theorem disp11 (s : Tx) : eDispK (dispD [(.str s, .int 1)]) = M.ret (dI [(s, 1)]) := rfl
theorem dT_flat {α : Type} (f : α → D) (l : List (Tx × α)) : (dT f l).flat = false := rfl
variable {It : Nat → List (Tx × List Tx)}
def backs (It : Nat → List (Tx × List Tx)) (s : Tx) (n : Nat) : List D := (List.range (n + 1)).map fun a => dI (backL It s (n - a) a)
def dB (It : Nat → List (Tx × List Tx)) (n : Nat) (ss : List Tx) : D := dT (fun s => .lst (backs It s n)) (ss.map fun s => (s, s))
theorem lk_self {α : Type} [DecidableEq α] {ss : List α} {s : α} (h : s ∈ ss) : lk (ss.map fun s => (s, s)) s = some s := by
  induction ss with
  | nil => cases h
  | cons a ss ih =>
    rw [List.map_cons, lk_cons]
    by_cases e : a = s
    · rw [if_pos e, e]
    · rw [if_neg e]
      exact ih (by rcases List.mem_cons.mp h with h | h; exact absurd h.symm e; exact h)
theorem backs_at {s : Tx} {n a : Nat} (h : a ≤ n) : atI (backs It s n) (a : Int) = some (dI (backL It s (n - a) a)) := atI_nat (by
  unfold backs
  rw [List.getElem?_map, List.getElem?_range (by omega)]
  rfl)
theorem ixB {n : Nat} {ss : List Tx} {s : Tx} (h : s ∈ ss) : ixF (dB It n ss) (.str s) = M.ret (.lst (backs It s n)) := ixF_T (lk_self h)
theorem dB_flat (n : Nat) (ss : List Tx) : (dB It n ss).flat = false := rfl
theorem keysB (n : Nat) (ss : List Tx) : keysD0 (dB It n ss) = M.ret (ss.map D.str) := by
  unfold dB
  rw [keys_T, List.map_map]
  rfl
theorem getL (l : List (Tx × List Tx)) (x : Tx) : getF2 (dL l) (.str x) (.lst []) = M.ret (.lst (((lk l x).getD []).map .str)) := by
  rw [getF2_T]
  cases lk l x <;> rfl
local macro_rules | `(tactic| walk_at "ev6") => `(tactic| try simp -implicitDefEqProofs -dsimp (disch := walk_at "dis") only [backs_at, dB_flat, dT_flat, disp11, getI, getL, inF_T, ixB, keysB, keys_T, listK_T, oT_toD, pairs_T, ↓q_seq, ↓q_seqK_nx, ↓q_seqK_rt, ↓q_seqK_rn, ↓q_seqK_bk, ↓q_seqK_ct, ↓q_runD, ↓q_runN, q_runK_rt, q_runK_rn, q_runK_nx, q_runKN_rn, ↓q_set, ↓q_setN, ↓q_ret, ↓q_retN, ↓q_if, ↓q_unp, q_unpK, ↓q_app, q_appK, q_guard, ↓q_for, ↓q_forR, q_loopK_nx, q_loopK_ct, q_loopK_bk, q_loopK_rt, q_loopK_rn, ↓q_sNil, ↓q_e2, ↓q_t2, ↓q_e1, ↓q_cst, ↓q_aN, ↓q_aC, ↓q_call, ↓q_callN, ↓q_eN, ↓q_nLst, q_lstK, ↓q_eTup, q_tupK, ↓q_tVal, ↓q_tNot, ↓q_tAnd, ↓q_tOr, ↓q_eAnd, ↓q_eNot, ↓q_eIf, ↓q_iAny, ↓q_iRg1, ↓q_iEnum, ↓q_nLc, ↓q_cT, ↓q_oN, ↓q_oS, ↓q_eSl, ↓q_eChain, ↓q_tBl, ↓q_eMake, ↓q_eMeth, ↓q_iSeq, q_selK, q_self, ↓q_iTwoS, q_two2s, ↓q_nLc2, q_inE, q_notInE, q_is_non, q_is_str, q_is_int, q_is_tup, q_is_lst, q_isnt_non, q_isnt_str, q_isnt_int, q_isnt_tup, q_isnt_lst, q_list_l, q_list_t, q_ixF_s, q_ixF_l, q_ixF_t, q_ixF_b, q_inF_s, q_inF_l, q_inF_t, q_lenG_s, q_lenG_l, q_lenG_t, q_lenG_d, q_lenG_dt, ↓q_setD, ↓q_dput, q_dputK, q_keyI, q_keyS, q_seeT, q_toDv, q_toDl, q_toDk, q_toDt, q_toDs0, q_toDs1, q_toDsm, q_fls0, q_fls1, q_flv, q_fll, q_flk, q_flt, q_flsm, q_sloV, q_sloK, q_sloT, q_sloL, q_sloLl, ↓q_oV, ↓q_oL, ↓q_oC, ↓q_oaN, ↓q_oaC, ↓q_parO, q_parOK, q_flatS, q_flatI, q_flatS2, q_mapv0, q_sloL0, bnd_ret, bnd_assoc, bnd_assoc', bnd_r, cnd_t, cnd_f, fail_bnd, bind_bnd, str01, List.cons.injEq, and_true, decide_true, decide_false, cut_toN, cut_fromN, cut_from1N, cut_to1N, cut_to1, cut_to2, cut_to3, cut_from1, cut_toM1, cut_fromM1, DL.startD, List.map_cons, List.map_nil, List.length_cons, List.length_nil, Nat.reduceAdd, Nat.reduceSub, List.replicate, List.cons_append, List.nil_append, view_eq, viewAt_cons, viewAt_nil, List.contains_cons, List.contains_nil, Nat.reduceBEq, Bool.or_true, Bool.or_false, Bool.true_or, Bool.false_or, if_true, Bool.false_eq_true, if_false, Option.map_some, Option.map_none, see_val, see_own, rd_0, rd_1, rd_2, rd_3, rd_4, rd_5, rd_6, rd_7, rd_8, rd_9, Int.reduceToNat, flat_int, flat_str, flat_bl, flat_non, flat_bag, flat_lst, flat_tup, flat_obj, List.all_cons, List.all_nil, Bool.and_true, Bool.true_and, Bool.and_false, Bool.false_and, keepIf_t, keepIf_f, frz_eq, frzAt_cons, frzAt_nil, List.set_cons_succ, List.set_cons_zero, subD_int, addD_int, negD_int, asI_int, asB_bl, truD_bl, lenF_lst, lenF_tup, intF_int, intF_bl, absF_int, ltD_int, leD_int, gtD_int, geD_int, eqD_int, eqD_str, neD_int, neD_str, inD_str, notInD_str, slD_lst, slD_scr, revD_lst, itemsD_lst, itemsD_tup, itemsD_str, Bool.not_true, Bool.not_false, ixD_l, ixD_t, ofSome, atI_0, atI_1, atI_2, atI_3, atI_4, atI_app, slotD_obj, propD_obj, propN_obj, isC_obj, get0, get1, get2, get3, getS, bName_eq, bTup_eq, bCons_eq, bNil_eq, setAll2_cons, setAll2_nil, setAllD_cons, setAllD_nil, wipeD_cons, wipeD_nil, isi_str_str, isi_int_int, isi_bool_int, List.getElem?_cons_zero, List.getElem?_cons_succ, q_flat_dct, q_flat_dcT, q_isB, q_isntB, q_n2, q_cndN, q_szL, q_sloL1, q_sloL2, q_sloL3, q_c0, q_c1, q_c2, q_c3, q_c4, q_c5, q_c6, q_c7, q_c8, q_c9, q_c10, q_c11, q_c12, q_c13, q_c14, q_c15, q_c16, q_getF2, q_e3D, q_dictPF, q_guardT, q_liftE, q_liftK, q_seqE, q_seqEK_nx, q_seqEK_rt, q_seqEK_rn, q_seqEK_ex, q_ifE, q_eCallE, q_runE, q_runEK_rt, q_runEK_rn, q_runEK_nx, q_runEK_ex, q_eLiftE, q_eqBl, q_neBl, q_toDu, q_flu, q_sloU, q_iKeysD, q_keysD0, q_keysD0l, q_keysD0s, q_pairsD0, q_popM, q_popK, q_exvM, q_exvD, q_exvK, q_listKF, q_sumL, q_asLF, q_asLK, q_tput, q_tputK, q_inT, q_inTK, q_keysI1, q_keys2s, q_keys2i, q_keys2ii, q_celK, q_okE_ok, q_okE_ex, q_sxSet, q_sxSetK_ok, q_sxSetK_ex, q_axNil, q_axCons, q_axConsK_ok, q_axConsK_ex, q_axConsK2_ok, q_axConsK2_ex, q_eIfE, q_forX, q_forRX, q_noxE, q_noxEK, q_sxPar, q_sxParK_ok, q_cut2, q_cut3, eq_self, cnd_dt, cnd_df, Int.toNat_natCast, lenF_str, modD_int, divD_int, addD_str, addD_lst, slD_str, revD_str, ixD_str, ixD_str1, ixD_strmod, rng1_int, rng2_int, mulD_intl, mulD_intr, intF_dig])
variable {LT : List (LamI × (DL.Env → M D))} {g : D} {It : Nat → List (Tx × List Tx)}
variable {LT : List (LamI × (DL.Env → M D))} {g : D} {It : Nat → List (Tx × List Tx)}
def SS (It : Nat → List (Tx × List Tx)) (a : Nat) (v : Tx) : List Tx := (lk (It a) v).getD []
def spq (q : Nat) (v : Tx) : Nat := v.getD q 0
abbrev wlk (It : Nat → List (Tx × List Tx)) (q : Nat) (s : Tx) (n : Nat) : List Tx := walks (SS It) (spq q) s n 0 s
def texL (It : Nat → List (Tx × List Tx)) (q n : Nat) (ss : List Tx) : List Tx := ss.flatMap fun s => wlk It q s n
structure Steps (It : Nat → List (Tx × List Tx)) (q : Nat) : Prop where
  nd : ∀ a, ((It a).map (·.1)).Nodup
  few : ∀ a, (It a).length ≤ 100000
  gs : ∀ a, ∀ p ∈ It a, p.2.length ≤ 100000
  ln : ∀ a, ∀ p ∈ It a, ∀ v ∈ p.2, q < v.length ∧ v.length ≤ 1000
theorem lk_isSome {α : Type} {x : Tx} : ∀ {l : List (Tx × α)}, (lk l x).isSome = true ↔ x ∈ l.map (·.1)
  | [] => by simp [lk]
  | p :: l => by
    rw [lk_cons, List.map_cons, List.mem_cons]
    by_cases e : p.1 = x
    · rw [if_pos e]
      exact ⟨fun _ => .inl e.symm, fun _ => rfl⟩
    · rw [if_neg e, lk_isSome (l := l)]
      exact ⟨.inr, fun h => h.resolve_left fun z => e z.symm⟩
section
variable {q : Nat} {s : Tx} {n : Nat}
end
variable {LT : List (LamI × (DL.Env → M D))} {g : D} {It : Nat → List (Tx × List Tx)}
abbrev Fr := List (Tx × List (Tx × Nat))
abbrev oF (F : Fr) : O := oT (fun l : List (Tx × Nat) => dI l) F
theorem putF {ρ : Env2} {j : Nat} {F : Fr} {k : Tx} {l : List (Tx × Nat)} (h : F.length < 16777216) : dputK ρ j (some (.inr ⟨k.toArray⟩)) (dI l) (some (some (.tr (oF F)))) = M.ret (.nx (ρ.set j (some (.tr (oF (setA F k l)))))) := put_T2 h
def signF (q c : Nat) (F : Fr) : Fr := F.map fun p => (p.1, p.2.filter fun r => decide (r.1.getD q 0 = c))
theorem keys_map {α β : Type} (F : List (Tx × α)) (f : α → β) : (F.map fun p => (p.1, f p.2)).map (·.1) = F.map (·.1) := by
  rw [List.map_map]
  rfl
def manyF (It : Nat → List (Tx × List Tx)) (n a : Nat) (F : Fr) : Nat := sm (F.map fun p => sm (p.2.map fun r => r.2 * lkd (backL It p.1 (n - a) a) r.1))
def nextF (S : List (Tx × List Tx)) (F : Fr) : Fr := F.map fun p => (p.1, goAll (fun v => (lk S v).getD []) p.2)
variable {LT : List (LamI × (DL.Env → M D))} {g : D} {It : Nat → List (Tx × List Tx)} {q n : Nat} {gs : List Tx}
structure FrOk (It : Nat → List (Tx × List Tx)) (q : Nat) (gs : List Tx) (t : Tx) (F : Fr) : Prop where
  ks : F.map (·.1) = gs
  rep : ∀ p ∈ F, Rep p.2 (endsV (SS It) (spq q) 0 t [p.1])
def cntP (It : Nat → List (Tx × List Tx)) (q n : Nat) (gs : List Tx) (t : Tx) : Nat := ((texL It q n gs).filter fun y => t.isPrefixOf y).length
theorem FrOk.start : FrOk It q gs [] (gs.map fun s => (s, [(s, 1)])) := by
  refine ⟨by rw [List.map_map]; exact List.map_id'' (fun _ => rfl) gs, fun p hp => ?_⟩
  obtain ⟨s, _, rfl⟩ := List.mem_map.mp hp
  exact Rep.one s
theorem FrOk.sign {t : Tx} {F : Fr} (h : FrOk It q gs t F) (c : Nat) : (signF q c F).map (·.1) = gs ∧ ∀ p ∈ signF q c F, Rep p.2 ((endsV (SS It) (spq q) 0 t [p.1]).filter fun v => decide (spq q v = c)) := by
  refine ⟨by rw [← h.ks]; exact keys_map F _, fun p hp => ?_⟩
  obtain ⟨r, hr, rfl⟩ := List.mem_map.mp hp
  exact (h.rep r hr).filter fun v => decide (spq q v = c)
theorem FrOk.next {t : Tx} {F : Fr} (h : FrOk It q gs t F) (c : Nat) : FrOk It q gs (t ++ [c]) (nextF (It t.length) (signF q c F)) := by
  obtain ⟨h1, h2⟩ := h.sign c
  refine ⟨by rw [← h1]; exact keys_map _ _, fun p hp => ?_⟩
  obtain ⟨r, hr, rfl⟩ := List.mem_map.mp hp
  rw [endsV_snoc, Nat.zero_add]
  exact (h2 r hr).goAll _
theorem sm_congr {α : Type} {l : List α} {f g : α → Nat} (h : ∀ a ∈ l, f a = g a) : sm (l.map f) = sm (l.map g) := by rw [List.map_congr_left h]
theorem FrOk.many (hI : Steps It q) {t : Tx} {F : Fr} (h : FrOk It q gs t F) (hn : t.length < n) (c : Nat) : manyF It n t.length (signF q c F) = cntP It q n gs (t ++ [c]) := by
  obtain ⟨h1, h2⟩ := h.sign c
  have e1 : manyF It n t.length (signF q c F) = sm ((signF q c F).map fun p => ((wlk It q p.1 n).filter fun y => (t ++ [c]).isPrefixOf y).length) := by
    unfold manyF
    refine sm_congr fun p hp => ?_
    have e : (fun r : Tx × Nat => r.2 * lkd (backL It p.1 (n - t.length) t.length) r.1) = fun r => r.2 * cnt (SS It) (spq q) p.1 (n - t.length) t.length r.1 := by
      funext r
      rw [back_cnt (S := SS It) (sp := spq q) hI.nd (fun _ _ => rfl)]
    rw [e, Rep.sum _ (h2 p hp)]
    have h3 := pre_many (S := SS It) (sp := spq q) (s := p.1) t c (n - t.length - 1) [p.1]
    rw [show t.length + (n - t.length - 1 + 1) = n by omega, show n - t.length - 1 + 1 = n - t.length by omega] at h3
    rw [← h3]
    unfold walksV
    rw [List.flatMap_cons, List.flatMap_nil, List.append_nil]
  rw [e1]
  unfold cntP texL
  rw [← h1]
  generalize signF q c F = G
  induction G with
  | nil => rfl
  | cons p G ih =>
    rw [List.map_cons, List.map_cons, List.flatMap_cons, List.filter_append, List.length_append]
    show _ + sm _ = _
    rw [ih]
structure Nodes (It : Nat → List (Tx × List Tx)) (q : Nat) (nds : List Tx) : Prop where
  gs : ∀ a, ∀ p ∈ It a, ∀ v ∈ p.2, v ∈ nds
  few : nds.length ≤ 5000
  ln : ∀ v ∈ nds, q < v.length ∧ v.length ≤ 1000
  deg : ∀ a v, (SS It a v).length ≤ 4
theorem addA_keys {l : List (Tx × Nat)} {g x : Tx} {m : Nat} (h : x ∈ (addA l g m).map (·.1)) : x ∈ l.map (·.1) ∨ x = g := by
  unfold addA at h
  rw [setA_keys] at h
  split at h
  · exact .inl h
  · rcases List.mem_append.mp h with h | h
    · exact .inl h
    · exact .inr (List.mem_singleton.mp h)
theorem fold_keys {m : Nat} {x : Tx} : ∀ {S : List Tx} {l : List (Tx × Nat)}, x ∈ (S.foldl (fun l g => addA l g m) l).map (·.1) → x ∈ l.map (·.1) ∨ x ∈ S
  | [], l, h => .inl h
  | g :: S, l, h => by
    rw [List.foldl_cons] at h
    rcases fold_keys h with h | h
    · rcases addA_keys h with h | rfl
      · exact .inl h
      · exact .inr List.mem_cons_self
    · exact .inr (List.mem_cons_of_mem _ h)
theorem goAll_keys {S : Tx → List Tx} {x : Tx} {l : List (Tx × Nat)} (h : x ∈ (goAll S l).map (·.1)) : ∃ p ∈ l, x ∈ S p.1 := by
  have go : ∀ (l a : List (Tx × Nat)), x ∈ (l.foldl (goOne S) a).map (·.1) → x ∈ a.map (·.1) ∨ ∃ p ∈ l, x ∈ S p.1 := by
    intro l
    induction l with
    | nil => intro a h; exact .inl h
    | cons p l ih =>
      intro a h
      rw [List.foldl_cons] at h
      rcases ih _ h with h | ⟨r, hr, h⟩
      · rcases fold_keys h with h | h
        · exact .inl h
        · exact .inr ⟨p, List.mem_cons_self, h⟩
      · exact .inr ⟨r, List.mem_cons_of_mem _ hr, h⟩
  rcases go l [] h with h | h
  · cases h
  · exact h
def InN (nds : List Tx) (F : Fr) : Prop := ∀ p ∈ F, ∀ r ∈ p.2, r.1 ∈ nds
theorem InN.sign {nds : List Tx} {F : Fr} (h : InN nds F) (q c : Nat) : InN nds (signF q c F) := fun p hp r hr => by
  obtain ⟨z, hz, rfl⟩ := List.mem_map.mp hp
  exact h z hz r (List.mem_filter.mp hr).1
theorem InN.next {nds : List Tx} (N : Nodes It q nds) (a : Nat) (F : Fr) : InN nds (nextF (It a) F) := fun p hp r hr => by
  obtain ⟨z, hz, rfl⟩ := List.mem_map.mp hp
  obtain ⟨w, _, hw⟩ := goAll_keys (x := r.1) (List.mem_map.mpr ⟨r, hr, rfl⟩)
  have hw : r.1 ∈ (lk (It a) w.1).getD [] := hw
  cases e : lk (It a) w.1 with
  | none => rw [e] at hw; cases hw
  | some gs => rw [e] at hw; exact N.gs a _ (lk_some e) _ hw
def F_nodes_behind : Env2 → M Out :=
  (seqM (parOM 2 3 [0, 1] (oaC (oC (.k [] [])) (oaC (oL (nCall listF (aC (e3D getF2 (rdEnv 0) (rdEnv 1) (eN (nLst aN))) aN))) oaN)))
  (seqM (whileM [3] (t2 (eqD true) (rdEnv 3) (eN (nLst aN)))
  (seqM (popM 4 3)
  (ifM [2, 4] (t2 (inF true) (rdEnv 4) (rdEnv 2))
  (seqM (dputM 2 [4] (cst (.bl true)) (rdEnv 4))
  (exvM 3 [0, 4] (e3D getF2 (rdEnv 0) (rdEnv 4) (eN (nLst aN)))))
  sNil)) 1000000)
  (retM [2] (rdEnv 2))))
def R_nodes_behind : List D → M D := runD 5 F_nodes_behind
def clsW (g : Tx → Tx) (ts : List Tx) (u : Tx) : List Tx := ts.filter fun t => decide (g t = u)
structure GrpW (g : Tx → Tx) (ts us : List Tx) : Prop where
  nd : us.Nodup
  mem : ∀ u, u ∈ us ↔ ∃ t ∈ ts, g t = u
section
variable {g e : Tx → Tx}
end
def beg (w : Tx) : Tx := w.take (w.length - 1)
def fin1 (w : Tx) : Tx := w.drop 1
def stW (ws : List Tx) (us : List Tx) : List (Tx × List Tx) := us.map fun u => (u, (clsW beg ws u).map fin1)
def SL (S : List (Tx × List Tx)) (v : Tx) : List Tx := (lk S v).getD []
inductive Rch (S : List (Tx × List Tx)) : Tx → Tx → Prop
  | one {v g : Tx} : g ∈ SL S v → Rch S v g
  | more {v w g : Tx} : Rch S v w → g ∈ SL S w → Rch S v g
theorem Rch.trans {S : List (Tx × List Tx)} {a b c : Tx} (h : Rch S a b) (k : Rch S b c) : Rch S a c := by
  induction k with
  | one h1 => exact .more h h1
  | more _ h1 ih => exact .more ih h1
theorem Rch.src {S : List (Tx × List Tx)} {a b : Tx} (h : Rch S a b) : a ∈ S.map (·.1) := by
  have key : ∀ {v g}, g ∈ SL S v → v ∈ S.map (·.1) := by
    intro v g hg
    unfold SL at hg
    cases e : lk S v with
    | none => rw [e] at hg; cases hg
    | some l => exact lk_isSome.mp (by rw [e]; rfl)
  induction h with
  | one h1 => exact key h1
  | more _ _ ih => exact ih
structure StepsOk (S : List (Tx × List Tx)) (nds : List Tx) : Prop where
  nd : (S.map (·.1)).Nodup
  ks : ∀ p ∈ S, p.1 ∈ nds
  gs : ∀ p ∈ S, ∀ g ∈ p.2, g ∈ nds
  deg : ∀ v, (SL S v).length ≤ 4
  tx : ∀ v ∈ nds, v.length ≤ 50 ∧ ∀ c ∈ v, c < 100
  few : nds.length ≤ 4000
theorem StepsOk.mem {S : List (Tx × List Tx)} {nds : List Tx} (h : StepsOk S nds) {v g : Tx} (hg : g ∈ SL S v) : g ∈ nds := by
  unfold SL at hg
  cases e : lk S v with
  | none => rw [e] at hg; cases hg
  | some l => rw [e] at hg; exact h.gs _ (lk_some e) g hg
theorem tx_okA {nds W : List Tx} (ht : ∀ v ∈ nds, v.length ≤ 50 ∧ ∀ c ∈ v, c < 100) (hW : ∀ x ∈ W, x ∈ nds) (hl : W.length ≤ 20004) : okA (.lst (W.map D.str)) = true := okA_lst (k := 0) (w := 508) (fun d hd => by
  obtain ⟨x, hx, rfl⟩ := List.mem_map.mp hd
  obtain ⟨h1, h2⟩ := ht x (hW x hx)
  exact (Okd.str (List.all_eq_true.mpr fun c hc => decide_eq_true (Nat.lt_trans (h2 c hc) (by decide)))).mono (Nat.le_refl _) (by omega)) (by omega) (by rw [List.length_map]; omega)
abbrev dU (F : List Tx) : D := dT (fun _ : Unit => D.bl true) (F.map fun x => (x, ()))
abbrev oU (F : List Tx) : O := oT (fun _ : Unit => D.bl true) (F.map fun x => (x, ()))
theorem lk_U {F : List Tx} {x : Tx} : (lk (F.map fun x => (x, ())) x).isSome = decide (x ∈ F) := by
  rw [Bool.eq_iff_iff, decide_eq_true_iff, lk_isSome, List.map_map]
  simp
theorem setA_U {F : List Tx} {x : Tx} (h : x ∉ F) : setA (F.map fun x => (x, ())) x () = (F ++ [x]).map fun x => (x, ()) := by
  unfold setA
  rw [if_neg (by rw [List.map_map]; simpa using h), List.map_append]
  rfl
theorem behind_is {S : List (Tx × List Tx)} {nds : List Tx} (h : StepsOk S nds) (v : Tx) : ∃ F : List Tx, F.Nodup ∧ (∀ x, x ∈ F ↔ Rch S v x) ∧ R_nodes_behind [dL S, .str v] = M.ret (dU F) := by
  have key : Ev (R_nodes_behind [dL S, .str v]) fun d => ∃ F : List Tx, F.Nodup ∧ (∀ x, x ∈ F ↔ Rch S v x) ∧ d = dU F := by
    simp only [R_nodes_behind, F_nodes_behind]
    walk_at "ev6"
    refine Ev.bind (P := fun o => ∃ F : List Tx, ∃ s3 s4, F.Nodup ∧ (∀ x, x ∈ F ↔ Rch S v x) ∧ o = .nx [some (.val (dL S)), some (.val (.str v)), some (.tr (oU F)), s3, s4]) (ev_while (5 + 5 * nds.length) (fun i ρ => ∃ F W : List Tx, ∃ s4, F.Nodup ∧ (∀ x ∈ F, x ∈ nds) ∧ (∀ x ∈ W, x ∈ nds) ∧ (∀ x ∈ F, Rch S v x) ∧ (∀ x ∈ W, Rch S v x) ∧ (∀ g ∈ SL S v, g ∈ F ∨ g ∈ W) ∧ (∀ x ∈ F, ∀ g ∈ SL S x, g ∈ F ∨ g ∈ W) ∧ W.length + i ≤ 4 + 5 * F.length ∧ ρ = [some (.val (dL S)), some (.val (.str v)), some (.tr (oU F)), some (.own (W.map .str)), s4]) ?_ 1000000 0 _ (by have := h.few; omega) ⟨[], SL S v, _, List.nodup_nil, fun x hx => absurd hx List.not_mem_nil, fun x hx => h.mem hx, fun x hx => absurd hx List.not_mem_nil, fun x hx => .one hx, fun g hg => .inr hg, fun x hx => absurd hx List.not_mem_nil, by have := h.deg v; simpa using this, rfl⟩) ?_
    · rintro i ρ ⟨F, W, s4, f1, f2, w2, f3, w3, a1, a2, hm, rfl⟩
      have fl : F.length ≤ nds.length := nodup_bound f1 f2
      have h40 := h.few
      have ok := tx_okA h.tx w2 (by omega)
      rcases List.eq_nil_or_concat W with rfl | ⟨W, x, rfl⟩
      · refine .inl ⟨?_, ?_⟩
        · walk_at "ev6"
          rw [List.map_nil] at ok
          rw [eqD_nil true ok]
          walk_at "ev6"
          rfl
        · refine ⟨F, _, _, f1, fun y => ⟨f3 y, fun hy => ?_⟩, rfl⟩
          induction hy with
          | one hg => exact (a1 _ hg).resolve_right List.not_mem_nil
          | more _ hg ih => exact (a2 _ ih _ hg).resolve_right List.not_mem_nil
      · simp only [List.concat_eq_append] at *
        rw [List.length_append, List.length_singleton] at hm
        refine .inr ⟨?_, by omega, ?_⟩
        · walk_at "ev6"
          rw [eqD_nil true ok]
          walk_at "ev6"
          rw [show ((W ++ [x]).map D.str).isEmpty = false by simp]
          rfl
        · rw [List.map_append, List.map_singleton]
          walk_at "ev6"
          rw [lk_U]
          have xn : x ∈ nds := w2 x (by simp)
          have xr : Rch S v x := w3 x (by simp)
          by_cases hx : x ∈ F
          · rw [decide_eq_true hx]
            walk_at "ev6"
            refine Ev.ret ⟨_, rfl, F, W, _, f1, f2, fun y hy => w2 y (by simp [hy]), f3, fun y hy => w3 y (by simp [hy]), fun g hg => ?_, fun y hy g hg => ?_, by omega, rfl⟩
            · rcases a1 g hg with a | a
              · exact .inl a
              · rcases List.mem_append.mp a with a | a
                · exact .inr a
                · rw [List.mem_singleton.mp a]; exact .inl hx
            · rcases a2 y hy g hg with a | a
              · exact .inl a
              · rcases List.mem_append.mp a with a | a
                · exact .inr a
                · rw [List.mem_singleton.mp a]; exact .inl hx
          · rw [decide_eq_false hx]
            have dg : ((lk S x).getD []).length ≤ 4 := h.deg x
            have fl2 : (F ++ [x]).length ≤ nds.length := nodup_bound (List.nodup_append.mpr ⟨f1, by simp, fun a ha b hb => by
              rw [List.mem_singleton.mp hb]
              intro z
              rw [z] at ha
              exact hx ha⟩) fun y hy => by
                rcases List.mem_append.mp hy with hy | hy
                · exact f2 y hy
                · rw [List.mem_singleton.mp hy]; exact xn
            walk_at "ev6"
            rw [put_T2 (f := fun _ : Unit => D.bl true) (v := ()) (by rw [List.length_map]; omega), setA_U hx]
            walk_at "ev6"
            rw [← List.map_append]
            refine Ev.ret ⟨_, rfl, F ++ [x], W ++ SL S x, some (.val (.str x)), List.nodup_append.mpr ⟨f1, by simp, fun a ha b hb => by
              rw [List.mem_singleton.mp hb]
              intro z
              rw [z] at ha
              exact hx ha⟩, fun y hy => ?_, fun y hy => ?_, fun y hy => ?_, fun y hy => ?_, fun g hg => ?_, fun y hy g hg => ?_, ?_, rfl⟩
            · rcases List.mem_append.mp hy with hy | hy
              · exact f2 y hy
              · rw [List.mem_singleton.mp hy]; exact xn
            · rcases List.mem_append.mp hy with hy | hy
              · exact w2 y (by simp [hy])
              · exact h.mem hy
            · rcases List.mem_append.mp hy with hy | hy
              · exact f3 y hy
              · rw [List.mem_singleton.mp hy]; exact xr
            · rcases List.mem_append.mp hy with hy | hy
              · exact w3 y (by simp [hy])
              · exact .more xr hy
            · rcases a1 g hg with a | a
              · exact .inl (by simp [a])
              · rcases List.mem_append.mp a with a | a
                · exact .inr (by simp [a])
                · rw [List.mem_singleton.mp a]; exact .inl (by simp)
            · rcases List.mem_append.mp hy with hy | hy
              · rcases a2 y hy g hg with a | a
                · exact .inl (by simp [a])
                · rcases List.mem_append.mp a with a | a
                  · exact .inr (by simp [a])
                  · rw [List.mem_singleton.mp a]; exact .inl (by simp)
              · rw [List.mem_singleton.mp hy] at hg
                exact .inr (by simp [hg])
            · rw [List.length_append, List.length_append, List.length_singleton]
              have : (SL S x).length ≤ 4 := dg
              omega
    · rintro _ ⟨F, s3, s4, f1, f2, rfl⟩
      walk_at "ev6"
      exact Ev.ret ⟨F, f1, f2, rfl⟩
  obtain ⟨d, e, F, f1, f2, rfl⟩ := key
  exact ⟨F, f1, f2, e⟩
section
variable {S : List (Tx × List Tx)} {nds : List Tx}
noncomputable def farL (S : List (Tx × List Tx)) (v : Tx) : List Tx := by
  classical
  exact if h : ∃ F : List Tx, F.Nodup ∧ (∀ x, x ∈ F ↔ Rch S v x) ∧ R_nodes_behind [dL S, .str v] = M.ret (dU F) then h.choose else []
theorem farL_spec (h : StepsOk S nds) (v : Tx) : (farL S v).Nodup ∧ (∀ x, x ∈ farL S v ↔ Rch S v x) ∧ R_nodes_behind [dL S, .str v] = M.ret (dU (farL S v)) := by
  unfold farL
  rw [dif_pos (behind_is h v)]
  exact (behind_is h v).choose_spec
def keyS (S : List (Tx × List Tx)) : List Tx := sortS (S.map (·.1))
noncomputable def partS (S : List (Tx × List Tx)) (v : Tx) : List Tx := (keyS S).filter fun o => decide (o ∈ farL S v) && decide (v ∈ farL S o)
theorem mem_part (h : StepsOk S nds) {v o : Tx} : o ∈ partS S v ↔ Rch S v o ∧ Rch S o v := by
  unfold partS keyS
  rw [List.mem_filter, Bool.and_eq_true, decide_eq_true_iff, decide_eq_true_iff, (farL_spec h v).2.1, (farL_spec h o).2.1, (sortS_perm _).mem_iff]
  exact ⟨fun z => z.2, fun z => ⟨z.2.src, z⟩⟩
theorem keyS_nd (h : StepsOk S nds) : (keyS S).Nodup := (sortS_perm _).nodup_iff.mpr h.nd
structure Parts (S : List (Tx × List Tx)) (vs : List Tx) (P : List (List Tx)) : Prop where
  of : ∀ p ∈ P, ∃ v ∈ vs, Rch S v v ∧ p = partS S v
  nd : P.flatten.Nodup
  all : ∀ v ∈ vs, Rch S v v → v ∈ P.flatten
  hd : ∃ hs : List Tx, P = hs.map (partS S) ∧ hs.Sublist vs ∧ ∀ h ∈ hs, ∀ u ∈ vs, u < h → u ∉ partS S h
theorem keyS_lt (h : StepsOk S nds) : (keyS S).Pairwise (· < ·) := ((sortS_pw _).and (keyS_nd h)).imp fun {a b} h => by
  rcases List.le_iff_lt_or_eq.mp (leS_iff.mp h.1) with k | k
  · exact k
  · exact absurd k h.2
theorem Parts.keep {vs : List Tx} {P : List (List Tx)} (h : Parts S vs P) {v : Tx} (hl : ∀ u ∈ vs, u < v) (hv : Rch S v v → v ∈ P.flatten) : Parts S (vs ++ [v]) P := by
  refine ⟨fun p hp => ?_, h.nd, fun u hu hr => ?_, ?_⟩
  rotate_left 2
  · obtain ⟨hs, e, sl, k⟩ := h.hd
    refine ⟨hs, e, sl.trans (List.sublist_append_left _ _), fun x hx u hu lt => ?_⟩
    rcases List.mem_append.mp hu with hu | hu
    · exact k x hx u hu lt
    · rw [List.mem_singleton.mp hu] at lt
      exact absurd (List.lt_trans lt (hl x (sl.subset hx))) (List.lt_irrefl _)
  · obtain ⟨u, hu, k⟩ := h.of p hp
    exact ⟨u, by simp [hu], k⟩
  · rcases List.mem_append.mp hu with hu | hu
    · exact h.all u hu hr
    · rw [List.mem_singleton.mp hu] at hr ⊢
      exact hv hr
theorem Parts.mem_flat (ok : StepsOk S nds) {vs : List Tx} {P : List (List Tx)} (h : Parts S vs P) {o : Tx} (ho : o ∈ P.flatten) {v : Tx} (hv : Rch S v o ∧ Rch S o v) : v ∈ P.flatten := by
  obtain ⟨p, hp, hop⟩ := List.mem_flatten.mp ho
  obtain ⟨u, _, _, rfl⟩ := h.of p hp
  have k := (mem_part ok).mp hop
  exact List.mem_flatten.mpr ⟨_, hp, (mem_part ok).mpr ⟨k.1.trans hv.2, hv.1.trans k.2⟩⟩
theorem Parts.add (ok : StepsOk S nds) {vs : List Tx} {P : List (List Tx)} (h : Parts S vs P) {v : Tx} (hl : ∀ u ∈ vs, u < v) (hv : Rch S v v) (hn : v ∉ P.flatten) : Parts S (vs ++ [v]) (P ++ [partS S v]) ∧ (P.flatten ++ partS S v).Nodup := by
  have nd : (P.flatten ++ partS S v).Nodup := by
    refine List.nodup_append.mpr ⟨h.nd, (keyS_nd ok).filter _, fun a ha b hb e => ?_⟩
    rw [← e] at hb
    exact hn (h.mem_flat ok ha ((mem_part ok).mp hb))
  refine ⟨⟨fun p hp => ?_, by rw [List.flatten_append]; simpa using nd, fun u hu hr => ?_, ?_⟩, nd⟩
  rotate_left 2
  · obtain ⟨hs, e, sl, k⟩ := h.hd
    refine ⟨hs ++ [v], by rw [List.map_append, ← e]; rfl, List.Sublist.append sl (List.Sublist.refl _), fun x hx u hu lt => ?_⟩
    rcases List.mem_append.mp hx with hx | hx
    · rcases List.mem_append.mp hu with hu | hu
      · exact k x hx u hu lt
      · rw [List.mem_singleton.mp hu] at lt
        exact absurd (List.lt_trans lt (hl x (sl.subset hx))) (List.lt_irrefl _)
    · rw [List.mem_singleton.mp hx] at lt ⊢
      rcases List.mem_append.mp hu with hu | hu
      · intro hm
        have k2 := (mem_part ok).mp hm
        exact hn (h.mem_flat ok (h.all u hu (k2.2.trans k2.1)) k2)
      · rw [List.mem_singleton.mp hu] at lt
        exact absurd lt (List.lt_irrefl _)
  · rcases List.mem_append.mp hp with hp | hp
    · obtain ⟨u, hu, k⟩ := h.of p hp
      exact ⟨u, by simp [hu], k⟩
    · exact ⟨v, by simp, hv, List.mem_singleton.mp hp⟩
  · rw [List.flatten_append]
    rcases List.mem_append.mp hu with hu | hu
    · exact List.mem_append_left _ (h.all u hu hr)
    · rw [List.mem_singleton.mp hu]
      exact List.mem_append_right _ (by simpa using (mem_part ok).mpr ⟨hv, hv⟩)
end
def gwin (t : List Nat) (r q e : Nat) : List Tx := (allS (sigs r) (2 * q + 1)).filter fun w => decide (itN (rowL t r) q w = [w.getD e 0])
theorem sigs_sg {r : Nat} {x : List Nat} : (∀ c ∈ x, c ∈ sigs r) → r ≤ 2 → Sg r x := fun h hr c hc => by
  have hm := h c hc
  unfold sigs at hm
  have : r = 0 ∨ r = 1 ∨ r = 2 := by omega
  rcases this with rfl | rfl | rfl <;> simp at hm <;> omega
section
variable {t : List Nat} {r q e : Nat}
theorem gwin_mem {w : Tx} : w ∈ gwin t r q e ↔ (w.length = 2 * q + 1 ∧ ∀ c ∈ w, c ∈ sigs r) ∧ itN (rowL t r) q w = [w.getD e 0] := by
  unfold gwin
  rw [List.mem_filter, mem_allS, decide_eq_true_iff]
theorem lk_mapk {α : Type} {us : List Tx} {f : Tx → α} (v : Tx) : lk (us.map fun u => (u, f u)) v = if v ∈ us then some (f v) else none := by
  induction us with
  | nil => rfl
  | cons u us ih =>
    rw [List.map_cons, lk_cons, ih]
    by_cases e : u = v
    · rw [if_pos e, if_pos (by rw [e]; exact List.mem_cons_self), e]
    · rw [if_neg e]
      by_cases h : v ∈ us
      · rw [if_pos h, if_pos (List.mem_cons_of_mem _ h)]
      · rw [if_neg h, if_neg fun z => (List.mem_cons.mp z).elim (fun z => e z.symm) h]
theorem SL_st {ws us : List Tx} (G : GrpW beg ws us) (v : Tx) : SL (stW ws us) v = (clsW beg ws v).map fin1 := by
  unfold SL stW
  rw [lk_mapk]
  by_cases h : v ∈ us
  · rw [if_pos h]
    rfl
  · rw [if_neg h]
    have : clsW beg ws v = [] := by
      unfold clsW
      rw [List.filter_eq_nil_iff]
      intro w hw e
      exact h ((G.mem v).mpr ⟨w, hw, of_decide_eq_true e⟩)
    rw [this]
    rfl
theorem sigs_lt {r c : Nat} (h : c ∈ sigs r) : c < 100 := by
  unfold sigs at h
  have := List.mem_of_mem_take h
  simp at this
  omega
end
def restr (S : List (Tx × List Tx)) (p : List Tx) : List (Tx × List Tx) := p.map fun v => (v, (SL S v).filter fun g => decide (g ∈ p))
def itsW (S : List (Tx × List Tx)) (P : List (List Tx)) : List (Tx × List Tx) := P.flatMap (restr S)
theorem itsW_keys (S : List (Tx × List Tx)) (P : List (List Tx)) : (itsW S P).map (·.1) = P.flatten := by
  unfold itsW
  induction P with
  | nil => rfl
  | cons p P ih =>
    rw [List.flatMap_cons, List.map_append, ih, List.flatten_cons]
    congr 1
    unfold restr
    rw [List.map_map]
    exact List.map_id' p
structure IsWeb (t : List Nat) (r q e : Nat) (us : List Tx) (P : List (List Tx)) : Prop where
  g : GrpW beg (gwin t r q e) us
  p : Parts (stW (gwin t r q e) us) (keyS (stW (gwin t r q e) us)) P
def stepsW (t : List Nat) (r q e : Nat) (us : List Tx) (P : List (List Tx)) : List (Tx × List Tx) := (sortS P.flatten).map fun v => (v, SL (itsW (stW (gwin t r q e) us) P) v)
section
variable {St : Tx → List Tx} {q : Nat}
def StepW (St : Tx → List Tx) (q : Nat) : Prop := ∀ v g, g ∈ St v → ∃ w, w.length = 2 * q + 1 ∧ beg w = v ∧ fin1 w = g
theorem StepW.len (h : StepW St q) {v g : Tx} (k : g ∈ St v) : v.length = 2 * q ∧ g.length = 2 * q := by
  obtain ⟨w, wl, rfl, rfl⟩ := h v g k
  unfold beg fin1
  rw [List.length_take, List.length_drop]
  omega
theorem StepW.sh (h : StepW St q) {v g : Tx} (k : g ∈ St v) {j : Nat} (hj : j + 1 < 2 * q) : g.getD j 0 = v.getD (j + 1) 0 := by
  obtain ⟨w, wl, rfl, rfl⟩ := h v g k
  unfold beg fin1
  simp only [List.getD_eq_getElem?_getD, List.getElem?_drop, List.getElem?_take]
  rw [if_pos (by omega), Nat.add_comm]
end
theorem rch_step {S : List (Tx × List Tx)} {nds : List Tx} (ok : StepsOk S nds) {P : List (List Tx)} (hP : Parts S (keyS S) P) {v : Tx} {p : List Tx} (hp : p ∈ P) (hv : v ∈ p) : SL (itsW S P) v = (SL S v).filter fun g => decide (g ∈ p) := by
  have hm : (v, (SL S v).filter fun g => decide (g ∈ p)) ∈ itsW S P := List.mem_flatMap.mpr ⟨p, hp, List.mem_map.mpr ⟨v, hv, rfl⟩⟩
  show (lk (itsW S P) v).getD [] = _
  rw [lk_mem (by rw [itsW_keys]; exact hP.nd) hm]
  rfl
section
variable {t : List Nat} {r q e : Nat} {us : List Tx} {P : List (List Tx)}
theorem SL_steps (v : Tx) : SL (stepsW t r q e us P) v = if v ∈ P.flatten then SL (itsW (stW (gwin t r q e) us) P) v else [] := by
  unfold stepsW
  conv => lhs; unfold SL
  rw [lk_mapk]
  by_cases h : v ∈ P.flatten
  · rw [if_pos h, if_pos ((sortS_perm _).mem_iff.mpr h)]
    rfl
  · rw [if_neg h, if_neg fun z => h ((sortS_perm _).mem_iff.mp z)]
    rfl
theorem mem_steps (W : IsWeb t r q e us P) (ok : StepsOk (stW (gwin t r q e) us) (allS (sigs r) (2 * q))) {v g : Tx} : g ∈ SL (stepsW t r q e us P) v ↔ g ∈ SL (stW (gwin t r q e) us) v ∧ Rch (stW (gwin t r q e) us) g v := by
  rw [SL_steps]
  constructor
  · intro h
    split at h
    · rename_i hv
      obtain ⟨p, hp, hvp⟩ := List.mem_flatten.mp hv
      rw [rch_step ok W.p hp hvp, List.mem_filter] at h
      refine ⟨h.1, ?_⟩
      obtain ⟨u, _, _, rfl⟩ := W.p.of p hp
      have k1 := (mem_part ok).mp hvp
      have k2 := (mem_part ok).mp (of_decide_eq_true h.2)
      exact k2.2.trans k1.1
    · cases h
  · rintro ⟨h1, h2⟩
    have vv : Rch (stW (gwin t r q e) us) v v := (Rch.one h1).trans h2
    have vf : v ∈ P.flatten := W.p.all v ((sortS_perm _).mem_iff.mpr vv.src) vv
    rw [if_pos vf]
    obtain ⟨p, hp, hvp⟩ := List.mem_flatten.mp vf
    rw [rch_step ok W.p hp hvp, List.mem_filter]
    refine ⟨h1, decide_eq_true ?_⟩
    obtain ⟨u, _, _, rfl⟩ := W.p.of p hp
    have k1 := (mem_part ok).mp hvp
    exact (mem_part ok).mpr ⟨k1.1.trans (.one h1), h2.trans k1.2⟩
theorem mem_st (W : IsWeb t r q e us P) {v g : Tx} : g ∈ SL (stW (gwin t r q e) us) v ↔ ∃ w ∈ gwin t r q e, beg w = v ∧ fin1 w = g := by
  rw [SL_st W.g, List.mem_map]
  constructor
  · rintro ⟨w, hw, rfl⟩
    obtain ⟨h1, h2⟩ := List.mem_filter.mp hw
    exact ⟨w, h1, of_decide_eq_true h2, rfl⟩
  · rintro ⟨w, hw, rfl, rfl⟩
    exact ⟨w, List.mem_filter.mpr ⟨hw, decide_eq_true rfl⟩, rfl⟩
end
inductive Wk (S : List (Tx × List Tx)) : Tx → Tx → Nat → Prop
  | nil {v : Tx} : Wk S v v 0
  | more {v w g : Tx} {n : Nat} : Wk S v w n → g ∈ SL S w → Wk S v g (n + 1)
theorem Wk.trans {S : List (Tx × List Tx)} {a b c : Tx} {n m : Nat} (h : Wk S a b n) (k : Wk S b c m) : Wk S a c (n + m) := by
  induction k with
  | nil => exact h
  | more _ h1 ih => exact .more ih h1
theorem Wk.first {S : List (Tx × List Tx)} {a b c : Tx} {n : Nat} (h : b ∈ SL S a) (k : Wk S b c n) : Wk S a c (n + 1) := by
  have := Wk.trans (.more .nil h) k
  rw [Nat.zero_add, Nat.add_comm] at this
  exact this
theorem Rch.wk {S : List (Tx × List Tx)} {a b : Tx} (h : Rch S a b) : ∃ n, Wk S a b n := by
  induction h with
  | one h1 => exact ⟨1, .more .nil h1⟩
  | more _ h1 ih =>
    obtain ⟨n, h⟩ := ih
    exact ⟨n + 1, .more h h1⟩
def PerOf (S : List (Tx × List Tx)) (s : Tx) (g : Nat) : Prop := ∀ d, d ∣ g ↔ ∀ n, Wk S s s n → d ∣ n
theorem PerOf.uniq {S S' : List (Tx × List Tx)} {s s' : Tx} {g g' : Nat} (h : PerOf S s g) (h' : PerOf S' s' g') (k : ∀ d, (∀ n, Wk S s s n → d ∣ n) ↔ ∀ n, Wk S' s' s' n → d ∣ n) : g = g' :=
  Nat.dvd_antisymm ((h' g).mpr ((k g).mp ((h g).mp (Nat.dvd_refl _)))) ((h g').mpr ((k g').mpr ((h' g').mp (Nat.dvd_refl _))))
structure PerI (S : List (Tx × List Tx)) (s : Tx) (F : List (Tx × Nat)) (g : Nat) : Prop where
  nd : (F.map (·.1)).Nodup
  wk : ∀ p ∈ F, Wk S s p.1 p.2
  st : (s, 0) ∈ F
  lo : ∀ d, (∀ n, Wk S s s n → d ∣ n) → d ∣ g
def Settled (F : List (Tx × Nat)) (g : Nat) (v : Tx) (hs : List Tx) : Prop := ∃ n, (v, n) ∈ F ∧ ∀ h ∈ hs, ∃ m, (h, m) ∈ F ∧ ((g : Int) ∣ (n : Int) + 1 - (m : Int))
theorem Settled.mono {F F' : List (Tx × Nat)} {g g' : Nat} {v : Tx} {hs : List Tx} (h : Settled F g v hs) (hF : ∀ p ∈ F, p ∈ F') (hg : g' ∣ g) : Settled F' g' v hs := by
  obtain ⟨n, hn, k⟩ := h
  refine ⟨n, hF _ hn, fun x hx => ?_⟩
  obtain ⟨m, hm, d⟩ := k x hx
  exact ⟨m, hF _ hm, Int.dvd_trans (Int.natCast_dvd_natCast.mpr hg) d⟩
theorem Settled.snoc {F : List (Tx × Nat)} {g : Nat} {v x : Tx} {n m : Nat} {hs : List Tx} (nd : (F.map (·.1)).Nodup) (h : Settled F g v hs) (hv : (v, n) ∈ F) (hx : (x, m) ∈ F) (d : (g : Int) ∣ (n : Int) + 1 - (m : Int)) : Settled F g v (hs ++ [x]) := by
  obtain ⟨n', hn, k⟩ := h
  have e : n' = n := by
    clear k d hx
    induction F with
    | nil => cases hv
    | cons p F ih =>
      rw [List.map_cons, List.nodup_cons] at nd
      rcases List.mem_cons.mp hn with a | a <;> rcases List.mem_cons.mp hv with b | b
      · rw [← a] at b
        exact (Prod.mk.inj b).2.symm
      · exact absurd (List.mem_map.mpr ⟨_, b, rfl⟩) (by rw [← a] at nd; exact nd.1)
      · exact absurd (List.mem_map.mpr ⟨_, a, rfl⟩) (by rw [← b] at nd; exact nd.1)
      · exact ih nd.2 b a
  subst e
  refine ⟨n', hn, fun y hy => ?_⟩
  rcases List.mem_append.mp hy with hy | hy
  · exact k y hy
  · rw [List.mem_singleton.mp hy]
    exact ⟨m, hx, d⟩
theorem PerI.add {S : List (Tx × List Tx)} {s : Tx} {F : List (Tx × Nat)} {g n : Nat} {v x : Tx} (h : PerI S s F g) (hv : (v, n) ∈ F) (hx : x ∉ F.map (·.1)) (he : x ∈ SL S v) : PerI S s (F ++ [(x, n + 1)]) g := by
  refine ⟨?_, fun p hp => ?_, List.mem_append_left _ h.st, h.lo⟩
  · rw [List.map_append]
    refine List.nodup_append.mpr ⟨h.nd, by simp, fun a ha b hb e => ?_⟩
    rw [List.map_singleton, List.mem_singleton] at hb
    rw [e, hb] at ha
    exact hx ha
  · rcases List.mem_append.mp hp with hp | hp
    · exact h.wk p hp
    · rw [List.mem_singleton.mp hp]
      exact .more (h.wk _ hv) he
theorem PerI.done {S : List (Tx × List Tx)} {s : Tx} {F : List (Tx × Nat)} {g : Nat} (h : PerI S s F g) (k : ∀ v ∈ F.map (·.1), Settled F g v (SL S v)) : PerOf S s g := by
  have uq : ∀ {v : Tx} {n m : Nat}, (v, n) ∈ F → (v, m) ∈ F → n = m := by
    intro v n m hn hm
    have nd := h.nd
    clear h k
    induction F with
    | nil => cases hn
    | cons p F ih =>
      rw [List.map_cons, List.nodup_cons] at nd
      rcases List.mem_cons.mp hn with a | a <;> rcases List.mem_cons.mp hm with b | b
      · rw [← a] at b
        exact (Prod.mk.inj b).2.symm
      · exact absurd (List.mem_map.mpr ⟨_, b, rfl⟩) (by rw [← a] at nd; exact nd.1)
      · exact absurd (List.mem_map.mpr ⟨_, a, rfl⟩) (by rw [← b] at nd; exact nd.1)
      · exact ih a b nd.2
  have key : ∀ {v : Tx} {n : Nat}, Wk S s v n → ∃ m, (v, m) ∈ F ∧ (g : Int) ∣ (m : Int) - (n : Int) := by
    intro v n hw
    induction hw with
    | nil => exact ⟨0, h.st, ⟨0, by omega⟩⟩
    | @more w x n _ hx ih =>
      obtain ⟨m, hm, d⟩ := ih
      obtain ⟨n', hn', kk⟩ := k w (List.mem_map.mpr ⟨_, hm, rfl⟩)
      obtain ⟨m', hm', d'⟩ := kk x hx
      rw [uq hn' hm] at d'
      refine ⟨m', hm', ?_⟩
      have := Int.dvd_sub d d'
      rw [show (m : Int) - (n : Int) - ((m : Int) + 1 - (m' : Int)) = (m' : Int) - ((n + 1 : Nat) : Int) by omega] at this
      exact this
  intro d
  constructor
  · intro hd n hn
    obtain ⟨m, hm, dv⟩ := key hn
    rw [uq hm h.st] at dv
    have : (g : Int) ∣ (n : Int) := by
      have := Int.dvd_neg.mpr dv
      rw [show -(((0 : Nat) : Int) - (n : Int)) = (n : Int) by omega] at this
      exact this
    exact Nat.dvd_trans hd (Int.natCast_dvd_natCast.mp this)
  · exact h.lo d
structure MirS (S S' : List (Tx × List Tx)) : Prop where
  st : ∀ v g, g ∈ SL S v ↔ v.reverse ∈ SL S' g.reverse
theorem MirS.symm {S S' : List (Tx × List Tx)} (h : MirS S S') : MirS S' S := ⟨fun v g => by
  have := h.st g.reverse v.reverse
  rw [List.reverse_reverse, List.reverse_reverse] at this
  exact this.symm⟩
theorem MirS.wk {S S' : List (Tx × List Tx)} (h : MirS S S') {v g : Tx} {n : Nat} (k : Wk S v g n) : Wk S' g.reverse v.reverse n := by
  induction k with
  | nil => exact .nil
  | more _ hx ih => exact .first ((h.st _ _).mp hx) ih
theorem MirS.per {S S' : List (Tx × List Tx)} (h : MirS S S') {v : Tx} {d : Nat} : (∀ n, Wk S v v n → d ∣ n) ↔ ∀ n, Wk S' v.reverse v.reverse n → d ∣ n := by
  constructor
  · intro k n hn
    have := h.symm.wk hn
    rw [List.reverse_reverse] at this
    exact k n this
  · intro k n hn
    exact k n (h.wk hn)
theorem Wk.rch {S : List (Tx × List Tx)} {v g : Tx} {n : Nat} (h : Wk S v g (n + 1)) : Rch S v g := by
  have : ∀ {m : Nat}, Wk S v g m → m = n + 1 → Rch S v g := by
    intro m k
    clear h
    induction k generalizing n with
    | nil => intro e; omega
    | @more w x m k hx ih =>
      intro e
      cases m with
      | zero =>
        cases k
        exact .one hx
      | succ m => exact .more (ih rfl) hx
  exact this h rfl
theorem Rch.wk1 {S : List (Tx × List Tx)} {a b : Tx} (h : Rch S a b) : ∃ n, Wk S a b (n + 1) := by
  induction h with
  | one h1 => exact ⟨0, .more .nil h1⟩
  | more _ h1 ih =>
    obtain ⟨n, h⟩ := ih
    exact ⟨n + 1, .more h h1⟩
theorem MirS.rch {S S' : List (Tx × List Tx)} (h : MirS S S') {v g : Tx} : Rch S v g ↔ Rch S' g.reverse v.reverse := by
  constructor
  · intro k
    obtain ⟨n, k⟩ := k.wk1
    exact (h.wk k).rch
  · intro k
    obtain ⟨n, k⟩ := k.wk1
    have := (h.symm.wk k).rch
    rw [List.reverse_reverse, List.reverse_reverse] at this
    exact this
structure PerOk (I : List (Tx × List Tx)) (s : Tx) (nds : List Tx) : Prop where
  ks : ∀ x n, Wk I s x n → (lk I x).isSome
  bk : ∀ x n, Wk I s x n → ∃ k, Wk I x s k
  nd : ∀ x n, Wk I s x n → x ∈ nds
  tx : ∀ v ∈ nds, v.length ≤ 50 ∧ ∀ c ∈ v, c < 100
  few : nds.length ≤ 4000
theorem PerI.len {I : List (Tx × List Tx)} {s : Tx} {F : List (Tx × Nat)} {g : Nat} {nds : List Tx} (h : PerI I s F g) (ok : PerOk I s nds) : F.length ≤ 4000 := by
  have := nodup_bound h.nd (m := nds) fun x hx => by
    obtain ⟨p, hp, rfl⟩ := List.mem_map.mp hx
    exact ok.nd _ _ (h.wk p hp)
  rw [List.length_map] at this
  exact Nat.le_trans this ok.few
section
variable {S : List (Tx × List Tx)} {nds : List Tx}
theorem part_pw (ok : StepsOk S nds) (v : Tx) : (partS S v).Pairwise (· < ·) := (keyS_lt ok).filter _
theorem part_congr (ok : StepsOk S nds) {u v : Tx} (h1 : Rch S u v) (h2 : Rch S v u) : partS S u = partS S v := by
  unfold partS
  refine List.filter_congr fun o _ => ?_
  rw [Bool.eq_iff_iff, Bool.and_eq_true, Bool.and_eq_true, decide_eq_true_iff, decide_eq_true_iff, decide_eq_true_iff, decide_eq_true_iff, (farL_spec ok u).2.1, (farL_spec ok v).2.1, (farL_spec ok o).2.1, (farL_spec ok o).2.1]
  exact ⟨fun h => ⟨h2.trans h.1, h.2.trans h1⟩, fun h => ⟨h1.trans h.1, h.2.trans h2⟩⟩
theorem Parts.iff (ok : StepsOk S nds) {P : List (List Tx)} (h : Parts S (keyS S) P) {p : List Tx} : p ∈ P ↔ ∃ v, Rch S v v ∧ p = partS S v := by
  constructor
  · intro hp
    obtain ⟨v, _, r, e⟩ := h.of p hp
    exact ⟨v, r, e⟩
  · rintro ⟨v, r, rfl⟩
    obtain ⟨p, hp, hv⟩ := List.mem_flatten.mp (h.all v ((sortS_perm _).mem_iff.mpr r.src) r)
    obtain ⟨u, _, _, rfl⟩ := h.of p hp
    have k := (mem_part ok).mp hv
    rw [← part_congr ok k.1 k.2]
    exact hp
theorem Parts.ne (ok : StepsOk S nds) {P : List (List Tx)} (h : Parts S (keyS S) P) {p : List Tx} (hp : p ∈ P) : p.headD [] ∈ p ∧ p ≠ [] := by
  obtain ⟨v, r, rfl⟩ := (h.iff ok).mp hp
  have hv : v ∈ partS S v := (mem_part ok).mpr ⟨r, r⟩
  cases e : partS S v with
  | nil => rw [e] at hv; cases hv
  | cons a l => exact ⟨List.mem_cons_self, by simp⟩
theorem Parts.flat (ok : StepsOk S nds) {P : List (List Tx)} (h : Parts S (keyS S) P) {v : Tx} : v ∈ P.flatten ↔ Rch S v v := by
  constructor
  · intro hv
    obtain ⟨p, hp, hv⟩ := List.mem_flatten.mp hv
    obtain ⟨u, r, rfl⟩ := (h.iff ok).mp hp
    have k := (mem_part ok).mp hv
    exact k.2.trans k.1
  · intro r
    exact h.all v ((sortS_perm _).mem_iff.mpr r.src) r
end
section
variable {S S' : List (Tx × List Tx)} {nds nds' : List Tx} {P P' : List (List Tx)}
theorem pw_ext {l l' : List Tx} (h : l.Pairwise (· < ·)) (h' : l'.Pairwise (· < ·)) (e : ∀ x, x ∈ l ↔ x ∈ l') : l = l' := by
  rw [← sortS_of h, ← sortS_of h']
  exact sortS_perm_eq ((List.perm_ext_iff_of_nodup (pw_nodup h) (pw_nodup h')).mpr e)
theorem sortS_lt {l : List Tx} (nd : l.Nodup) : (sortS l).Pairwise (· < ·) := ((sortS_pw _).and ((sortS_perm _).nodup_iff.mpr nd)).imp fun {a b} h => by
  rcases List.le_iff_lt_or_eq.mp (leS_iff.mp h.1) with k | k
  · exact k
  · exact absurd k h.2
theorem Parts.pw (ok : StepsOk S nds) (h : Parts S (keyS S) P) {p : List Tx} (hp : p ∈ P) : p.Pairwise (· < ·) := by
  obtain ⟨v, r, rfl⟩ := (h.iff ok).mp hp
  exact part_pw ok v
end
theorem row_mirN (t : List Nat) (r : Nat) : ∀ (n : Nat) (x : Tx), itN (rowL (mirT t) r) n x.reverse = (itN (rowL t r) n x).reverse
  | 0, x => rfl
  | n + 1, x => by
    show itN (rowL (mirT t) r) n (rowL (mirT t) r x.reverse) = (itN (rowL t r) n (rowL t r x)).reverse
    rw [row_mir, row_mirN t r n]
theorem getD_rvs {x : Tx} {k : Nat} (h : k < x.length) : x.reverse.getD (x.length - 1 - k) 0 = x.getD k 0 := by
  rw [List.getD_eq_getElem?_getD, List.getD_eq_getElem?_getD, List.getElem?_reverse (by omega), show x.length - 1 - (x.length - 1 - k) = k by omega]
section
variable {t : List Nat} {r q e : Nat}
theorem gwin_mir (he : e ≤ 2 * q) {w : Tx} (h : w ∈ gwin t r q e) : w.reverse ∈ gwin (mirT t) r q (2 * q - e) := by
  obtain ⟨⟨w1, w2⟩, w3⟩ := gwin_mem.mp h
  refine gwin_mem.mpr ⟨⟨by rw [List.length_reverse]; exact w1, fun c hc => w2 c (List.mem_reverse.mp hc)⟩, ?_⟩
  rw [row_mirN, w3, ← getD_rvs (x := w) (k := e) (by omega), w1, show 2 * q + 1 - 1 - e = 2 * q - e by omega]
  rfl
theorem gwin_mir_iff (ht : BinT t) (he : e ≤ 2 * q) {w : Tx} : w ∈ gwin (mirT t) r q (2 * q - e) ↔ w.reverse ∈ gwin t r q e := by
  constructor
  · intro h
    have := gwin_mir (by omega) h
    rw [mir_mir ht, show 2 * q - (2 * q - e) = e by omega] at this
    exact this
  · intro h
    have := gwin_mir he h
    rw [List.reverse_reverse] at this
    exact this
theorem beg_rev (w : Tx) : beg w.reverse = (fin1 w).reverse := by
  unfold beg fin1
  rw [List.length_reverse, List.take_reverse]
  cases w with
  | nil => rfl
  | cons a w => rw [show (a :: w).length - ((a :: w).length - 1) = 1 by rw [List.length_cons]; omega]
theorem fin_rev (w : Tx) : fin1 w.reverse = (beg w).reverse := by
  have := beg_rev w.reverse
  rw [List.reverse_reverse] at this
  rw [this, List.reverse_reverse]
structure MirW (t : List Nat) (r q e : Nat) (us : List Tx) (P : List (List Tx)) (us' : List Tx) (P' : List (List Tx)) : Prop where
  a : IsWeb t r q e us P
  b : IsWeb (mirT t) r q (2 * q - e) us' P'
  oka : StepsOk (stW (gwin t r q e) us) (allS (sigs r) (2 * q))
  okb : StepsOk (stW (gwin (mirT t) r q (2 * q - e)) us') (allS (sigs r) (2 * q))
  bin : BinT t
  he : e ≤ 2 * q
variable {us us' : List Tx} {P P' : List (List Tx)}
theorem MirW.st (M : MirW t r q e us P us' P') : MirS (stW (gwin t r q e) us) (stW (gwin (mirT t) r q (2 * q - e)) us') := ⟨fun v g => by
  rw [mem_st M.a, mem_st M.b]
  constructor
  · rintro ⟨w, hw, rfl, rfl⟩
    exact ⟨w.reverse, gwin_mir M.he hw, beg_rev w, fin_rev w⟩
  · rintro ⟨w, hw, e1, e2⟩
    refine ⟨w.reverse, (gwin_mir_iff M.bin M.he).mp hw, ?_, ?_⟩
    · rw [beg_rev, e2, List.reverse_reverse]
    · rw [fin_rev, e1, List.reverse_reverse]⟩
theorem SL_its (W : IsWeb t r q e us P) (v : Tx) : SL (stepsW t r q e us P) v = SL (itsW (stW (gwin t r q e) us) P) v := by
  rw [SL_steps]
  split
  · rfl
  · rename_i h
    unfold SL
    cases hk : lk (itsW (stW (gwin t r q e) us) P) v with
    | none => rfl
    | some l =>
      refine absurd ?_ h
      rw [← itsW_keys (stW (gwin t r q e) us) P]
      exact lk_isSome.mp (by rw [hk]; rfl)
theorem mem_its (W : IsWeb t r q e us P) (ok : StepsOk (stW (gwin t r q e) us) (allS (sigs r) (2 * q))) {v g : Tx} : g ∈ SL (itsW (stW (gwin t r q e) us) P) v ↔ g ∈ SL (stW (gwin t r q e) us) v ∧ Rch (stW (gwin t r q e) us) g v := by
  rw [← SL_its W, mem_steps W ok]
theorem MirW.its (M : MirW t r q e us P us' P') : MirS (itsW (stW (gwin t r q e) us) P) (itsW (stW (gwin (mirT t) r q (2 * q - e)) us') P') := ⟨fun v g => by
  rw [mem_its M.a M.oka, mem_its M.b M.okb, M.st.st, M.st.rch]⟩
end
namespace MWS
open PySem.W in
def hle (a b : List Tx) : Bool := leS (a.headD []) (b.headD [])
end MWS
def edgeB (W : List Tx) (a b : Tx) : Bool := W.any fun w => decide (beg w = a) && decide (fin1 w = b)
def chainB (W : List Tx) (a : Tx) : List Tx → Tx → Bool
  | [], z => edgeB W a z
  | b :: l, z => edgeB W a b && chainB W b l z
def pfT (l : List (Tx × Nat)) (v : Tx) : Nat := match l.find? fun p => decide (p.1 = v) with
  | some p => p.2
  | none => 0
structure PC where
  p : List Tx
  cy : List Tx
  pot : List (Tx × Nat)
  cw : List Tx
def okPC (W : List Tx) (c : PC) : Bool := decide (c.p ≠ []) && (chainB W (c.p.headD []) c.cy (c.p.headD []) && (c.p.all (fun x => decide (x = c.p.headD []) || decide (x ∈ c.cy)) && (chainB W (c.p.headD []) c.cw (c.p.headD []) && (c.cw.all (fun x => decide (x ∈ c.p)) &&
  (decide (pfT c.pot (c.p.headD []) = 0) && (W.all (fun w => !(decide (beg w ∈ c.p) && decide (fin1 w ∈ c.p)) || decide ((pfT c.pot (beg w) + 1) % (c.cw.length + 1) = pfT c.pot (fin1 w) % (c.cw.length + 1))) && decide (c.p.Pairwise (· < ·))))))))
theorem edgeB_iff {W : List Tx} {a b : Tx} : edgeB W a b = true ↔ ∃ w ∈ W, beg w = a ∧ fin1 w = b := by
  unfold edgeB
  simp only [List.any_eq_true, Bool.and_eq_true, decide_eq_true_iff]
theorem chain_wk {S : List (Tx × List Tx)} {W : List Tx} {Z : Tx → Prop} (hE : ∀ a b, edgeB W a b = true → Z a → Z b → b ∈ SL S a) {z : Tx} (hz : Z z) : ∀ (l : List Tx) (a : Tx), Z a → (∀ x ∈ l, Z x) → chainB W a l z = true → Wk S a z (l.length + 1) ∧ ∀ x ∈ l, Rch S a x ∧ Rch S x z
  | [], a, ha, _, h => ⟨.more .nil (hE a z h ha hz), fun x hx => by cases hx⟩
  | b :: l, a, ha, hl, h => by
    rw [chainB, Bool.and_eq_true] at h
    have hb := hl b List.mem_cons_self
    obtain ⟨h1, h2⟩ := chain_wk hE hz l b hb (fun x hx => hl x (List.mem_cons_of_mem _ hx)) h.2
    have e := hE a b h.1 ha hb
    refine ⟨.first e h1, fun x hx => ?_⟩
    rcases List.mem_cons.mp hx with rfl | hx
    · exact ⟨.one e, h1.rch⟩
    · exact ⟨(Rch.one e).trans (h2 x hx).1, (h2 x hx).2⟩
section
variable {S : List (Tx × List Tx)} {nds : List Tx} {W : List Tx} {cs : List PC} {rk : List (Tx × Nat)}
structure OkW (W : List Tx) (cs : List PC) (rk : List (Tx × Nat)) : Prop where
  pc : ∀ c ∈ cs, okPC W c = true
  nd : (cs.map PC.p).flatten.Nodup
  hd : (cs.map fun c => c.p.headD []).Pairwise (· < ·)
  rk : ∀ w ∈ W, pfT rk (fin1 w) < pfT rk (beg w) ∨ (pfT rk (fin1 w) = pfT rk (beg w) ∧ ∃ c ∈ cs, beg w ∈ c.p ∧ fin1 w ∈ c.p)
structure OkP (W : List Tx) (c : PC) : Prop where
  ne : c.p ≠ []
  cy : chainB W (c.p.headD []) c.cy (c.p.headD []) = true
  all : ∀ x ∈ c.p, x = c.p.headD [] ∨ x ∈ c.cy
  cw : chainB W (c.p.headD []) c.cw (c.p.headD []) = true
  inp : ∀ x ∈ c.cw, x ∈ c.p
  p0 : pfT c.pot (c.p.headD []) = 0
  pt : ∀ w ∈ W, beg w ∈ c.p → fin1 w ∈ c.p → (pfT c.pot (beg w) + 1) % (c.cw.length + 1) = pfT c.pot (fin1 w) % (c.cw.length + 1)
  pw : c.p.Pairwise (· < ·)
theorem okPC_is {c : PC} (h : okPC W c = true) : OkP W c := by
  unfold okPC at h
  simp only [Bool.and_eq_true, Bool.or_eq_true, List.all_eq_true, decide_eq_true_iff, Bool.not_eq_true', Bool.and_eq_false_iff, decide_eq_false_iff_not] at h
  obtain ⟨h1, h2, h3, h4, h5, h6, h7, h8⟩ := h
  refine ⟨h1, h2, h3, h4, h5, h6, fun w hw a b => ?_, h8⟩
  rcases h7 w hw with k | k
  · rcases k with k | k
    · exact absurd a k
    · exact absurd b k
  · exact k
theorem OkP.hd {c : PC} (h : OkP W c) : c.p.headD [] ∈ c.p := by
  have := h.ne
  cases e : c.p with
  | nil => exact absurd e this
  | cons a l => exact List.mem_cons_self
theorem OkW.same (h : OkW W cs rk) {c d : PC} (hc : c ∈ cs) (hd : d ∈ cs) {x : Tx} (h1 : x ∈ c.p) (h2 : x ∈ d.p) : c = d := by
  obtain ⟨i, hi, rfl⟩ := List.mem_iff_getElem.mp hc
  obtain ⟨j, hj, rfl⟩ := List.mem_iff_getElem.mp hd
  have nd := (List.pairwise_flatten.mp h.nd).2
  rw [List.pairwise_map] at nd
  rcases Nat.lt_trichotomy i j with k | rfl | k
  · exact absurd h2 (by
      have := List.pairwise_iff_getElem.mp nd i j hi hj k
      exact fun z => this _ h1 _ z rfl)
  · rfl
  · exact absurd h1 (by
      have := List.pairwise_iff_getElem.mp nd j i hj hi k
      exact fun z => this _ h2 _ z rfl)
theorem OkW.rank (h : OkW W cs rk) (hS : ∀ v g, g ∈ SL S v ↔ edgeB W v g = true) {v g : Tx} (k : Rch S v g) : pfT rk g ≤ pfT rk v ∧ (pfT rk g = pfT rk v → ∃ c ∈ cs, v ∈ c.p ∧ g ∈ c.p) := by
  induction k with
  | one e =>
    obtain ⟨w, hw, rfl, rfl⟩ := edgeB_iff.mp ((hS _ _).mp e)
    rcases h.rk w hw with a | ⟨a, b⟩
    · exact ⟨by omega, fun z => by omega⟩
    · exact ⟨by omega, fun _ => b⟩
  | more _ e ih =>
    obtain ⟨w, hw, rfl, rfl⟩ := edgeB_iff.mp ((hS _ _).mp e)
    rcases h.rk w hw with a | ⟨a, b⟩
    · exact ⟨by omega, fun z => by omega⟩
    · refine ⟨by omega, fun z => ?_⟩
      obtain ⟨c, hc, c1, c2⟩ := ih.2 (by omega)
      obtain ⟨d, hd, d1, d2⟩ := b
      rw [h.same hc hd c2 d1] at c1
      exact ⟨d, hd, c1, d2⟩
theorem OkW.both (h : OkW W cs rk) (hS : ∀ v g, g ∈ SL S v ↔ edgeB W v g = true) {v o : Tx} (h1 : Rch S v o) (h2 : Rch S o v) : ∃ c ∈ cs, v ∈ c.p ∧ o ∈ c.p := by
  have a := h.rank hS h1
  have b := h.rank hS h2
  exact a.2 (by omega)
theorem OkW.per (h : OkW W cs rk) (hS : ∀ v g, g ∈ SL S v ↔ edgeB W v g = true) {I : List (Tx × List Tx)} {c : PC} (hc : c ∈ cs) (hI : ∀ v ∈ c.p, ∀ g, g ∈ SL I v ↔ g ∈ SL S v ∧ g ∈ c.p) : PerOf I (c.p.headD []) (c.cw.length + 1) := by
  have o := okPC_is (h.pc c hc)
  have k := (chain_wk (S := I) (Z := fun x => x ∈ c.p) (fun a b e ha hb => (hI a ha b).mpr ⟨(hS a b).mpr e, hb⟩) o.hd c.cw _ o.hd o.inp o.cw).1
  have pot : ∀ v n, Wk I (c.p.headD []) v n → v ∈ c.p ∧ pfT c.pot v % (c.cw.length + 1) = n % (c.cw.length + 1) := fun v n hw => by
    induction hw with
    | nil => exact ⟨o.hd, by rw [o.p0]⟩
    | more _ e ih =>
      obtain ⟨e1, e2⟩ := (hI _ ih.1 _).mp e
      refine ⟨e2, ?_⟩
      obtain ⟨w, hw, rfl, rfl⟩ := edgeB_iff.mp ((hS _ _).mp e1)
      rw [← o.pt w hw ih.1 e2, Nat.add_mod, ih.2, ← Nat.add_mod]
  intro d
  constructor
  · intro hd n hn
    have := (pot _ _ hn).2
    rw [o.p0, Nat.zero_mod] at this
    exact Nat.dvd_trans hd (Nat.dvd_of_mod_eq_zero this.symm)
  · intro hd
    exact hd _ k
end
namespace MWV
end MWV
namespace EL
theorem walk_at {S : Nat → Tx → List Tx} {sp : Tx → Nat} : ∀ (r a : Nat) (v s t : Tx), t ∈ walks S sp s r a v ↔ ∃ f : Nat → Tx, f 0 = v ∧ f r = s ∧ (∀ j, j < r → f (j + 1) ∈ S (a + j) (f j)) ∧ t = (List.range r).map fun j => sp (f j)
  | 0, a, v, s, t => by
    rw [walks]
    constructor
    · intro h
      split at h
      · rename_i e
        exact ⟨fun _ => v, rfl, e, fun j hj => absurd hj (Nat.not_lt_zero _), List.mem_singleton.mp h⟩
      · cases h
    · rintro ⟨f, h0, h1, _, rfl⟩
      rw [if_pos (h0.symm.trans h1)]
      exact List.mem_singleton.mpr rfl
  | r + 1, a, v, s, t => by
    rw [walks, List.mem_flatMap]
    constructor
    · rintro ⟨g, hg, h⟩
      obtain ⟨t', ht, rfl⟩ := List.mem_map.mp h
      obtain ⟨f, h0, h1, h2, rfl⟩ := (walk_at r (a + 1) g s t').mp ht
      refine ⟨fun j => match j with | 0 => v | k + 1 => f k, rfl, h1, fun j hj => ?_, ?_⟩
      · cases j with
        | zero => show f 0 ∈ S a v; rw [h0]; exact hg
        | succ j =>
          have := h2 j (by omega)
          rw [show a + 1 + j = a + (j + 1) by omega] at this
          exact this
      · rw [List.range_succ_eq_map, List.map_cons, List.map_map]
        rfl
    · rintro ⟨f, h0, h1, h2, rfl⟩
      refine ⟨f 1, by have := h2 0 (by omega); rw [h0] at this; exact this, ?_⟩
      rw [List.range_succ_eq_map, List.map_cons, List.map_map, h0]
      exact List.mem_map.mpr ⟨_, (walk_at r (a + 1) (f 1) s _).mpr ⟨fun j => f (j + 1), rfl, h1, fun j hj => by
        have := h2 (j + 1) (by omega)
        rw [show a + (j + 1) = a + 1 + j by omega] at this
        exact this, rfl⟩, rfl⟩
section
variable {t : List Nat} {r : Nat} {y : Tx}
theorem mem_two {v : Tx} : v ∈ allS (sigs r) 2 ↔ ∃ p s, v = [p, s] ∧ p ∈ sigs r ∧ s ∈ sigs r := by
  rw [mem_allS]
  constructor
  · rintro ⟨h1, h2⟩
    match v, h1 with
    | [p, s], _ => exact ⟨p, s, rfl, h2 p (by simp), h2 s (by simp)⟩
  · rintro ⟨p, s, rfl, h1, h2⟩
    refine ⟨rfl, fun c hc => ?_⟩
    rcases List.mem_cons.mp hc with rfl | hc
    · exact h1
    · rw [List.mem_singleton.mp hc]; exact h2
theorem sigs_pw (hr : r ≤ 2) : (sigs r).Pairwise (· < ·) := by
  have : r = 0 ∨ r = 1 ∨ r = 2 := by omega
  rcases this with rfl | rfl | rfl <;> decide
end
end EL
end LW
set_option Elab.async false
set_option maxRecDepth 100000
set_option autoImplicit false
set_option linter.unusedVariables false
set_option linter.unusedSectionVars false
set_option maxHeartbeats 4000000
noncomputable section
namespace LW
open PySem L2 PySem.Spec PyProof.Rows DL
def top (i : Nat) : Stmt := PySem.Challenge.pw_standwaves_k55_orphan_rows_told.main.body.getD i (.Pass ⟨0, 0, 0, 0⟩)
abbrev s__law_bag : Stmt := top 20
abbrev s__law_take : Stmt := top 21
abbrev s__law_rule : Stmt := top 23
abbrev s_is_row : Stmt := top 6
abbrev s_is_table : Stmt := top 7
abbrev s_is_integer : Stmt := top 5
abbrev s_Rule___init__ : Stmt := inCls (top 18) 1
abbrev s__law_my_rule : Stmt := top 28
abbrev s__law_my_signs : Stmt := top 27
abbrev s__law_beat : Stmt := top 25
abbrev s__law_inner : Stmt := top 26
abbrev s__law_pairs_on : Stmt := top 31
abbrev s__law_my_all : Stmt := top 29
abbrev s__law_pairs : Stmt := top 32
abbrev s__law_longer : Stmt := top 33
abbrev s__law_first : Stmt := top 34
abbrev s__law_alike : Stmt := top 22
abbrev s__law_text : Stmt := top 24
abbrev s_Rule_signs : Stmt := inCls (top 18) 4
abbrev s_pairs_of : Stmt := top 9
abbrev s_sign_after : Stmt := top 17
abbrev s_Rule___call__ : Stmt := inCls (top 18) 5
abbrev s_pairs_after : Stmt := top 10
abbrev s_is_orphan_row : Stmt := top 11
abbrev s_Rule_table : Stmt := inCls (top 18) 2
abbrev s_a_sign_longer : Stmt := top 12
abbrev s_orphan_row : Stmt := top 13
abbrev s__law_my_row_after : Stmt := top 30
abbrev s__law_by_all : Stmt := top 35
abbrev s_law : Stmt := top 36
structure Ads where
  a__law_bag : Addr
  d__law_bag : FuncData
  a__law_take : Addr
  d__law_take : FuncData
  a__law_rule : Addr
  d__law_rule : FuncData
  a_is_row : Addr
  d_is_row : FuncData
  a_is_table : Addr
  d_is_table : FuncData
  a_is_integer : Addr
  d_is_integer : FuncData
  a_Rule___init__ : Addr
  d_Rule___init__ : FuncData
  a__law_my_rule : Addr
  d__law_my_rule : FuncData
  a__law_my_signs : Addr
  d__law_my_signs : FuncData
  a__law_beat : Addr
  d__law_beat : FuncData
  a__law_inner : Addr
  d__law_inner : FuncData
  a__law_pairs_on : Addr
  d__law_pairs_on : FuncData
  a__law_my_all : Addr
  d__law_my_all : FuncData
  a__law_pairs : Addr
  d__law_pairs : FuncData
  a__law_longer : Addr
  d__law_longer : FuncData
  a__law_first : Addr
  d__law_first : FuncData
  a__law_alike : Addr
  d__law_alike : FuncData
  a__law_text : Addr
  d__law_text : FuncData
  a_Rule_signs : Addr
  d_Rule_signs : FuncData
  a_pairs_of : Addr
  d_pairs_of : FuncData
  a_sign_after : Addr
  d_sign_after : FuncData
  a_Rule___call__ : Addr
  d_Rule___call__ : FuncData
  a_pairs_after : Addr
  d_pairs_after : FuncData
  a_is_orphan_row : Addr
  d_is_orphan_row : FuncData
  a_Rule_table : Addr
  d_Rule_table : FuncData
  a_a_sign_longer : Addr
  d_a_sign_longer : FuncData
  a_orphan_row : Addr
  d_orphan_row : FuncData
  a__law_my_row_after : Addr
  d__law_my_row_after : FuncData
  a__law_by_all : Addr
  d__law_by_all : FuncData
  a_law : Addr
  d_law : FuncData
  c_Rule : Addr
  p_Rule_its_rests : Addr
  p_Rule_its_table : Addr
  g_Rule_signs : Addr
  g_Rule_table : Addr
structure Txt [TAB : TabList] (P : Program) (w : World) (K : PySem.W.Frag) (mg : Str → Option Value) (FA : Ads) : Prop where
  hK : TAB.K = some K
  _law_bag : FnAt K mg "_law_bag" s__law_bag ["_law_script"] FA.a__law_bag FA.d__law_bag
  _law_take : FnAt K mg "_law_take" s__law_take ["_law_bag_here", "_law_many"] FA.a__law_take FA.d__law_take
  _law_rule : FnAt K mg "_law_rule" s__law_rule ["_law_bag_here"] FA.a__law_rule FA.d__law_rule
  is_row : FnAt K mg "is_row" s_is_row ["thing", "signs"] FA.a_is_row FA.d_is_row
  is_table : FnAt K mg "is_table" s_is_table ["thing"] FA.a_is_table FA.d_is_table
  is_integer : FnAt K mg "is_integer" s_is_integer ["thing"] FA.a_is_integer FA.d_is_integer
  Rule___init__ : InitAt K FA.c_Rule "Rule.__init__" s_Rule___init__ ["self", "table", "rests"] FA.a_Rule___init__ FA.d_Rule___init__
  _law_my_rule : FnAt K mg "_law_my_rule" s__law_my_rule ["_law_made"] FA.a__law_my_rule FA.d__law_my_rule
  _law_my_signs : FnAt K mg "_law_my_signs" s__law_my_signs ["_law_made"] FA.a__law_my_signs FA.d__law_my_signs
  _law_beat : FnAt K mg "_law_beat" s__law_beat ["_law_made", "_law_text_here"] FA.a__law_beat FA.d__law_beat
  _law_inner : FnAt K mg "_law_inner" s__law_inner ["_law_made", "_law_row"] FA.a__law_inner FA.d__law_inner
  _law_pairs_on : FnAt K mg "_law_pairs_on" s__law_pairs_on ["_law_made", "_law_some", "_law_sign"] FA.a__law_pairs_on FA.d__law_pairs_on
  _law_my_all : FnAt K mg "_law_my_all" s__law_my_all ["_law_signs", "_law_size"] FA.a__law_my_all FA.d__law_my_all
  _law_pairs : FnAt K mg "_law_pairs" s__law_pairs ["_law_made", "_law_row"] FA.a__law_pairs FA.d__law_pairs
  _law_longer : FnAt K mg "_law_longer" s__law_longer ["_law_made", "_law_rows", "_law_met"] FA.a__law_longer FA.d__law_longer
  _law_first : FnAt K mg "_law_first" s__law_first ["_law_made"] FA.a__law_first FA.d__law_first
  _law_alike : FnAt K mg "_law_alike" s__law_alike ["_law_found", "_law_due"] FA.a__law_alike FA.d__law_alike
  _law_text : FnAt K mg "_law_text" s__law_text ["_law_bag_here", "_law_rests", "_law_most"] FA.a__law_text FA.d__law_text
  Rule_signs : GetAt K FA.c_Rule FA.g_Rule_signs "signs" "Rule.signs" s_Rule_signs ["self"] FA.a_Rule_signs FA.d_Rule_signs
  pairs_of : FnAt K mg "pairs_of" s_pairs_of ["rule"] FA.a_pairs_of FA.d_pairs_of
  sign_after : FnAt K mg "sign_after" s_sign_after ["table", "last", "left", "seat", "right"] FA.a_sign_after FA.d_sign_after
  Rule___call__ : MethAt K FA.c_Rule "__call__" "Rule.__call__" s_Rule___call__ ["self", "left", "seat", "right"] FA.a_Rule___call__ FA.d_Rule___call__
  pairs_after : FnAt K mg "pairs_after" s_pairs_after ["rule", "pairs", "sign"] FA.a_pairs_after FA.d_pairs_after
  is_orphan_row : FnAt K mg "is_orphan_row" s_is_orphan_row ["rule", "row"] FA.a_is_orphan_row FA.d_is_orphan_row
  Rule_table : GetAt K FA.c_Rule FA.g_Rule_table "table" "Rule.table" s_Rule_table ["self"] FA.a_Rule_table FA.d_Rule_table
  a_sign_longer : FnAt K mg "a_sign_longer" s_a_sign_longer ["rule", "level"] FA.a_a_sign_longer FA.d_a_sign_longer
  orphan_row : FnAt K mg "orphan_row" s_orphan_row ["rule"] FA.a_orphan_row FA.d_orphan_row
  _law_my_row_after : FnAt K mg "_law_my_row_after" s__law_my_row_after ["_law_made", "_law_row", "_law_many"] FA.a__law_my_row_after FA.d__law_my_row_after
  _law_by_all : FnAt K mg "_law_by_all" s__law_by_all ["_law_made", "_law_row"] FA.a__law_by_all FA.d__law_by_all
  law : FnAt K mg "law" s_law ["_law_script"] FA.a_law FA.d_law
  C_Rule : ClsAt K mg 0 FA.c_Rule
  O_Rule___call__ : PySem.W.fnIn K FA.a_Rule___call__ = true
  S_Rule_its_rests : SlX.Slot1 K FA.c_Rule "its_rests" FA.p_Rule_its_rests 0
  S_Rule_its_table : SlX.Slot1 K FA.c_Rule "its_table" FA.p_Rule_its_table 1
  k_MOST_RESTS : ∃ t, mg "MOST_RESTS" = some (.int 2 t)
  k_SIGNS : ∃ t, mg "SIGNS" = some (.str ⟨[48, 49, 50, 51].toArray⟩ t)
  b_abs : mg "abs" = none
  b_all : mg "all" = none
  b_bool : mg "bool" = none
  b_dict : mg "dict" = none
  b_enumerate : mg "enumerate" = none
  b_int : mg "int" = none
  b_isinstance : mg "isinstance" = none
  b_len : mg "len" = none
  b_range : mg "range" = none
  b_repr : mg "repr" = none
  b_sorted : mg "sorted" = none
  b_str : mg "str" = none
  b_sum : mg "sum" = none
  b_tuple : mg "tuple" = none
section
variable {P : Program} {w : World} {K : PySem.W.Frag} {mg : Str → Option Value} {base : Heap} {FA : Ads} [TAB : TabList]
theorem repr_room {A : Around} {k : Nat} (hr : Room k A) : A.units + 70 < cLine := by have := hr.un; omega
theorem sc__law_bag : FnScope ["_law_script", "_law_cell"] ["_law_script"] (defScope s__law_bag) := ⟨rfl, rfl, rfl, by decide +kernel, rfl, by decide +kernel, by decide +kernel⟩
theorem ok__law_bag (T : Txt P w K mg FA) : FnOk P w K mg base CX0 1 FA.a__law_bag FA.d__law_bag ["_law_script"] (spN K 1 R__law_bag) :=
  fnN T._law_bag.fn sc__law_bag fun cdv A outer s H E hr =>
  (ss_one (s_retN [0, 1] (dn_lst (da_cons d_int (da_cons d_int (da_cons d_int (da_cons (d_n (dn_lc (own := [("_law_cell", 1)]) rfl sc__law_bag.nd (di_any (d_slice (dv 0) do_none (do_some d_int))) (blkOk_by (N := ["_law_script", "_law_cell"]) (sc := defScope s__law_bag) (by decide +kernel)) (tg_name 1) (by decide) (fun _ _ _ _ _ => (pg_name (i := 1) sc__law_bag.nd rfl (by first | exact Or.inl rfl | exact Or.inr rfl))) (fun _ _ _ _ _ => dts_nil) (fun _ _ _ _ _ => (d_abs rfl T.b_abs (da_cons (dv 1) da_nil))))) da_nil)))))))
theorem sc__law_take : FnScope ["_law_bag_here", "_law_many", "_law_begin", "_law_second", "_law_cell", "_law_mixed", "_law_value"] ["_law_bag_here", "_law_many"] (defScope s__law_take) := ⟨rfl, rfl, rfl, by decide +kernel, rfl, by decide +kernel, by decide +kernel⟩
theorem ok__law_take (T : Txt P w K mg FA) : FnOk P w K mg base CX0 1 FA.a__law_take FA.d__law_take ["_law_bag_here", "_law_many"] (spD K 2 R__law_take) :=
  fnD T._law_take.fn sc__law_take fun cdv A outer s H E hr =>
  (ss_cons (s_if [0] (t_eq hr.units (d_ix (dv 0) d_int) d_int)
  (ss_cons (s_set 4 [] sc__law_take.nd rfl (by first | exact Or.inl rfl | exact Or.inr rfl) d_int)
  (ss_cons (s_if [0] (t_lt (d_ix (dv 0) d_int) (d_len rfl T.b_len (da_cons (d_ix (dv 0) d_int) da_nil)))
  (ss_one (s_set 4 [0] sc__law_take.nd rfl (by first | exact Or.inl rfl | exact Or.inr rfl) (d_ix (d_ix (dv 0) d_int) (d_ix (dv 0) d_int))))
  ss_nil)
  (ss_cons (s_bagaug 0 [] (by decide))
  (ss_cons (s_if [4] (t_ge (dv 4) d_int)
  (ss_one (s_bagset 0 [4] (dv 4)))
  ss_nil)
  (ss_cons (s_set 5 [0, 4] sc__law_take.nd rfl (by first | exact Or.inl rfl | exact Or.inr rfl) (d_add (d_add (d_mul (d_ix (dv 0) d_int) d_int) (d_mod (d_cint rfl T.b_int (da_cons (dv 4) da_nil)) d_int)) (d_mul d_int (d_ix (dv 0) d_int))))
  (ss_one (s_bagset 0 [5] (d_mod (d_cint rfl T.b_int (da_cons (dv 5) da_nil)) d_int))))))))
  ss_nil)
  (ss_cons (s_if [0] (t_gt (d_ix (dv 0) d_int) d_int)
  (ss_cons (s_set 6 [0, 1] sc__law_take.nd rfl (by first | exact Or.inl rfl | exact Or.inr rfl) (d_mod (d_cint rfl T.b_int (da_cons (d_ix (dv 0) d_int) da_nil)) (dv 1)))
  (ss_cons (s_bagset 0 [0, 1] (d_div (d_ix (dv 0) d_int) (dv 1)))
  (ss_one (s_ret [6] (dv 6)))))
  ss_nil)
  (ss_cons (s_set 2 [0] sc__law_take.nd rfl (by first | exact Or.inl rfl | exact Or.inr rfl) (d_mod (d_cint rfl T.b_int (da_cons (d_mul (d_add (d_ix (dv 0) d_int) d_int) d_int) da_nil)) d_int))
  (ss_cons (s_set 3 [2] sc__law_take.nd rfl (by first | exact Or.inl rfl | exact Or.inr rfl) (d_mod (d_cint rfl T.b_int (da_cons (d_mul (d_mod (d_cint rfl T.b_int (da_cons (d_mul (dv 2) (dv 2)) da_nil)) d_int) d_int) da_nil)) d_int))
  (ss_cons (s_if [1] (t_gt (dv 1) d_int)
  (ss_one (s_ret [1, 2, 3] (d_mod (d_cint rfl T.b_int (da_cons (d_add (d_mul (dv 3) d_int) (dv 2)) da_nil)) (dv 1))))
  ss_nil)
  (ss_one (s_ret [1, 3] (d_mod (d_cint rfl T.b_int (da_cons (d_div (dv 3) d_int) da_nil)) (dv 1)))))))))
theorem sc__law_rule : FnScope ["_law_bag_here", "_law_table", "_law_k"] ["_law_bag_here"] (defScope s__law_rule) := ⟨rfl, rfl, rfl, by decide +kernel, rfl, by decide +kernel, by decide +kernel⟩
theorem ok__law_rule (T : Txt P w K mg FA) : FnOk P w K mg base CX0 2 FA.a__law_rule FA.d__law_rule ["_law_bag_here"] (spD K 1 R__law_rule) :=
  fnD T._law_rule.fn sc__law_rule fun cdv A outer s H E hr =>
  (ss_cons (s_set 1 [0] sc__law_rule.nd rfl (by first | exact Or.inl rfl | exact Or.inr rfl) (d_join (d_str []) (d_n (dn_lc (own := [("_law_k", 2)]) rfl sc__law_rule.nd (di_r (dr_range1 rfl T.b_range (da_cons d_int da_nil))) (blkOk_by (N := ["_law_bag_here", "_law_table", "_law_k"]) (sc := defScope s__law_rule) (by decide +kernel)) (tg_name 2) (by decide) (fun _ _ _ _ _ => (pg_name (i := 2) sc__law_rule.nd rfl (by first | exact Or.inl rfl | exact Or.inr rfl))) (fun _ _ _ _ _ => dts_nil) (fun _ _ _ _ _ => (d_ixF hr.units (d_str [48, 49]) (d_call (ok__law_take T) (hr.mono (by decide)) rfl T._law_take.gl T._law_take.fn.kp T._law_take.bd (da_cons (dv 0) (da_cons d_int da_nil)) (ar_cons (ar_cons ar_nil)))))))))
  (ss_one (s_ret [0, 1] (d_tup (da_cons (d_ixF hr.units (d_n (dn_lst (da_cons (d_str [48, 49, 49, 49]) (da_cons (dv 1) (da_cons (dv 1) da_nil))))) (d_call (ok__law_take T) (hr.mono (by decide)) rfl T._law_take.gl T._law_take.fn.kp T._law_take.bd (da_cons (dv 0) (da_cons d_int da_nil)) (ar_cons (ar_cons ar_nil)))) (da_cons (d_call (ok__law_take T) (hr.mono (by decide)) rfl T._law_take.gl T._law_take.fn.kp T._law_take.bd (da_cons (dv 0) (da_cons d_int da_nil)) (ar_cons (ar_cons ar_nil))) da_nil))))))
theorem sc_is_row : FnScope ["thing", "signs", "sign"] ["thing", "signs"] (defScope s_is_row) := ⟨rfl, rfl, rfl, by decide +kernel, rfl, by decide +kernel, by decide +kernel⟩
theorem ok_is_row (T : Txt P w K mg FA) : FnOk P w K mg base CX0 1 FA.a_is_row FA.d_is_row ["thing", "signs"] (spD K 2 R_is_row) :=
  fnD T.is_row.fn sc_is_row fun cdv A outer s H E hr =>
  (ss_one (s_ret [0, 1, 2] (d_and (d_isi (T := "str") (by decide) rfl T.b_isinstance rfl T.b_str (by decide +kernel) (dv 0)) (d_one (d_all rfl rfl T.b_all (da_cons (d_n (dn_lc (own := [("sign", 2)]) rfl sc_is_row.nd (di_any (dv 0)) (blkOk_by (N := ["thing", "signs", "sign"]) (sc := defScope s_is_row) (by decide +kernel)) (tg_name 2) (by decide) (fun _ _ _ _ _ => (pg_name (i := 2) sc_is_row.nd rfl (by first | exact Or.inl rfl | exact Or.inr rfl))) (fun _ _ _ _ _ => dts_nil) (fun _ _ _ _ _ => (d_inF hr.units (dv 2) (dv 1))))) da_nil))))))
theorem sc_is_table : FnScope ["thing"] ["thing"] (defScope s_is_table) := ⟨rfl, rfl, rfl, by decide +kernel, rfl, by decide +kernel, by decide +kernel⟩
theorem ok_is_table (T : Txt P w K mg FA) : FnOk P w K mg base CX0 2 FA.a_is_table FA.d_is_table ["thing"] (spD K 1 R_is_table) :=
  fnD T.is_table.fn sc_is_table fun cdv A outer s H E hr =>
  (ss_one (s_ret [0] (d_and (d_call (ok_is_row T) (hr.mono (by decide)) rfl T.is_row.gl T.is_row.fn.kp T.is_row.bd (da_cons (dv 0) (da_cons (d_str [48, 49]) da_nil)) (ar_cons (ar_cons ar_nil))) (d_one (d_eq hr.units (d_lenG rfl T.b_len (da_cons (dv 0) da_nil)) d_int)))))
theorem sc_is_integer : FnScope ["thing"] ["thing"] (defScope s_is_integer) := ⟨rfl, rfl, rfl, by decide +kernel, rfl, by decide +kernel, by decide +kernel⟩
theorem ok_is_integer (T : Txt P w K mg FA) : FnOk P w K mg base CX0 1 FA.a_is_integer FA.d_is_integer ["thing"] (spD K 1 R_is_integer) :=
  fnD T.is_integer.fn sc_is_integer fun cdv A outer s H E hr =>
  (ss_one (s_ret [0] (d_and (d_isi (T := "int") (by decide) rfl T.b_isinstance rfl T.b_int (by decide +kernel) (dv 0)) (d_one (d_not (d_isi (T := "bool") (by decide) rfl T.b_isinstance rfl T.b_bool (by decide +kernel) (dv 0)))))))
theorem sc_Rule___init__ : FnScope ["self", "table", "rests"] ["self", "table", "rests"] (defScope s_Rule___init__) := ⟨rfl, rfl, rfl, by decide +kernel, rfl, by decide +kernel, by decide +kernel⟩
theorem ok_Rule___init__ (T : Txt P w K mg FA) : FnOk P w K mg base CX0 3 FA.a_Rule___init__ FA.d_Rule___init__ ["self", "table", "rests"] (spI K 2 FA.c_Rule ruleI) :=
  fnI T.Rule___init__.fn sc_Rule___init__ rfl init_Rule fun cdv A outer s H E hr =>
  (i_cons (s_if [1] (t_not (t_val (d_call (ok_is_table T) (hr.mono (by decide)) rfl T.is_table.gl T.is_table.fn.kp T.is_table.bd (da_cons (dv 1) da_nil) (ar_cons ar_nil))))
  (ss_one s_fail)
  ss_nil)
  (i_cons (s_if [2] (t_w (w_or (t_not (t_val (d_call (ok_is_integer T) (hr.mono (by decide)) rfl T.is_integer.gl T.is_integer.fn.kp T.is_integer.bd (da_cons (dv 2) da_nil) (ar_cons ar_nil)))) (w_or1 (t_not (t_chain op_le op_le snd_cmp snd_cmp d_int (dv 2) (d_gint 2 rfl T.k_MOST_RESTS))))))
  (ss_one s_fail)
  ss_nil)
  (i_twoS [1, 2] rfl T.C_Rule.cl T.S_Rule_its_table T.S_Rule_its_rests rfl (by first | exact Or.inl rfl | exact Or.inr (Or.inl rfl) | exact Or.inr (Or.inr rfl)) (d_tup (da_cons (dv 1) (da_cons (dv 2) da_nil))))))
theorem sc__law_my_rule : FnScope ["_law_made"] ["_law_made"] (defScope s__law_my_rule) := ⟨rfl, rfl, rfl, by decide +kernel, rfl, by decide +kernel, by decide +kernel⟩
theorem ok__law_my_rule (T : Txt P w K mg FA) : FnOk P w K mg base CX0 5 FA.a__law_my_rule FA.d__law_my_rule ["_law_made"] (spD K 1 R__law_my_rule) :=
  fnD T._law_my_rule.fn sc__law_my_rule fun cdv A outer s H E hr =>
  (ss_one (s_ret [0] (d_make T.C_Rule T.Rule___init__.im (ok_Rule___init__ T) T.Rule___init__.bd (hr.mono (by decide)) rfl T.C_Rule.gl (da_cons (d_ixF hr.units (dv 0) d_int) (da_cons (d_ixF hr.units (dv 0) d_int) da_nil)) (ar_cons (ar_cons ar_nil)))))
def F__law_my_signs : Env2 → M Out :=
  (retM [0] (eSl (cst (.str [48, 49, 50, 51])) oN (oS (e2 addD (e2 ixF (rdEnv 0) (cst (.int 1))) (cst (.int 2))))))
def R__law_my_signs : List D → M D := runD 1 F__law_my_signs
theorem sc__law_my_signs : FnScope ["_law_made"] ["_law_made"] (defScope s__law_my_signs) := ⟨rfl, rfl, rfl, by decide +kernel, rfl, by decide +kernel, by decide +kernel⟩
theorem ok__law_my_signs (T : Txt P w K mg FA) : FnOk P w K mg base CX0 1 FA.a__law_my_signs FA.d__law_my_signs ["_law_made"] (spD K 1 R__law_my_signs) :=
  fnD T._law_my_signs.fn sc__law_my_signs fun cdv A outer s H E hr =>
  (ss_one (s_ret [0] (d_slice (d_str [48, 49, 50, 51]) do_none (do_some (d_add (d_ixF hr.units (dv 0) d_int) d_int)))))
theorem sc__law_beat : FnScope ["_law_made", "_law_text_here", "_law_found", "_law_table", "_law_rests", "_law_k", "_law_seat", "_law_sides", "_law_one"] ["_law_made", "_law_text_here"] (defScope s__law_beat) := ⟨rfl, rfl, rfl, by decide +kernel, rfl, by decide +kernel, by decide +kernel⟩
theorem ok__law_beat (T : Txt P w K mg FA) : FnOk P w K mg base CX0 1 FA.a__law_beat FA.d__law_beat ["_law_made", "_law_text_here"] (spD K 2 R__law_beat) :=
  fnD T._law_beat.fn sc__law_beat fun cdv A outer s H E hr =>
  (ss_cons (s_unp (bs := (bTup 2 (bCons (bName 3) (bCons (bName 4) bNil)))) [0] (dv 0) (pg_tup (by rfl) (pgs_cons (pg_name (i := 3) sc__law_beat.nd rfl (by first | exact Or.inl rfl | exact Or.inr rfl)) (pgs_cons (pg_name (i := 4) sc__law_beat.nd rfl (by first | exact Or.inl rfl | exact Or.inr rfl)) pgs_nil))) (tg_tup 2 (tgs_cons (tg_name 3) (tgs_cons (tg_name 4) tgs_nil))))
  (ss_cons (s_set 2 [] sc__law_beat.nd rfl (by first | exact Or.inl rfl | exact Or.inr rfl) (d_str []))
  (ss_cons (s_for [1] PassesOwn.never rfl (di_enum rfl T.b_enumerate (da_cons (dv 1) da_nil)) (pg_tup (by rfl) (pgs_cons (pg_name (i := 5) sc__law_beat.nd rfl (by first | exact Or.inl rfl | exact Or.inr rfl)) (pgs_cons (pg_name (i := 6) sc__law_beat.nd rfl (by first | exact Or.inl rfl | exact Or.inr rfl)) pgs_nil))) (tg_tup 2 (tgs_cons (tg_name 5) (tgs_cons (tg_name 6) tgs_nil)))
  (ss_cons (s_setN 7 [1, 5] sc__law_beat.nd rfl (by first | exact Or.inl rfl | exact Or.inr rfl) (dn_lst (da_cons (d_ixF hr.units (dv 1) (d_sub (dv 5) d_int)) (da_cons (d_ixF hr.units (dv 1) (d_mod (d_cint rfl T.b_int (da_cons (d_add (dv 5) d_int) da_nil)) (d_lenG rfl T.b_len (da_cons (dv 1) da_nil)))) da_nil))))
  (ss_one (s_if [6] (t_eq hr.units (dv 6) (d_str [48]))
  (ss_one (s_set 2 [2, 3, 7, 8] sc__law_beat.nd rfl (by first | exact Or.inl rfl | exact Or.inr rfl) (d_add (dv 2) (d_ixF hr.units (dv 3) (d_int2 rfl T.b_int (da_cons (d_join (d_str []) (d_n (dn_lc (own := [("_law_one", 8)]) rfl sc__law_beat.nd (di_any (dv 7)) (blkOk_by (N := ["_law_made", "_law_text_here", "_law_found", "_law_table", "_law_rests", "_law_k", "_law_seat", "_law_sides", "_law_one"]) (sc := defScope s__law_beat) (by decide +kernel)) (tg_name 8) (by decide) (fun _ _ _ _ _ => (pg_name (i := 8) sc__law_beat.nd rfl (by first | exact Or.inl rfl | exact Or.inr rfl))) (fun _ _ _ _ _ => dts_nil) (fun _ _ _ _ _ => (d_cstr rfl T.b_str (da_cons (d_cint rfl T.b_int (da_cons (d_eq hr.units (dv 8) (d_str [49])) da_nil)) da_nil)))))) (da_cons d_int da_nil)))))))
  (ss_one (s_set 2 [2, 4, 6] sc__law_beat.nd rfl (by first | exact Or.inl rfl | exact Or.inr rfl) (d_add (dv 2) (d_ixF hr.units (d_str [48, 49, 50, 51]) (d_mod (d_cint rfl T.b_int (da_cons (d_add (d_cint rfl T.b_int (da_cons (dv 6) da_nil)) d_int) da_nil)) (d_add (dv 4) d_int))))))))))
  (ss_one (s_ret [2] (dv 2))))))
theorem sc__law_inner : FnScope ["_law_made", "_law_row"] ["_law_made", "_law_row"] (defScope s__law_inner) := ⟨rfl, rfl, rfl, by decide +kernel, rfl, by decide +kernel, by decide +kernel⟩
theorem ok__law_inner (T : Txt P w K mg FA) : FnOk P w K mg base CX0 2 FA.a__law_inner FA.d__law_inner ["_law_made", "_law_row"] (spD K 2 R__law_inner) :=
  fnD T._law_inner.fn sc__law_inner fun cdv A outer s H E hr =>
  (ss_one (s_ret [0, 1] (d_if (t_gt (d_lenG rfl T.b_len (da_cons (dv 1) da_nil)) d_int) (d_slice (d_call (ok__law_beat T) (hr.mono (by decide)) rfl T._law_beat.gl T._law_beat.fn.kp T._law_beat.bd (da_cons (dv 0) (da_cons (dv 1) da_nil)) (ar_cons (ar_cons ar_nil))) (do_some d_int) (do_some (d_neg d_int))) (d_str []))))
def F__law_pairs_on_2 : Env2 → M Out :=
  (seqM (setDM 3 (.k [] []))
  (seqM (forA [1] (iKeysD (rdEnv 1)) (bName 4)
  (forA [0] (iAny (eCall R__law_my_signs (aC (rdEnv 0) aN))) (bName 5)
  (ifM [0, 2, 4, 5] (t2 (eqD false) (eCall R__law_inner (aC (rdEnv 0) (aC (e2 addD (rdEnv 4) (rdEnv 5)) aN))) (rdEnv 2))
  (dputM 3 [4, 5] (cst (.bl true)) (e2 addD (e2 ixF (rdEnv 4) (cst (.int 1))) (rdEnv 5)))
  sNil)))
  (retM [3] (rdEnv 3))))
def R__law_pairs_on_2 : List D → M D := runD 6 F__law_pairs_on_2
theorem sc__law_pairs_on : FnScope ["_law_made", "_law_some", "_law_sign", "_law_found", "_law_pair", "_law_right"] ["_law_made", "_law_some", "_law_sign"] (defScope s__law_pairs_on) := ⟨rfl, rfl, rfl, by decide +kernel, rfl, by decide +kernel, by decide +kernel⟩
theorem ok__law_pairs_on (T : Txt P w K mg FA) : FnOk P w K mg base CX0 3 FA.a__law_pairs_on FA.d__law_pairs_on ["_law_made", "_law_some", "_law_sign"] (spD K 3 R__law_pairs_on_2) :=
  fnD T._law_pairs_on.fn sc__law_pairs_on fun cdv A outer s H E hr =>
  (ss_cons (s_set0K 3 sc__law_pairs_on.nd rfl (by first | exact Or.inl rfl | exact Or.inr rfl))
  (ss_cons (s_forL [1] PassesOwn.never rfl (di_keys (dv 1)) (pg_name (i := 4) sc__law_pairs_on.nd rfl (by first | exact Or.inl rfl | exact Or.inr rfl)) (tg_name 4)
  (ss_one (s_for [0] PassesOwn.never rfl (di_any (d_call (ok__law_my_signs T) (hr.mono (by decide)) rfl T._law_my_signs.gl T._law_my_signs.fn.kp T._law_my_signs.bd (da_cons (dv 0) da_nil) (ar_cons ar_nil))) (pg_name (i := 5) sc__law_pairs_on.nd rfl (by first | exact Or.inl rfl | exact Or.inr rfl)) (tg_name 5)
  (ss_one (s_if [0, 2, 4, 5] (t_eq hr.units (d_call (ok__law_inner T) (hr.mono (by decide)) rfl T._law_inner.gl T._law_inner.fn.kp T._law_inner.bd (da_cons (dv 0) (da_cons (d_add (dv 4) (dv 5)) da_nil)) (ar_cons (ar_cons ar_nil))) (dv 2))
  (ss_one (s_dput 3 [4, 5] hr.units (d_add (d_ixF hr.units (dv 4) d_int) (dv 5)) d_bl))
  ss_nil)))))
  (ss_one (s_ret [3] (dv 3)))))
theorem sc__law_my_all : FnScope ["_law_signs", "_law_size", "_law_found", "_law_k", "_law_text_here", "_law_sign"] ["_law_signs", "_law_size"] (defScope s__law_my_all) := ⟨rfl, rfl, rfl, by decide +kernel, rfl, by decide +kernel, by decide +kernel⟩
theorem ok__law_my_all (T : Txt P w K mg FA) : FnOk P w K mg base CX0 1 FA.a__law_my_all FA.d__law_my_all ["_law_signs", "_law_size"] (spD K 2 R__law_my_all) :=
  fnD T._law_my_all.fn sc__law_my_all fun cdv A outer s H E hr =>
  (ss_cons (s_setN 2 [] sc__law_my_all.nd rfl (by first | exact Or.inl rfl | exact Or.inr rfl) (dn_lst (da_cons (d_str []) da_nil)))
  (ss_cons (s_forR [1] PassesOwn.never rfl (dr_range1 rfl T.b_range (da_cons (dv 1) da_nil)) (pg_name (i := 3) sc__law_my_all.nd rfl (by first | exact Or.inl rfl | exact Or.inr rfl)) (tg_name 3)
  (ss_one (s_set 2 [0, 2, 4, 5] sc__law_my_all.nd rfl (by first | exact Or.inl rfl | exact Or.inr rfl) (d_sumL rfl rfl T.b_sum (da_cons (d_n (dn_lc (own := [("_law_text_here", 4)]) rfl sc__law_my_all.nd (di_any (dv 2)) (blkOk_by (N := ["_law_signs", "_law_size", "_law_found", "_law_k", "_law_text_here", "_law_sign"]) (sc := defScope s__law_my_all) (by decide +kernel)) (tg_name 4) (by decide) (fun _ _ _ _ _ => (pg_name (i := 4) sc__law_my_all.nd rfl (by first | exact Or.inl rfl | exact Or.inr rfl))) (fun _ _ _ _ _ => dts_nil) (fun _ _ _ _ _ => (d_n (dn_lc (own := [("_law_sign", 5)]) rfl sc__law_my_all.nd (di_any (dv 0)) (blkOk_by (by rfl)) (tg_name 5) (by decide) (fun _ _ _ _ _ => (pg_name (i := 5) sc__law_my_all.nd rfl (by first | exact Or.inl rfl | exact Or.inr rfl))) (fun _ _ _ _ _ => dts_nil) (fun _ _ _ _ _ => (d_add (dv 4) (dv 5)))))))) (da_cons (d_n (dn_lst da_nil)) da_nil))))))
  (ss_one (s_retOwn 2))))
def F__law_pairs_2 : Env2 → M Out :=
  (seqM (setM 2 [0] (eCall R__law_my_signs (aC (rdEnv 0) aN)))
  (seqM (setM 3 [2, 5] (eCall dictPF (aC (eN (nLc [5] (iAny (eCall R__law_my_all (aC (rdEnv 2) (aC (cst (.int 2)) aN)))) (bName 5) cT (eTup (aC (rdEnv 5) (aC (cst (.bl true)) aN))))) aN)))
  (seqM (forA [1] (iAny (rdEnv 1)) (bName 4)
  (setM 3 [0, 3, 4] (eCall R__law_pairs_on_2 (aC (rdEnv 0) (aC (rdEnv 3) (aC (rdEnv 4) aN))))))
  (retM [3] (rdEnv 3)))))
def R__law_pairs_2 : List D → M D := runD 6 F__law_pairs_2
theorem sc__law_pairs : FnScope ["_law_made", "_law_row", "_law_signs", "_law_some", "_law_sign", "_law_pair"] ["_law_made", "_law_row"] (defScope s__law_pairs) := ⟨rfl, rfl, rfl, by decide +kernel, rfl, by decide +kernel, by decide +kernel⟩
theorem ok__law_pairs (T : Txt P w K mg FA) : FnOk P w K mg base CX0 4 FA.a__law_pairs FA.d__law_pairs ["_law_made", "_law_row"] (spD K 2 R__law_pairs_2) :=
  fnD T._law_pairs.fn sc__law_pairs fun cdv A outer s H E hr =>
  (ss_cons (s_set 2 [0] sc__law_pairs.nd rfl (by first | exact Or.inl rfl | exact Or.inr rfl) (d_call (ok__law_my_signs T) (hr.mono (by decide)) rfl T._law_my_signs.gl T._law_my_signs.fn.kp T._law_my_signs.bd (da_cons (dv 0) da_nil) (ar_cons ar_nil)))
  (ss_cons (s_set 3 [2, 5] sc__law_pairs.nd rfl (by first | exact Or.inl rfl | exact Or.inr rfl) (d_dictP rfl rfl T.b_dict (da_cons (d_n (dn_lc (own := [("_law_pair", 5)]) rfl sc__law_pairs.nd (di_any (d_call (ok__law_my_all T) (hr.mono (by decide)) rfl T._law_my_all.gl T._law_my_all.fn.kp T._law_my_all.bd (da_cons (dv 2) (da_cons d_int da_nil)) (ar_cons (ar_cons ar_nil)))) (blkOk_by (N := ["_law_made", "_law_row", "_law_signs", "_law_some", "_law_sign", "_law_pair"]) (sc := defScope s__law_pairs) (by decide +kernel)) (tg_name 5) (by decide) (fun _ _ _ _ _ => (pg_name (i := 5) sc__law_pairs.nd rfl (by first | exact Or.inl rfl | exact Or.inr rfl))) (fun _ _ _ _ _ => dts_nil) (fun _ _ _ _ _ => (d_tup (da_cons (dv 5) (da_cons d_bl da_nil)))))) da_nil)))
  (ss_cons (s_for [1] PassesOwn.never rfl (di_any (dv 1)) (pg_name (i := 4) sc__law_pairs.nd rfl (by first | exact Or.inl rfl | exact Or.inr rfl)) (tg_name 4)
  (ss_one (s_set 3 [0, 3, 4] sc__law_pairs.nd rfl (by first | exact Or.inl rfl | exact Or.inr rfl) (d_call (ok__law_pairs_on T) (hr.mono (by decide)) rfl T._law_pairs_on.gl T._law_pairs_on.fn.kp T._law_pairs_on.bd (da_cons (dv 0) (da_cons (dv 3) (da_cons (dv 4) da_nil))) (ar_cons (ar_cons (ar_cons ar_nil)))))))
  (ss_one (s_ret [3] (dv 3))))))
def F__law_alike_4 : Env2 → M Out :=
  (retM [0, 1] (eAnd (e2 (eqS false) (rdEnv 0) (rdEnv 1)) (e2 (eqS false) (eCall reprS (aC (rdEnv 0) aN)) (eCall reprS (aC (rdEnv 1) aN)))))
def R__law_alike_4 : List D → M D := runD 2 F__law_alike_4
theorem sc__law_alike : FnScope ["_law_found", "_law_due"] ["_law_found", "_law_due"] (defScope s__law_alike) := ⟨rfl, rfl, rfl, by decide +kernel, rfl, by decide +kernel, by decide +kernel⟩
theorem ok__law_alike (T : Txt P w K mg FA) : FnG P w K mg base 1 FA.a__law_alike FA.d__law_alike ["_law_found", "_law_due"] (spD K 2 R__law_alike_4) :=
  fnGD T._law_alike.fn sc__law_alike fun cdv A outer s H hr hgd =>
  (ss_one (s_ret [0, 1] (d_and (d_eqS T.hK hr.units (dv 0) (dv 1)) (d_one (d_eqS T.hK hr.units (d_reprS T.hK hgd (repr_room hr) rfl T.b_repr (da_cons (dv 0) da_nil)) (d_reprS T.hK hgd (repr_room hr) rfl T.b_repr (da_cons (dv 1) da_nil)))))))
theorem sc__law_text : FnScope ["_law_bag_here", "_law_rests", "_law_most", "_law_signs", "_law_k"] ["_law_bag_here", "_law_rests", "_law_most"] (defScope s__law_text) := ⟨rfl, rfl, rfl, by decide +kernel, rfl, by decide +kernel, by decide +kernel⟩
theorem ok__law_text (T : Txt P w K mg FA) : FnOk P w K mg base CX0 2 FA.a__law_text FA.d__law_text ["_law_bag_here", "_law_rests", "_law_most"] (spD K 3 R__law_text) :=
  fnD T._law_text.fn sc__law_text fun cdv A outer s H E hr =>
  (ss_cons (s_set 3 [1] sc__law_text.nd rfl (by first | exact Or.inl rfl | exact Or.inr rfl) (d_slice (d_str [48, 49, 50, 51]) do_none (do_some (d_add (dv 1) d_int))))
  (ss_one (s_ret [0, 2, 3] (d_join (d_str []) (d_n (dn_lc (own := [("_law_k", 4)]) rfl sc__law_text.nd (di_r (dr_range1 rfl T.b_range (da_cons (d_add d_int (d_call (ok__law_take T) (hr.mono (by decide)) rfl T._law_take.gl T._law_take.fn.kp T._law_take.bd (da_cons (dv 0) (da_cons (dv 2) da_nil)) (ar_cons (ar_cons ar_nil)))) da_nil))) (blkOk_by (N := ["_law_bag_here", "_law_rests", "_law_most", "_law_signs", "_law_k"]) (sc := defScope s__law_text) (by decide +kernel)) (tg_name 4) (by decide) (fun _ _ _ _ _ => (pg_name (i := 4) sc__law_text.nd rfl (by first | exact Or.inl rfl | exact Or.inr rfl))) (fun _ _ _ _ _ => dts_nil) (fun _ _ _ _ _ => (d_ixF hr.units (dv 3) (d_call (ok__law_take T) (hr.mono (by decide)) rfl T._law_take.gl T._law_take.fn.kp T._law_take.bd (da_cons (dv 0) (da_cons (d_lenG rfl T.b_len (da_cons (dv 3) da_nil)) da_nil)) (ar_cons (ar_cons ar_nil)))))))))))
theorem sc_Rule_signs : FnScope ["self"] ["self"] (defScope s_Rule_signs) := ⟨rfl, rfl, rfl, by decide +kernel, rfl, by decide +kernel, by decide +kernel⟩
theorem ok_Rule_signs (T : Txt P w K mg FA) : FnOk P w K mg base CX0 1 FA.a_Rule_signs FA.d_Rule_signs ["self"] (spD K 1 R_Rule_signs) :=
  fnD T.Rule_signs.fn sc_Rule_signs fun cdv A outer s H E hr =>
  (ss_one (s_ret [0] (d_slice (d_gstr [48, 49, 50, 51] rfl T.k_SIGNS) do_none (do_some (d_add d_int (d_slot T.C_Rule T.S_Rule_its_rests (dv 0)))))))
def F_pairs_of : Env2 → M Out :=
  (retNM [0, 1, 2] (nLc2 [1, 2] [2] (iAny (e1 (propD 0 R_Rule_signs) (rdEnv 0))) (bName 1) cT (iAny (e1 (propD 0 R_Rule_signs) (rdEnv 0))) (bName 2) cT (e2 addD (rdEnv 1) (rdEnv 2))))
def R_pairs_of : List D → M (List D) := runN 3 F_pairs_of
theorem sc_pairs_of : FnScope ["rule", "one", "other"] ["rule"] (defScope s_pairs_of) := ⟨rfl, rfl, rfl, by decide +kernel, rfl, by decide +kernel, by decide +kernel⟩
theorem ok_pairs_of (T : Txt P w K mg FA) : FnOk P w K mg base CX0 3 FA.a_pairs_of FA.d_pairs_of ["rule"] (spN K 1 R_pairs_of) :=
  fnN T.pairs_of.fn sc_pairs_of fun cdv A outer s H E hr =>
  (ss_one (s_retN [0, 1, 2] (dn_lc2 (own := [("one", 1), ("other", 2)]) (vs1 := [2]) rfl sc_pairs_of.nd (di_any (d_prop T.C_Rule T.Rule_signs.pr (ok_Rule_signs T) T.Rule_signs.bd (hr.mono (by decide)) (dv 0))) (blkOk_by (N := ["rule", "one", "other"]) (sc := defScope s_pairs_of) (by decide +kernel)) (by decide) (tg_name 1) (tg_name 2) (by decide) (by decide) (fun _ _ _ _ _ => (pg_name (i := 1) sc_pairs_of.nd rfl (by first | exact Or.inl rfl | exact Or.inr rfl))) (fun _ _ _ _ _ => dts_nil) (fun _ _ _ _ _ => (di_any (d_prop T.C_Rule T.Rule_signs.pr (ok_Rule_signs T) T.Rule_signs.bd (hr.mono (by decide)) (dv 0)))) (fun _ _ _ _ _ => (pg_name (i := 2) sc_pairs_of.nd rfl (by first | exact Or.inl rfl | exact Or.inr rfl))) (fun _ _ _ _ _ => dts_nil) (fun _ _ _ _ _ => (d_add (dv 1) (dv 2))))))
theorem sc_sign_after : FnScope ["table", "last", "left", "seat", "right"] ["table", "last", "left", "seat", "right"] (defScope s_sign_after) := ⟨rfl, rfl, rfl, by decide +kernel, rfl, by decide +kernel, by decide +kernel⟩
theorem ok_sign_after (T : Txt P w K mg FA) : FnOk P w K mg base CX0 1 FA.a_sign_after FA.d_sign_after ["table", "last", "left", "seat", "right"] (spD K 5 R_sign_after) :=
  fnD T.sign_after.fn sc_sign_after fun cdv A outer s H E hr =>
  (ss_cons (s_if [3] (t_eq hr.units (dv 3) (d_str [48]))
  (ss_one (s_ret [0, 2, 4] (d_ixF hr.units (dv 0) (d_add (d_mul d_int (d_cint rfl T.b_int (da_cons (d_eq hr.units (dv 2) (d_str [49])) da_nil))) (d_cint rfl T.b_int (da_cons (d_eq hr.units (dv 4) (d_str [49])) da_nil))))))
  ss_nil)
  (ss_one (s_ret [1, 3] (d_if (t_eq hr.units (dv 3) (dv 1)) (d_str [48]) (d_ixF hr.units (d_gstr [48, 49, 50, 51] rfl T.k_SIGNS) (d_add (d_cint rfl T.b_int (da_cons (dv 3) da_nil)) d_int))))))
theorem sc_Rule___call__ : FnScope ["self", "left", "seat", "right"] ["self", "left", "seat", "right"] (defScope s_Rule___call__) := ⟨rfl, rfl, rfl, by decide +kernel, rfl, by decide +kernel, by decide +kernel⟩
theorem ok_Rule___call__ (T : Txt P w K mg FA) : FnOk P w K mg base CX0 3 FA.a_Rule___call__ FA.d_Rule___call__ ["self", "left", "seat", "right"] (spD K 4 R_Rule___call__) :=
  fnD T.Rule___call__.fn sc_Rule___call__ fun cdv A outer s H E hr =>
  (ss_one (s_ret [0, 1, 2, 3] (d_call (ok_sign_after T) (hr.mono (by decide)) rfl T.sign_after.gl T.sign_after.fn.kp T.sign_after.bd (da_cons (d_slot T.C_Rule T.S_Rule_its_table (dv 0)) (da_cons (d_ixF hr.units (d_prop T.C_Rule T.Rule_signs.pr (ok_Rule_signs T) T.Rule_signs.bd (hr.mono (by decide)) (dv 0)) (d_neg d_int)) (da_cons (dv 1) (da_cons (dv 2) (da_cons (dv 3) da_nil))))) (ar_cons (ar_cons (ar_cons (ar_cons (ar_cons ar_nil))))))))
def F_pairs_after : Env2 → M Out :=
  (seqM (setDM 3 (.k [] []))
  (seqM (forA [1] (iAny (rdEnv 1)) (bName 4)
  (forA [0] (iAny (e1 (propD 0 R_Rule_signs) (rdEnv 0))) (bName 5)
  (ifM [0, 2, 4, 5] (t2 (eqD false) (eMeth 0 R_Rule___call__ (rdEnv 0) (aC (e2 ixF (rdEnv 4) (cst (.int 0))) (aC (e2 ixF (rdEnv 4) (cst (.int 1))) (aC (rdEnv 5) aN)))) (rdEnv 2))
  (dputM 3 [4, 5] (cst (.bl true)) (e2 addD (e2 ixF (rdEnv 4) (cst (.int 1))) (rdEnv 5)))
  sNil)))
  (retNM [3] (nCall sortedDF (aC (rdEnv 3) aN)))))
def R_pairs_after : List D → M (List D) := runN 6 F_pairs_after
theorem sc_pairs_after : FnScope ["rule", "pairs", "sign", "found", "pair", "right"] ["rule", "pairs", "sign"] (defScope s_pairs_after) := ⟨rfl, rfl, rfl, by decide +kernel, rfl, by decide +kernel, by decide +kernel⟩
theorem ok_pairs_after (T : Txt P w K mg FA) : FnOk P w K mg base CX0 4 FA.a_pairs_after FA.d_pairs_after ["rule", "pairs", "sign"] (spN K 3 R_pairs_after) :=
  fnN T.pairs_after.fn sc_pairs_after fun cdv A outer s H E hr =>
  (ss_cons (s_set0K 3 sc_pairs_after.nd rfl (by first | exact Or.inl rfl | exact Or.inr rfl))
  (ss_cons (s_for [1] PassesOwn.never rfl (di_any (dv 1)) (pg_name (i := 4) sc_pairs_after.nd rfl (by first | exact Or.inl rfl | exact Or.inr rfl)) (tg_name 4)
  (ss_one (s_for [0] PassesOwn.never rfl (di_any (d_prop T.C_Rule T.Rule_signs.pr (ok_Rule_signs T) T.Rule_signs.bd (hr.mono (by decide)) (dv 0))) (pg_name (i := 5) sc_pairs_after.nd rfl (by first | exact Or.inl rfl | exact Or.inr rfl)) (tg_name 5)
  (ss_one (s_if [0, 2, 4, 5] (t_eq hr.units (d_callO T.C_Rule T.Rule___call__.me T.O_Rule___call__ (ok_Rule___call__ T) T.Rule___call__.bd (hr.mono (by decide)) (dv 0) (da_cons (d_ixF hr.units (dv 4) d_int) (da_cons (d_ixF hr.units (dv 4) d_int) (da_cons (dv 5) da_nil))) (ar_cons (ar_cons (ar_cons ar_nil)))) (dv 2))
  (ss_one (s_dput 3 [4, 5] hr.units (d_add (d_ixF hr.units (dv 4) d_int) (dv 5)) d_bl))
  ss_nil)))))
  (ss_one (s_retN [3] (dn_sortedD rfl rfl T.b_sorted (da_cons (dv 3) da_nil))))))
def F_is_orphan_row : Env2 → M Out :=
  (seqM (setNM 2 [0] (nCall R_pairs_of (aC (rdEnv 0) aN)))
  (seqM (forA [1] (iAny (rdEnv 1)) (bName 3)
  (setNM 2 [0, 2, 3] (nCall R_pairs_after (aC (rdEnv 0) (aC (rdEnv 2) (aC (rdEnv 3) aN))))))
  (retM [2] (e2 (eqD false) (rdEnv 2) (eN (nLst aN))))))
def R_is_orphan_row : List D → M D := runD 4 F_is_orphan_row
theorem sc_is_orphan_row : FnScope ["rule", "row", "pairs", "sign"] ["rule", "row"] (defScope s_is_orphan_row) := ⟨rfl, rfl, rfl, by decide +kernel, rfl, by decide +kernel, by decide +kernel⟩
theorem ok_is_orphan_row (T : Txt P w K mg FA) : FnOk P w K mg base CX0 5 FA.a_is_orphan_row FA.d_is_orphan_row ["rule", "row"] (spD K 2 R_is_orphan_row) :=
  fnD T.is_orphan_row.fn sc_is_orphan_row fun cdv A outer s H E hr =>
  (ss_cons (s_setN 2 [0] sc_is_orphan_row.nd rfl (by first | exact Or.inl rfl | exact Or.inr rfl) (dn_call (ok_pairs_of T) (hr.mono (by decide)) rfl T.pairs_of.gl T.pairs_of.fn.kp T.pairs_of.bd (da_cons (dv 0) da_nil) (ar_cons ar_nil)))
  (ss_cons (s_for [1] PassesOwn.never rfl (di_any (dv 1)) (pg_name (i := 3) sc_is_orphan_row.nd rfl (by first | exact Or.inl rfl | exact Or.inr rfl)) (tg_name 3)
  (ss_one (s_setN 2 [0, 2, 3] sc_is_orphan_row.nd rfl (by first | exact Or.inl rfl | exact Or.inr rfl) (dn_call (ok_pairs_after T) (hr.mono (by decide)) rfl T.pairs_after.gl T.pairs_after.fn.kp T.pairs_after.bd (da_cons (dv 0) (da_cons (dv 2) (da_cons (dv 3) da_nil))) (ar_cons (ar_cons (ar_cons ar_nil)))))))
  (ss_one (s_ret [2] (d_eq hr.units (dv 2) (d_n (dn_lst da_nil)))))))
theorem sc_Rule_table : FnScope ["self"] ["self"] (defScope s_Rule_table) := ⟨rfl, rfl, rfl, by decide +kernel, rfl, by decide +kernel, by decide +kernel⟩
theorem ok_Rule_table (T : Txt P w K mg FA) : FnOk P w K mg base CX0 1 FA.a_Rule_table FA.d_Rule_table ["self"] (spD K 1 R_Rule_table) :=
  fnD T.Rule_table.fn sc_Rule_table fun cdv A outer s H E hr =>
  (ss_one (s_ret [0] (d_slot T.C_Rule T.S_Rule_its_table (dv 0))))
def F_a_sign_longer : Env2 → M Out :=
  (seqM (parOM 2 3 [] (oaC (oL (nLst aN)) (oaC (oC (.t [] [])) oaN)))
  (seqM (forA [1] (iAny (rdEnv 1)) (bTup 2 (bCons (bName 4) (bCons (bName 5) bNil)))
  (forA [0] (iAny (e1 (propD 0 R_Rule_signs) (rdEnv 0))) (bName 6)
  (seqM (setNM 7 [0, 5, 6] (nCall R_pairs_after (aC (rdEnv 0) (aC (rdEnv 5) (aC (rdEnv 6) aN)))))
  (seqM (ifM [7] (t2 (eqD false) (rdEnv 7) (eN (nLst aN)))
  (retM [4, 6] (eTup (aC (e2 addD (rdEnv 4) (rdEnv 6)) (aC (eN (nLst aN)) aN))))
  sNil)
  (ifM [3, 7] (tInT true (asLF (rdEnv 7)) (rdEnv 3))
  (seqM (tputM 3 [7] (cst (.bl true)) (asLF (rdEnv 7)))
  (appM 2 [4, 6, 7] (eTup (aC (e2 addD (rdEnv 4) (rdEnv 6)) (aC (rdEnv 7) aN)))))
  sNil)))))
  (retM [2] (eTup (aC (cst .non) (aC (rdEnv 2) aN))))))
def R_a_sign_longer : List D → M D := runD 8 F_a_sign_longer
theorem sc_a_sign_longer : FnScope ["rule", "level", "later", "seen", "row", "pairs", "sign", "further"] ["rule", "level"] (defScope s_a_sign_longer) := ⟨rfl, rfl, rfl, by decide +kernel, rfl, by decide +kernel, by decide +kernel⟩
theorem ok_a_sign_longer (T : Txt P w K mg FA) : FnOk P w K mg base CX0 5 FA.a_a_sign_longer FA.d_a_sign_longer ["rule", "level"] (spD K 2 R_a_sign_longer) :=
  fnD T.a_sign_longer.fn sc_a_sign_longer fun cdv A outer s H E hr =>
  (ss_cons (s_parO 2 3 [] rfl sc_a_sign_longer.nd rfl rfl (by decide) rfl rfl (oa_cons (do_n (dn_lst da_nil)) (oa_cons do_0T oa_nil)))
  (ss_cons (s_for [1] PassesOwn.never rfl (di_any (dv 1)) (pg_tup (by rfl) (pgs_cons (pg_name (i := 4) sc_a_sign_longer.nd rfl (by first | exact Or.inl rfl | exact Or.inr rfl)) (pgs_cons (pg_name (i := 5) sc_a_sign_longer.nd rfl (by first | exact Or.inl rfl | exact Or.inr rfl)) pgs_nil))) (tg_tup 2 (tgs_cons (tg_name 4) (tgs_cons (tg_name 5) tgs_nil)))
  (ss_one (s_for [0] PassesOwn.never rfl (di_any (d_prop T.C_Rule T.Rule_signs.pr (ok_Rule_signs T) T.Rule_signs.bd (hr.mono (by decide)) (dv 0))) (pg_name (i := 6) sc_a_sign_longer.nd rfl (by first | exact Or.inl rfl | exact Or.inr rfl)) (tg_name 6)
  (ss_cons (s_setN 7 [0, 5, 6] sc_a_sign_longer.nd rfl (by first | exact Or.inl rfl | exact Or.inr rfl) (dn_call (ok_pairs_after T) (hr.mono (by decide)) rfl T.pairs_after.gl T.pairs_after.fn.kp T.pairs_after.bd (da_cons (dv 0) (da_cons (dv 5) (da_cons (dv 6) da_nil))) (ar_cons (ar_cons (ar_cons ar_nil)))))
  (ss_cons (s_if [7] (t_eq hr.units (dv 7) (d_n (dn_lst da_nil)))
  (ss_one (s_ret [4, 6] (d_tup (da_cons (d_add (dv 4) (dv 6)) (da_cons (d_n (dn_lst da_nil)) da_nil)))))
  ss_nil)
  (ss_one (s_if [3, 7] (t_notInTC hr.units rfl T.b_tuple (dv 7) (dv 3))
  (ss_cons (s_tputC 3 [7] hr.units rfl T.b_tuple (dv 7) (he := d_bl))
  (ss_one (s_append 2 [4, 6, 7] (d_tup (da_cons (d_add (dv 4) (dv 6)) (da_cons (dv 7) da_nil))))))
  ss_nil)))))))
  (ss_one (s_ret [2] (d_tup (da_cons d_non (da_cons (dv 2) da_nil)))))))
def F_orphan_row : Env2 → M Out :=
  (seqM (ifM [0] (t2 (eqD false) (e1 (propD 0 R_Rule_table) (rdEnv 0)) (cst (.str [49, 49, 49, 49])))
  (retM [] (cst .non))
  sNil)
  (seqM (parOM 1 2 [0] (oaC (oL (nLst (aC (eTup (aC (cst (.str [])) (aC (eN (nCall R_pairs_of (aC (rdEnv 0) aN))) aN))) aN))) (oaC (oV (cst .non)) oaN)))
  (seqM (whileM [2] (t2 (isD false) (rdEnv 2) (cst .non))
  (unpM (bTup 2 (bCons (bName 2) (bCons (bName 1) bNil))) [0, 1] (eCall R_a_sign_longer (aC (rdEnv 0) (aC (rdEnv 1) aN)))) 1000000)
  (retM [2] (rdEnv 2)))))
def R_orphan_row : List D → M D := runD 3 F_orphan_row
theorem sc_orphan_row : FnScope ["rule", "level", "found"] ["rule"] (defScope s_orphan_row) := ⟨rfl, rfl, rfl, by decide +kernel, rfl, by decide +kernel, by decide +kernel⟩
theorem ok_orphan_row (T : Txt P w K mg FA) : FnOk P w K mg base CX0 6 FA.a_orphan_row FA.d_orphan_row ["rule"] (spD K 1 R_orphan_row) :=
  fnD T.orphan_row.fn sc_orphan_row fun cdv A outer s H E hr =>
  (ss_cons (s_if [0] (t_eq hr.units (d_prop T.C_Rule T.Rule_table.pr (ok_Rule_table T) T.Rule_table.bd (hr.mono (by decide)) (dv 0)) (d_str [49, 49, 49, 49]))
  (ss_one (s_ret [] d_non))
  ss_nil)
  (ss_cons (s_parO 1 2 [0] rfl sc_orphan_row.nd rfl rfl (by decide) rfl rfl (oa_cons (do_n (dn_lst (da_cons (d_tup (da_cons (d_str []) (da_cons (d_n (dn_call (ok_pairs_of T) (hr.mono (by decide)) rfl T.pairs_of.gl T.pairs_of.fn.kp T.pairs_of.bd (da_cons (dv 0) da_nil) (ar_cons ar_nil))) da_nil))) da_nil))) (oa_cons (do_v d_non) oa_nil)))
  (ss_cons (s_while 1000000 [2] PassesOwn.never (t_is (dv 2) d_non)
  (ss_one (s_unp (bs := (bTup 2 (bCons (bName 2) (bCons (bName 1) bNil)))) [0, 1] (d_call (ok_a_sign_longer T) (hr.mono (by decide)) rfl T.a_sign_longer.gl T.a_sign_longer.fn.kp T.a_sign_longer.bd (da_cons (dv 0) (da_cons (dv 1) da_nil)) (ar_cons (ar_cons ar_nil))) (pg_tup (by rfl) (pgs_cons (pg_name (i := 2) sc_orphan_row.nd rfl (by first | exact Or.inl rfl | exact Or.inr rfl)) (pgs_cons (pg_name (i := 1) sc_orphan_row.nd rfl (by first | exact Or.inl rfl | exact Or.inr rfl)) pgs_nil))) (tg_tup 2 (tgs_cons (tg_name 2) (tgs_cons (tg_name 1) tgs_nil))))))
  (ss_one (s_ret [2] (dv 2))))))
def F__law_my_row_after : Env2 → M Out :=
  (seqM (forRM [2] (iRg1 (aC (rdEnv 2) aN)) (bName 3)
  (setM 1 [0, 1] (eCall R__law_inner (aC (rdEnv 0) (aC (rdEnv 1) aN)))))
  (retM [1] (rdEnv 1)))
def R__law_my_row_after : List D → M D := runD 4 F__law_my_row_after
theorem sc__law_my_row_after : FnScope ["_law_made", "_law_row", "_law_many", "_law_k"] ["_law_made", "_law_row", "_law_many"] (defScope s__law_my_row_after) := ⟨rfl, rfl, rfl, by decide +kernel, rfl, by decide +kernel, by decide +kernel⟩
theorem ok__law_my_row_after (T : Txt P w K mg FA) : FnOk P w K mg base CX0 3 FA.a__law_my_row_after FA.d__law_my_row_after ["_law_made", "_law_row", "_law_many"] (spD K 3 R__law_my_row_after) :=
  fnD T._law_my_row_after.fn sc__law_my_row_after fun cdv A outer s H E hr =>
  (ss_cons (s_forR [2] PassesOwn.never rfl (dr_range1 rfl T.b_range (da_cons (dv 2) da_nil)) (pg_name (i := 3) sc__law_my_row_after.nd rfl (by first | exact Or.inl rfl | exact Or.inr rfl)) (tg_name 3)
  (ss_one (s_set 1 [0, 1] sc__law_my_row_after.nd rfl (by first | exact Or.inl rfl | exact Or.inr rfl) (d_call (ok__law_inner T) (hr.mono (by decide)) rfl T._law_inner.gl T._law_inner.fn.kp T._law_inner.bd (da_cons (dv 0) (da_cons (dv 1) da_nil)) (ar_cons (ar_cons ar_nil))))))
  (ss_one (s_ret [1] (dv 1))))
def F__law_by_all : Env2 → M Out :=
  (seqM (setM 2 [0, 1] (eCall R__law_my_all (aC (eCall R__law_my_signs (aC (rdEnv 0) aN)) (aC (e2 addD (eCall lenG (aC (rdEnv 1) aN)) (cst (.int 2))) aN))))
  (retM [0, 1, 2, 3] (e2 (eqD false) (eN (nLc [3] (iAny (rdEnv 2)) (bName 3) (t2 (eqD false) (eCall R__law_my_row_after (aC (rdEnv 0) (aC (rdEnv 3) (aC (cst (.int 1)) aN)))) (rdEnv 1)) (rdEnv 3))) (eN (nLst aN)))))
def R__law_by_all : List D → M D := runD 4 F__law_by_all
theorem sc__law_by_all : FnScope ["_law_made", "_law_row", "_law_rows", "_law_one"] ["_law_made", "_law_row"] (defScope s__law_by_all) := ⟨rfl, rfl, rfl, by decide +kernel, rfl, by decide +kernel, by decide +kernel⟩
theorem ok__law_by_all (T : Txt P w K mg FA) : FnOk P w K mg base CX0 4 FA.a__law_by_all FA.d__law_by_all ["_law_made", "_law_row"] (spD K 2 R__law_by_all) :=
  fnD T._law_by_all.fn sc__law_by_all fun cdv A outer s H E hr =>
  (ss_cons (s_set 2 [0, 1] sc__law_by_all.nd rfl (by first | exact Or.inl rfl | exact Or.inr rfl) (d_call (ok__law_my_all T) (hr.mono (by decide)) rfl T._law_my_all.gl T._law_my_all.fn.kp T._law_my_all.bd (da_cons (d_call (ok__law_my_signs T) (hr.mono (by decide)) rfl T._law_my_signs.gl T._law_my_signs.fn.kp T._law_my_signs.bd (da_cons (dv 0) da_nil) (ar_cons ar_nil)) (da_cons (d_add (d_lenG rfl T.b_len (da_cons (dv 1) da_nil)) d_int) da_nil)) (ar_cons (ar_cons ar_nil))))
  (ss_one (s_ret [0, 1, 2, 3] (d_eq hr.units (d_n (dn_lc (own := [("_law_one", 3)]) rfl sc__law_by_all.nd (di_any (dv 2)) (blkOk_by (N := ["_law_made", "_law_row", "_law_rows", "_law_one"]) (sc := defScope s__law_by_all) (by decide +kernel)) (tg_name 3) (by decide) (fun _ _ _ _ _ => (pg_name (i := 3) sc__law_by_all.nd rfl (by first | exact Or.inl rfl | exact Or.inr rfl))) (fun _ _ _ _ _ => (dts_one (t_eq hr.units (d_call (ok__law_my_row_after T) (hr.mono (by decide)) rfl T._law_my_row_after.gl T._law_my_row_after.fn.kp T._law_my_row_after.bd (da_cons (dv 0) (da_cons (dv 3) (da_cons d_int da_nil))) (ar_cons (ar_cons (ar_cons ar_nil)))) (dv 1)))) (fun _ _ _ _ _ => (dv 3)))) (d_n (dn_lst da_nil))))))
section
local instance (priority := high) effL : Eff := effT
def FE__law_longer_3 : Env2 → M OutE :=
  (seqE (liftE (setNM 3 [] (nLst aN)))
  (seqE (noxE (forX [1] (iAny (rdEnv 1)) (bName 4)
  (forX [0] (iAny (eCall R__law_my_signs (aC (rdEnv 0) aN))) (bName 5)
  (seqE (liftE (setNM 6 [0, 4, 5] (nCall sortedDF (aC (eCall R__law_pairs_2 (aC (rdEnv 0) (aC (e2 addD (rdEnv 4) (rdEnv 5)) aN))) aN))))
  (seqE (liftE (ifM [6] (t2 (eqD false) (rdEnv 6) (eN (nLst aN)))
  (retNM [3, 4, 5] (nLst (aC (rdEnv 3) (aC (e2 addD (rdEnv 4) (rdEnv 5)) aN))))
  sNil))
  (ifE [2, 6] (tInTC true (asLF (rdEnv 6)) (rdEnv 2))
  (seqE (sxTput [2, 6] (rdEnv 2) (asLF (rdEnv 6)) (cst (.bl true)))
  (liftE (appM 3 [4, 5] (e2 addD (rdEnv 4) (rdEnv 5)))))
  (liftE sNil)))))))
  (liftE (retNM [3] (nLst (aC (rdEnv 3) (aC (cst .non) aN)))))))
def RE__law_longer_3 : List D → M ER := runE 7 FE__law_longer_3
theorem sc__law_longer : FnScope ["_law_made", "_law_rows", "_law_met", "_law_found", "_law_row", "_law_sign", "_law_some"] ["_law_made", "_law_rows", "_law_met"] (defScope s__law_longer) := ⟨rfl, rfl, rfl, by decide +kernel, rfl, by decide +kernel, by decide +kernel⟩
theorem okE__law_longer (T : Txt P w K mg FA) : FnOk P w K mg base (L2.CX P w) 5 FA.a__law_longer FA.d__law_longer ["_law_made", "_law_rows", "_law_met"] (spE K 3 RE__law_longer_3) :=
  fnE T._law_longer.fn sc__law_longer fun cdv A outer s H E W hr tk =>
  (sse_cons (se_liftN (s_setN 3 [] sc__law_longer.nd rfl (by first | exact Or.inl rfl | exact Or.inr rfl) (dn_lst da_nil)))
  (sse_cons (se_nox (sx_for [1] PassesOwn.never rfl (di_any (dv 1)) (pg_name (i := 4) sc__law_longer.nd rfl (by first | exact Or.inl rfl | exact Or.inr rfl)) (tg_name 4)
  (sse_one (sx_for [0] PassesOwn.never rfl (di_any (d_call (ok__law_my_signs T) (hr.mono (by decide)) rfl T._law_my_signs.gl T._law_my_signs.fn.kp T._law_my_signs.bd (da_cons (dv 0) da_nil) (ar_cons ar_nil))) (pg_name (i := 5) sc__law_longer.nd rfl (by first | exact Or.inl rfl | exact Or.inr rfl)) (tg_name 5)
  (sse_cons (se_liftN (s_setN 6 [0, 4, 5] sc__law_longer.nd rfl (by first | exact Or.inl rfl | exact Or.inr rfl) (dn_sortedD rfl rfl T.b_sorted (da_cons (d_call (ok__law_pairs T) (hr.mono (by decide)) rfl T._law_pairs.gl T._law_pairs.fn.kp T._law_pairs.bd (da_cons (dv 0) (da_cons (d_add (dv 4) (dv 5)) da_nil)) (ar_cons (ar_cons ar_nil))) da_nil))))
  (sse_cons (se_liftN (s_if [6] (t_eq hr.units (dv 6) (d_n (dn_lst da_nil)))
  (ss_one (s_retN [3, 4, 5] (dn_lst (da_cons (dv 3) (da_cons (d_add (dv 4) (dv 5)) da_nil)))))
  ss_nil))
  (sse_one (se_if [2, 6] (t_notInTX T.hK hr.units rfl T.b_tuple (dv 6) (dv 2))
  (sse_cons (sx_tputX [2, 6] rfl T.hK hr.units rfl T.b_tuple (dv 2) (dv 6) d_bl)
  (sse_liftN (ss_one (s_append 3 [4, 5] (d_add (dv 4) (dv 5))))))
  (sse_liftN ss_nil)))))))))
  (sse_liftN (ss_one (s_retN [3] (dn_lst (da_cons (dv 3) (da_cons d_non da_nil))))))))
def FE__law_first_3 : Env2 → M OutE :=
  (seqE (sxPar 1 2 [] (axCons (eLiftE (eN (nLst (aC (eN (nLst (aC (cst (.str [])) aN))) (aC (cst .non) aN))))) (axCons newDTC axNil)))
  (seqE (noxE (whileX [1] (tAndM (t2 (eqD true) (e2 ixF (rdEnv 1) (cst (.int 0))) (eN (nLst aN))) (t2 (isD false) (e2 ixF (rdEnv 1) (cst (.int 1))) (cst .non)))
  (sxSet 1 [0, 1, 2] (eCallE RE__law_longer_3 (aC (rdEnv 0) (aC (e2 ixF (rdEnv 1) (cst (.int 0))) (aC (rdEnv 2) aN))))) 1000000))
  (liftE (retM [1] (e2 ixF (rdEnv 1) (cst (.int 1)))))))
def RE__law_first_3 : List D → M ER := runE 3 FE__law_first_3
theorem sc__law_first : FnScope ["_law_made", "_law_told", "_law_met"] ["_law_made"] (defScope s__law_first) := ⟨rfl, rfl, rfl, by decide +kernel, rfl, by decide +kernel, by decide +kernel⟩
theorem okE__law_first (T : Txt P w K mg FA) : FnOk P w K mg base (L2.CX P w) 6 FA.a__law_first FA.d__law_first ["_law_made"] (spE K 1 RE__law_first_3) :=
  fnE T._law_first.fn sc__law_first fun cdv A outer s H E W hr tk =>
  (sse_cons (sx_par 1 2 [] rfl sc__law_first.nd rfl rfl (by decide) rfl rfl (ax_cons (ee_lift (d_n (dn_lst (da_cons (d_n (dn_lst (da_cons (d_str []) da_nil))) (da_cons d_non da_nil))))) (ax_cons (ee_newDT rfl T.hK) ax_nil)))
  (sse_cons (se_nox (sx_while 1000000 [1] PassesOwn.never (t_w (w_and (t_ne hr.units (d_ixF hr.units (dv 1) d_int) (d_n (dn_lst da_nil))) (w_and1 (t_is (d_ixF hr.units (dv 1) d_int) d_non))))
  (sse_one (sx_set 1 [0, 1, 2] sc__law_first.nd rfl (by first | exact Or.inl rfl | exact Or.inr rfl) (ee_call (okE__law_longer T) (hr.mono (by decide)) rfl T._law_longer.gl T._law_longer.fn.kp T._law_longer.bd takes0 (da_cons (dv 0) (da_cons (d_ixF hr.units (dv 1) d_int) (da_cons (dv 2) da_nil))) (ar_cons (ar_cons (ar_cons ar_nil))))))))
  (sse_liftN (ss_one (s_ret [1] (d_ixF hr.units (dv 1) d_int))))))
def F_law : Env2 → M OutE :=
  (seqE (forRX [] (iRg1 (aC (cst (.int 3)) aN)) (bName 2)
  (seqE (liftE (setM 3 [1] (eCall R__law_rule (aC (rdEnv 1) aN))))
  (seqE (liftE (ifM [1] (t2 (eqD false) (eCall R__law_take (aC (rdEnv 1) (aC (cst (.int 5)) aN))) (cst (.int 0)))
  (setM 3 [3] (eTup (aC (cst (.str [49, 49, 49, 49])) (aC (e2 ixF (rdEnv 3) (cst (.int 1))) aN))))
  sNil))
  (seqE (liftE (setM 4 [3] (eCall R__law_my_rule (aC (rdEnv 3) aN))))
  (seqE (sxSet 5 [3] (eIfE (t2 (eqD false) (e2 ixF (rdEnv 3) (cst (.int 0))) (cst (.str [49, 49, 49, 49]))) (eLiftE (cst .non)) (eCallE RE__law_first_3 (aC (rdEnv 3) aN))))
  (seqE (liftE (ifM [4, 5] (tNotM (tVal (eCall R__law_alike_4 (aC (eN (nLst (aC (eCall R_orphan_row (aC (rdEnv 4) aN)) (aC (eCall R_orphan_row (aC (rdEnv 4) aN)) aN)))) (aC (eN (nLst (aC (rdEnv 5) (aC (rdEnv 5) aN)))) aN)))))
  (retM [] (cst (.bl false)))
  sNil))
  (seqE (forRX [] (iRg1 (aC (cst (.int 5)) aN)) (bName 6)
  (seqE (liftE (setM 7 [1, 3] (eCall R__law_text (aC (rdEnv 1) (aC (e2 ixF (rdEnv 3) (cst (.int 1))) (aC (e2 ixF (eN (nLst (aC (cst (.int 3)) (aC (cst (.int 12)) (aC (cst (.int 12)) (aC (cst (.int 12)) (aC (cst (.int 12)) (aC (cst (.int 40)) aN)))))))) (eCall R__law_take (aC (rdEnv 1) (aC (cst (.int 6)) aN)))) aN))))))
  (seqE (sxSet 8 [3, 7] (eLiftE (e2 eqD0 (eCall R__law_pairs_2 (aC (rdEnv 3) (aC (rdEnv 7) aN))) (cst (.dct [] [])))))
  (liftE (seqM (ifM [4, 7, 8] (tNotM (tVal (eCall R__law_alike_4 (aC (eCall R_is_orphan_row (aC (rdEnv 4) (aC (rdEnv 7) aN))) (aC (rdEnv 8) aN)))))
  (retM [] (cst (.bl false)))
  sNil)
  (ifM [3, 7, 8] (tAndM (t2 ltD (eCall lenG (aC (rdEnv 7) aN)) (e2 ixF (eN (nLst (aC (cst (.int 5)) (aC (cst (.int 4)) (aC (cst (.int 3)) aN))))) (e2 ixF (rdEnv 3) (cst (.int 1))))) (t2 (eqS true) (eCall R__law_by_all (aC (rdEnv 3) (aC (rdEnv 7) aN))) (rdEnv 8)))
  (retM [] (cst (.bl false)))
  sNil))))))
  (liftE (seqM (ifM [1, 3, 4, 5] (tAndM (t2 (isD true) (rdEnv 5) (cst .non)) (tNotM (tVal (eCall R_is_orphan_row (aC (rdEnv 4) (aC (e2 addD (rdEnv 5) (eCall R__law_text (aC (rdEnv 1) (aC (e2 ixF (rdEnv 3) (cst (.int 1))) (aC (cst (.int 5)) aN))))) aN))))))
  (retM [] (cst (.bl false)))
  sNil)
  (ifM [4] (t2 (isB true) (eCall R_is_orphan_row (aC (rdEnv 4) (aC (cst (.str [])) aN))) (cst (.bl false)))
  (retM [] (cst (.bl false)))
  sNil))))))))))
  (liftE (retM [] (cst (.bl true)))))
theorem sc_law : FnScope ["_law_script", "_law_bag_here", "_law_turn", "_law_made", "_law_rule_here", "_law_due", "_law_k", "_law_row", "_law_gone"] ["_law_script"] (defScope s_law) := ⟨rfl, rfl, rfl, by decide +kernel, rfl, by decide +kernel, by decide +kernel⟩
theorem ok_law (T : Txt P w K mg FA) (hmath : ∀ (p : Addr), TotS p [] (F_law (env0 7 p)) fun o _ => o = .o (.rt (.bl true))) : FnG P w K mg base 7 FA.a_law FA.d_law ["_law_script"] (spLaw K) :=
  fn_g T.law.fn sc_law (fun vs H Q E h => by obtain ⟨a, ns, rfl, _⟩ := h; rfl) fun cdv A outer s H vs Q hr hgd h => ⟨_, pss_cons (ps_set (i := 1) sc_law.nd rfl (by first | exact Or.inl rfl | exact Or.inr rfl) (pe_call (ok__law_bag T) (hr.mono (by decide)) rfl T._law_bag.gl T._law_bag.fn.kp T._law_bag.bd .nil pass0 (da_cons (dv 0) da_nil)))
  (sse_cons (sx_forR [] PassesOwn.never rfl (dr_range1 rfl T.b_range (da_cons d_int da_nil)) (pg_name (i := 2) sc_law.nd rfl (by first | exact Or.inl rfl | exact Or.inr rfl)) (tg_name 2)
  (sse_cons (se_liftN (s_set 3 [1] sc_law.nd rfl (by first | exact Or.inl rfl | exact Or.inr rfl) (d_call (ok__law_rule T) (hr.mono (by decide)) rfl T._law_rule.gl T._law_rule.fn.kp T._law_rule.bd (da_cons (dv 1) da_nil) (ar_cons ar_nil))))
  (sse_cons (se_liftN (s_if [1] (t_eq hr.units (d_call (ok__law_take T) (hr.mono (by decide)) rfl T._law_take.gl T._law_take.fn.kp T._law_take.bd (da_cons (dv 1) (da_cons d_int da_nil)) (ar_cons (ar_cons ar_nil))) d_int)
  (ss_one (s_set 3 [3] sc_law.nd rfl (by first | exact Or.inl rfl | exact Or.inr rfl) (d_tup (da_cons (d_str [49, 49, 49, 49]) (da_cons (d_ixF hr.units (dv 3) d_int) da_nil)))))
  ss_nil))
  (sse_cons (se_liftN (s_set 4 [3] sc_law.nd rfl (by first | exact Or.inl rfl | exact Or.inr rfl) (d_call (ok__law_my_rule T) (hr.mono (by decide)) rfl T._law_my_rule.gl T._law_my_rule.fn.kp T._law_my_rule.bd (da_cons (dv 3) da_nil) (ar_cons ar_nil))))
  (sse_cons (sx_set 5 [3] sc_law.nd rfl (by first | exact Or.inl rfl | exact Or.inr rfl) (ee_if (t_eq hr.units (d_ixF hr.units (dv 3) d_int) (d_str [49, 49, 49, 49])) (ee_lift d_non) (ee_call (okE__law_first T) (hr.mono (by decide)) rfl T._law_first.gl T._law_first.fn.kp T._law_first.bd takes0 (da_cons (dv 3) da_nil) (ar_cons ar_nil))))
  (sse_cons (se_liftN (s_if [4, 5] (t_not (t_val (d_callG (ok__law_alike T) (hr.mono (by decide)) hgd rfl T._law_alike.gl T._law_alike.fn.kp T._law_alike.bd (da_cons (d_n (dn_lst (da_cons (d_call (ok_orphan_row T) (hr.mono (by decide)) rfl T.orphan_row.gl T.orphan_row.fn.kp T.orphan_row.bd (da_cons (dv 4) da_nil) (ar_cons ar_nil)) (da_cons (d_call (ok_orphan_row T) (hr.mono (by decide)) rfl T.orphan_row.gl T.orphan_row.fn.kp T.orphan_row.bd (da_cons (dv 4) da_nil) (ar_cons ar_nil)) da_nil)))) (da_cons (d_n (dn_lst (da_cons (dv 5) (da_cons (dv 5) da_nil)))) da_nil)) (ar_cons (ar_cons ar_nil)))))
  (ss_one (s_ret [] d_bl))
  ss_nil))
  (sse_cons (sx_forR [] PassesOwn.never rfl (dr_range1 rfl T.b_range (da_cons d_int da_nil)) (pg_name (i := 6) sc_law.nd rfl (by first | exact Or.inl rfl | exact Or.inr rfl)) (tg_name 6)
  (sse_cons (se_liftN (s_set 7 [1, 3] sc_law.nd rfl (by first | exact Or.inl rfl | exact Or.inr rfl) (d_call (ok__law_text T) (hr.mono (by decide)) rfl T._law_text.gl T._law_text.fn.kp T._law_text.bd (da_cons (dv 1) (da_cons (d_ixF hr.units (dv 3) d_int) (da_cons (d_ixF hr.units (d_n (dn_lst (da_cons d_int (da_cons d_int (da_cons d_int (da_cons d_int (da_cons d_int (da_cons d_int da_nil)))))))) (d_call (ok__law_take T) (hr.mono (by decide)) rfl T._law_take.gl T._law_take.fn.kp T._law_take.bd (da_cons (dv 1) (da_cons d_int da_nil)) (ar_cons (ar_cons ar_nil)))) da_nil))) (ar_cons (ar_cons (ar_cons ar_nil))))))
  (sse_cons (sx_set 8 [3, 7] sc_law.nd rfl (by first | exact Or.inl rfl | exact Or.inr rfl) (ee_lift (d_eqD0 hr.units (d_call (ok__law_pairs T) (hr.mono (by decide)) rfl T._law_pairs.gl T._law_pairs.fn.kp T._law_pairs.bd (da_cons (dv 3) (da_cons (dv 7) da_nil)) (ar_cons (ar_cons ar_nil))) d_dict0)))
  (sse_liftN (ss_cons (s_if [4, 7, 8] (t_not (t_val (d_callG (ok__law_alike T) (hr.mono (by decide)) hgd rfl T._law_alike.gl T._law_alike.fn.kp T._law_alike.bd (da_cons (d_call (ok_is_orphan_row T) (hr.mono (by decide)) rfl T.is_orphan_row.gl T.is_orphan_row.fn.kp T.is_orphan_row.bd (da_cons (dv 4) (da_cons (dv 7) da_nil)) (ar_cons (ar_cons ar_nil))) (da_cons (dv 8) da_nil)) (ar_cons (ar_cons ar_nil)))))
  (ss_one (s_ret [] d_bl))
  ss_nil)
  (ss_one (s_if [3, 7, 8] (t_w (w_and (t_lt (d_lenG rfl T.b_len (da_cons (dv 7) da_nil)) (d_ixF hr.units (d_n (dn_lst (da_cons d_int (da_cons d_int (da_cons d_int da_nil))))) (d_ixF hr.units (dv 3) d_int))) (w_and1 (t_neS T.hK hr.units (d_call (ok__law_by_all T) (hr.mono (by decide)) rfl T._law_by_all.gl T._law_by_all.fn.kp T._law_by_all.bd (da_cons (dv 3) (da_cons (dv 7) da_nil)) (ar_cons (ar_cons ar_nil))) (dv 8)))))
  (ss_one (s_ret [] d_bl))
  ss_nil)))))))
  (sse_liftN (ss_cons (s_if [1, 3, 4, 5] (t_w (w_and (t_isnt (dv 5) d_non) (w_and1 (t_not (t_val (d_call (ok_is_orphan_row T) (hr.mono (by decide)) rfl T.is_orphan_row.gl T.is_orphan_row.fn.kp T.is_orphan_row.bd (da_cons (dv 4) (da_cons (d_add (dv 5) (d_call (ok__law_text T) (hr.mono (by decide)) rfl T._law_text.gl T._law_text.fn.kp T._law_text.bd (da_cons (dv 1) (da_cons (d_ixF hr.units (dv 3) d_int) (da_cons d_int da_nil))) (ar_cons (ar_cons (ar_cons ar_nil))))) da_nil)) (ar_cons (ar_cons ar_nil))))))))
  (ss_one (s_ret [] d_bl))
  ss_nil)
  (ss_one (s_if [4] (t_isntB (d_call (ok_is_orphan_row T) (hr.mono (by decide)) rfl T.is_orphan_row.gl T.is_orphan_row.fn.kp T.is_orphan_row.bd (da_cons (dv 4) (da_cons (d_str []) da_nil)) (ar_cons (ar_cons ar_nil))) d_bl)
  (ss_one (s_ret [] d_bl))
  ss_nil)))))))))))
  (sse_liftN (ss_one (s_ret [] d_bl)))), law_runE (W := fun _ _ _ _ => False) rfl bag_made hmath h⟩
end
end
end LW
set_option Elab.async false
set_option maxRecDepth 100000
set_option autoImplicit false
set_option linter.unusedVariables false
set_option maxHeartbeats 4000000
noncomputable section
namespace LW
open PySem L2 PySem.Spec PyProof.Rows DL
local macro_rules | `(tactic| walk_at "dis") => `(tactic| first | assumption | omega | (simp only [List.length_map, List.length_range, List.length_append, List.length_cons, List.length_nil, List.length_reverse, List.length_take, List.length_drop, List.length_replicate, List.length_singleton]; omega) | (simp; done))
local macro_rules | `(tactic| walk_at "ev8") => `(tactic| try simp -implicitDefEqProofs -dsimp (disch := walk_at "dis") only [call_is, dB_flat, dT_flat, disp11, getI, getL, inF_T, ixB, keysB, keys_T, listK_T, oT_toD, pairs_T, rule_signs, ↓q_seq, ↓q_seqK_nx, ↓q_seqK_rt, ↓q_seqK_rn, ↓q_seqK_bk, ↓q_seqK_ct, ↓q_runD, ↓q_runN, q_runK_rt, q_runK_rn, q_runK_nx, q_runKN_rn, ↓q_set, ↓q_setN, ↓q_ret, ↓q_retN, ↓q_if, ↓q_unp, q_unpK, ↓q_app, q_appK, q_guard, ↓q_for, ↓q_forR, q_loopK_nx, q_loopK_ct, q_loopK_bk, q_loopK_rt, q_loopK_rn, ↓q_sNil, ↓q_e2, ↓q_t2, ↓q_e1, ↓q_cst, ↓q_aN, ↓q_aC, ↓q_call, ↓q_callN, ↓q_eN, ↓q_nLst, q_lstK, ↓q_eTup, q_tupK, ↓q_tVal, ↓q_tNot, ↓q_tAnd, ↓q_tOr, ↓q_eAnd, ↓q_eNot, ↓q_eIf, ↓q_iAny, ↓q_iRg1, ↓q_iEnum, ↓q_nLc, ↓q_cT, ↓q_oN, ↓q_oS, ↓q_eSl, ↓q_eChain, ↓q_tBl, ↓q_eMake, ↓q_eMeth, ↓q_iSeq, q_selK, q_self, ↓q_iTwoS, q_two2s, ↓q_nLc2, q_inE, q_notInE, q_is_non, q_is_str, q_is_int, q_is_tup, q_is_lst, q_isnt_non, q_isnt_str, q_isnt_int, q_isnt_tup, q_isnt_lst, q_list_l, q_list_t, q_ixF_s, q_ixF_l, q_ixF_t, q_ixF_b, q_inF_s, q_inF_l, q_inF_t, q_lenG_s, q_lenG_l, q_lenG_t, q_lenG_d, q_lenG_dt, ↓q_setD, ↓q_dput, q_dputK, q_keyI, q_keyS, q_seeT, q_toDv, q_toDl, q_toDk, q_toDt, q_toDs0, q_toDs1, q_toDsm, q_fls0, q_fls1, q_flv, q_fll, q_flk, q_flt, q_flsm, q_sloV, q_sloK, q_sloT, q_sloL, q_sloLl, ↓q_oV, ↓q_oL, ↓q_oC, ↓q_oaN, ↓q_oaC, ↓q_parO, q_parOK, q_flatS, q_flatI, q_flatS2, q_mapv0, q_sloL0, bnd_ret, bnd_assoc, bnd_assoc', bnd_r, cnd_t, cnd_f, fail_bnd, bind_bnd, str01, List.cons.injEq, and_true, decide_true, decide_false, cut_toN, cut_fromN, cut_from1N, cut_to1N, cut_to1, cut_to2, cut_to3, cut_from1, cut_toM1, cut_fromM1, DL.startD, List.map_cons, List.map_nil, List.length_cons, List.length_nil, Nat.reduceAdd, Nat.reduceSub, List.replicate, List.cons_append, List.nil_append, view_eq, viewAt_cons, viewAt_nil, List.contains_cons, List.contains_nil, Nat.reduceBEq, Bool.or_true, Bool.or_false, Bool.true_or, Bool.false_or, if_true, Bool.false_eq_true, if_false, Option.map_some, Option.map_none, see_val, see_own, rd_0, rd_1, rd_2, rd_3, rd_4, rd_5, rd_6, rd_7, rd_8, rd_9, Int.reduceToNat, flat_int, flat_str, flat_bl, flat_non, flat_bag, flat_lst, flat_tup, flat_obj, List.all_cons, List.all_nil, Bool.and_true, Bool.true_and, Bool.and_false, Bool.false_and, keepIf_t, keepIf_f, frz_eq, frzAt_cons, frzAt_nil, List.set_cons_succ, List.set_cons_zero, subD_int, addD_int, negD_int, asI_int, asB_bl, truD_bl, lenF_lst, lenF_tup, intF_int, intF_bl, absF_int, ltD_int, leD_int, gtD_int, geD_int, eqD_int, eqD_str, neD_int, neD_str, inD_str, notInD_str, slD_lst, slD_scr, revD_lst, itemsD_lst, itemsD_tup, itemsD_str, Bool.not_true, Bool.not_false, ixD_l, ixD_t, ofSome, atI_0, atI_1, atI_2, atI_3, atI_4, atI_app, slotD_obj, propD_obj, propN_obj, isC_obj, get0, get1, get2, get3, getS, bName_eq, bTup_eq, bCons_eq, bNil_eq, setAll2_cons, setAll2_nil, setAllD_cons, setAllD_nil, wipeD_cons, wipeD_nil, isi_str_str, isi_int_int, isi_bool_int, List.getElem?_cons_zero, List.getElem?_cons_succ, q_flat_dct, q_flat_dcT, q_isB, q_isntB, q_n2, q_cndN, q_szL, q_sloL1, q_sloL2, q_sloL3, q_c0, q_c1, q_c2, q_c3, q_c4, q_c5, q_c6, q_c7, q_c8, q_c9, q_c10, q_c11, q_c12, q_c13, q_c14, q_c15, q_c16, q_getF2, q_e3D, q_dictPF, q_guardT, q_liftE, q_liftK, q_seqE, q_seqEK_nx, q_seqEK_rt, q_seqEK_rn, q_seqEK_ex, q_ifE, q_eCallE, q_runE, q_runEK_rt, q_runEK_rn, q_runEK_nx, q_runEK_ex, q_eLiftE, q_eqBl, q_neBl, q_toDu, q_flu, q_sloU, q_iKeysD, q_keysD0, q_keysD0l, q_keysD0s, q_pairsD0, q_popM, q_popK, q_exvM, q_exvD, q_exvK, q_listKF, q_sumL, q_asLF, q_asLK, q_tput, q_tputK, q_inT, q_inTK, q_keysI1, q_keys2s, q_keys2i, q_keys2ii, q_celK, q_okE_ok, q_okE_ex, q_sxSet, q_sxSetK_ok, q_sxSetK_ex, q_axNil, q_axCons, q_axConsK_ok, q_axConsK_ex, q_axConsK2_ok, q_axConsK2_ex, q_eIfE, q_forX, q_forRX, q_noxE, q_noxEK, q_sxPar, q_sxParK_ok, q_cut2, q_cut3, eq_self, cnd_dt, cnd_df, Int.toNat_natCast, lenF_str, modD_int, divD_int, addD_str, addD_lst, slD_str, revD_str, ixD_str, ixD_str1, ixD_strmod, rng1_int, rng2_int, mulD_intl, mulD_intr, intF_dig])
local macro_rules | `(tactic| walk_at "evc2") => `(tactic| try simp -implicitDefEqProofs -dsimp (disch := walk_at "dis") only [call_is, dB_flat, dT_flat, disp11, getI, getL, inF_T, ixB, keysB, keys_T, listK_T, oT_toD, pairs_T, rule_signs, ↓q_seq, ↓q_seqK_nx, ↓q_seqK_rt, ↓q_seqK_rn, ↓q_seqK_bk, ↓q_seqK_ct, ↓q_runD, ↓q_runN, q_runK_rt, q_runK_rn, q_runK_nx, q_runKN_rn, ↓q_set, ↓q_setN, ↓q_ret, ↓q_retN, ↓q_if, ↓q_unp, q_unpK, ↓q_app, q_appK, q_guard, ↓q_for, ↓q_forR, q_loopK_nx, q_loopK_ct, q_loopK_bk, q_loopK_rt, q_loopK_rn, ↓q_sNil, ↓q_e2, ↓q_t2, ↓q_e1, ↓q_cst, ↓q_aN, ↓q_aC, ↓q_call, ↓q_callN, ↓q_eN, ↓q_nLst, q_lstK, ↓q_eTup, q_tupK, ↓q_tVal, ↓q_tNot, ↓q_tAnd, ↓q_tOr, ↓q_eAnd, ↓q_eNot, ↓q_eIf, ↓q_iAny, ↓q_iRg1, ↓q_iEnum, ↓q_nLc, ↓q_cT, ↓q_oN, ↓q_oS, ↓q_eSl, ↓q_eChain, ↓q_tBl, ↓q_eMake, ↓q_eMeth, ↓q_iSeq, q_selK, q_self, ↓q_iTwoS, q_two2s, ↓q_nLc2, q_inE, q_notInE, q_is_non, q_is_str, q_is_int, q_is_tup, q_is_lst, q_isnt_non, q_isnt_str, q_isnt_int, q_isnt_tup, q_isnt_lst, q_list_l, q_list_t, q_ixF_s, q_ixF_l, q_ixF_t, q_ixF_b, q_inF_s, q_inF_l, q_inF_t, q_lenG_s, q_lenG_l, q_lenG_t, q_lenG_d, q_lenG_dt, ↓q_setD, ↓q_dput, q_dputK, q_keyI, q_keyS, q_seeT, q_toDv, q_toDl, q_toDk, q_toDt, q_toDs0, q_toDs1, q_toDsm, q_fls0, q_fls1, q_flv, q_fll, q_flk, q_flt, q_flsm, q_sloV, q_sloK, q_sloT, q_sloL, q_sloLl, ↓q_oV, ↓q_oL, ↓q_oC, ↓q_oaN, ↓q_oaC, ↓q_parO, q_parOK, q_flatS, q_flatI, q_flatS2, q_mapv0, q_sloL0, bnd_ret, bnd_assoc, bnd_assoc', bnd_r, cnd_t, cnd_f, fail_bnd, bind_bnd, str01, List.cons.injEq, and_true, decide_true, decide_false, cut_toN, cut_fromN, cut_from1N, cut_to1N, cut_to1, cut_to2, cut_to3, cut_from1, cut_toM1, cut_fromM1, DL.startD, List.map_cons, List.map_nil, List.length_cons, List.length_nil, Nat.reduceAdd, Nat.reduceSub, List.replicate, List.cons_append, List.nil_append, view_eq, viewAt_cons, viewAt_nil, List.contains_cons, List.contains_nil, Nat.reduceBEq, Bool.or_true, Bool.or_false, Bool.true_or, Bool.false_or, if_true, Bool.false_eq_true, if_false, Option.map_some, Option.map_none, see_val, see_own, rd_0, rd_1, rd_2, rd_3, rd_4, rd_5, rd_6, rd_7, rd_8, rd_9, Int.reduceToNat, flat_int, flat_str, flat_bl, flat_non, flat_bag, flat_lst, flat_tup, flat_obj, List.all_cons, List.all_nil, Bool.and_true, Bool.true_and, Bool.and_false, Bool.false_and, keepIf_t, keepIf_f, frz_eq, frzAt_cons, frzAt_nil, List.set_cons_succ, List.set_cons_zero, subD_int, addD_int, negD_int, asI_int, asB_bl, truD_bl, lenF_lst, lenF_tup, intF_int, intF_bl, absF_int, ltD_int, leD_int, gtD_int, geD_int, eqD_int, eqD_str, neD_int, neD_str, inD_str, notInD_str, slD_lst, slD_scr, revD_lst, itemsD_lst, itemsD_tup, itemsD_str, Bool.not_true, Bool.not_false, ixD_l, ixD_t, ofSome, atI_0, atI_1, atI_2, atI_3, atI_4, atI_app, slotD_obj, propD_obj, propN_obj, isC_obj, get0, get1, get2, get3, getS, bName_eq, bTup_eq, bCons_eq, bNil_eq, setAll2_cons, setAll2_nil, setAllD_cons, setAllD_nil, wipeD_cons, wipeD_nil, isi_str_str, isi_int_int, isi_bool_int, List.getElem?_cons_zero, List.getElem?_cons_succ, q_flat_dct, q_flat_dcT, q_isB, q_isntB, q_n2, q_cndN, q_szL, q_sloL1, q_sloL2, q_sloL3, q_c0, q_c1, q_c2, q_c3, q_c4, q_c5, q_c6, q_c7, q_c8, q_c9, q_c10, q_c11, q_c12, q_c13, q_c14, q_c15, q_c16, q_getF2, q_e3D, q_dictPF, q_guardT, q_liftE, q_liftK, q_seqE, q_seqEK_nx, q_seqEK_rt, q_seqEK_rn, q_seqEK_ex, q_ifE, q_eCallE, q_runE, q_runEK_rt, q_runEK_rn, q_runEK_nx, q_runEK_ex, q_eLiftE, q_eqBl, q_neBl, q_toDu, q_flu, q_sloU, q_iKeysD, q_keysD0, q_keysD0l, q_keysD0s, q_pairsD0, q_popM, q_popK, q_exvM, q_exvD, q_exvK, q_listKF, q_sumL, q_asLF, q_asLK, q_tput, q_tputK, q_inT, q_inTK, q_keysI1, q_keys2s, q_keys2i, q_keys2ii, q_celK, q_okE_ok, q_okE_ex, q_sxSet, q_sxSetK_ok, q_sxSetK_ex, q_axNil, q_axCons, q_axConsK_ok, q_axConsK_ex, q_axConsK2_ok, q_axConsK2_ex, q_eIfE, q_forX, q_forRX, q_noxE, q_noxEK, q_sxPar, q_sxParK_ok, q_cut2, q_cut3, eq_self, cnd_dt, cnd_df, Int.toNat_natCast, lenF_str, modD_int, divD_int, addD_str, addD_lst, slD_str, revD_str, ixD_str, ixD_str1, ixD_strmod, rng1_int, rng2_int, mulD_intl, mulD_intr, intF_dig, q_comp0, q_compC])
local macro_rules | `(tactic| walk_at "env2") => `(tactic| try simp -implicitDefEqProofs only [List.all_cons, List.all_nil, Bool.and_true, Bool.true_and, setAll2_cons, setAll2_nil, bName_eq, env0, List.replicate, flat_int, flat_str, flat_bl, flat_non, flat_bag, flat_lst, flat_tup, flat_obj, keepIf_t, keepIf_f, frz_eq, frzAt_cons, frzAt_nil, List.contains_cons, List.contains_nil, Nat.reduceBEq, Nat.reduceAdd, Bool.or_true, Bool.or_false, Bool.true_or, if_true, Bool.false_eq_true, if_false, Option.map_some, Option.map_none, see_val, see_own, List.set_cons_succ, List.set_cons_zero])
open EL
section
variable {t : List Nat} {r : Nat} 
theorem pairs_of_is (hr : r ≤ 2) : R_pairs_of [rul t r] = M.ret ((allS (sigs r) 2).map .str) := by
  have : r = 0 ∨ r = 1 ∨ r = 2 := by omega
  simp only [R_pairs_of, F_pairs_of]
  rcases this with rfl | rfl | rfl
  · walk_at "ev8"
    walk_at "evc2"
    rfl
  · walk_at "ev8"
    walk_at "evc2"
    rfl
  · walk_at "ev8"
    walk_at "evc2"
    rfl
abbrev fL (gs : List Tx) : D := .lst (gs.map D.str)
theorem pairs_few (hr : r ≤ 2) : (allS (sigs r) 2).length ≤ 16 := by
  rw [allS_len, sigs_len hr]
  exact Nat.le_trans (Nat.pow_le_pow_left (show r + 2 ≤ 4 by omega) 2) (by decide)
def addK (K : List Tx) (k : Tx) : List Tx := if k ∈ K then K else K ++ [k]
theorem addK_nd {K : List Tx} {k : Tx} (h : K.Nodup) : (addK K k).Nodup := by
  unfold addK
  split
  · exact h
  · exact nodup_snoc h (by assumption)
theorem addK_mem {K : List Tx} {k x : Tx} : x ∈ addK K k ↔ x ∈ K ∨ x = k := by
  unfold addK
  split
  · rename_i h
    exact ⟨.inl, fun h' => h'.elim id fun e => e ▸ h⟩
  · rw [List.mem_append, List.mem_singleton]
abbrev keyT (K : List Tx) : List (Tx × Bool) := K.map fun k => (k, true)
theorem keyT_keys (K : List Tx) : (keyT K).map (·.1) = K := by
  rw [List.map_map]
  exact List.map_id' _
theorem setA_K {K : List Tx} {k : Tx} : setA (keyT K) k true = keyT (addK K k) := by
  unfold setA addK
  rw [keyT_keys]
  split
  · rw [List.map_map]
    refine List.map_congr_left fun x _ => ?_
    show (if x = k then (x, true) else (x, true)) = _
    split <;> rfl
  · show keyT K ++ [(k, true)] = keyT (K ++ [k])
    unfold keyT
    rw [List.map_append]
    rfl
def foldP (t : List Nat) (r s : Nat) (K : List Tx) (p : Tx) : List Tx := (sigs r).foldl (fun K c => if sgn t r (p.getD 0 0) (p.getD 1 0) c = s then addK K [p.getD 1 0, c] else K) K
theorem fold_mem {α : Type} (q : α → Prop) [DecidablePred q] (f : α → Tx) {x : Tx} : ∀ (l : List α) (K : List Tx), (x ∈ l.foldl (fun K c => if q c then addK K (f c) else K) K ↔ x ∈ K ∨ ∃ c ∈ l, q c ∧ x = f c)
  | [], K => ⟨.inl, fun h => h.elim id fun ⟨c, hc, _⟩ => nomatch hc⟩
  | c :: l, K => by
    rw [List.foldl_cons, fold_mem q f l]
    by_cases h : q c
    · rw [if_pos h, addK_mem, or_assoc]
      constructor
      · rintro (h1 | h1 | ⟨d, h1, h2⟩)
        · exact .inl h1
        · exact .inr ⟨c, List.mem_cons_self, h, h1⟩
        · exact .inr ⟨d, List.mem_cons_of_mem _ h1, h2⟩
      · rintro (h1 | ⟨d, h1, h2, h3⟩)
        · exact .inl h1
        · rcases List.mem_cons.mp h1 with rfl | h1
          · exact .inr (.inl h3)
          · exact .inr (.inr ⟨d, h1, h2, h3⟩)
    · rw [if_neg h]
      constructor
      · rintro (h1 | ⟨d, h1, h2⟩)
        · exact .inl h1
        · exact .inr ⟨d, List.mem_cons_of_mem _ h1, h2⟩
      · rintro (h1 | ⟨d, h1, h2, h3⟩)
        · exact .inl h1
        · rcases List.mem_cons.mp h1 with rfl | h1
          · exact absurd h2 h
          · exact .inr ⟨d, h1, h2, h3⟩
theorem fold_nd {α : Type} (q : α → Prop) [DecidablePred q] (f : α → Tx) : ∀ (l : List α) {K : List Tx}, K.Nodup → (l.foldl (fun K c => if q c then addK K (f c) else K) K).Nodup
  | [], K, h => h
  | c :: l, K, h => by
    rw [List.foldl_cons]
    refine fold_nd q f l ?_
    split
    · exact addK_nd h
    · exact h
theorem outer_nd {s : Nat} : ∀ (ps : List Tx) {K : List Tx}, K.Nodup → (ps.foldl (foldP t r s) K).Nodup
  | [], K, h => h
  | p :: ps, K, h => outer_nd ps (fold_nd _ _ _ h)
theorem outer_mem {s : Nat} {x : Tx} : ∀ (ps : List Tx) (K : List Tx), (x ∈ ps.foldl (foldP t r s) K ↔ x ∈ K ∨ ∃ p ∈ ps, ∃ c ∈ sigs r, sgn t r (p.getD 0 0) (p.getD 1 0) c = s ∧ x = [p.getD 1 0, c])
  | [], K => ⟨.inl, fun h => h.elim id fun ⟨c, hc, _⟩ => nomatch hc⟩
  | p :: ps, K => by
    rw [List.foldl_cons, outer_mem ps]
    unfold foldP
    rw [fold_mem (fun c => sgn t r (p.getD 0 0) (p.getD 1 0) c = s) (fun c => [p.getD 1 0, c])]
    simp only [List.mem_cons, exists_eq_or_imp, or_assoc]
def aftL (t : List Nat) (r : Nat) (ps : List Tx) (s : Nat) : List Tx := (allS (sigs r) 2).filter fun w => ps.any fun p => decide (p.getD 1 0 = w.getD 0 0) && decide (sgn t r (p.getD 0 0) (p.getD 1 0) (w.getD 1 0) = s)
theorem aft_is {ps : List Tx} {s : Nat} (hp : ∀ p ∈ ps, p ∈ allS (sigs r) 2) : sortS (ps.foldl (foldP t r s) []) = aftL t r ps s := by
  refine pw_ext (sortS_lt (outer_nd ps List.nodup_nil)) ((allS_pw LW.sigs_pw 2).filter _) fun x => ?_
  rw [(sortS_perm _).mem_iff, outer_mem, aftL, List.mem_filter, List.any_eq_true]
  constructor
  · rintro (h | ⟨p, h1, c, h2, h3, rfl⟩)
    · cases h
    · obtain ⟨a, b, rfl, ha, hb⟩ := mem_two.mp (hp p h1)
      refine ⟨mem_two.mpr ⟨_, _, rfl, hb, h2⟩, _, h1, ?_⟩
      rw [Bool.and_eq_true, decide_eq_true_iff, decide_eq_true_iff]
      exact ⟨rfl, h3⟩
  · rintro ⟨h1, p, h2, h3⟩
    rw [Bool.and_eq_true, decide_eq_true_iff, decide_eq_true_iff] at h3
    obtain ⟨a, b, rfl, ha, hb⟩ := mem_two.mp h1
    refine .inr ⟨p, h2, b, hb, h3.2, ?_⟩
    rw [h3.1]
    rfl
theorem aft_in {ps : List Tx} {s : Nat} : ∀ w ∈ aftL t r ps s, w ∈ allS (sigs r) 2 := fun w h => (List.mem_filter.mp h).1
theorem aft_len (hr : r ≤ 2) {ps : List Tx} {s : Nat} : (aftL t r ps s).length ≤ 16 := Nat.le_trans (List.length_filter_le _ _) (pairs_few hr)
theorem pairs_after_is (ht : BinT t) (hr : r ≤ 2) {ps : List Tx} {s : Nat} (hp : ∀ p ∈ ps, p ∈ allS (sigs r) 2) (hz : ps.length ≤ 16) : R_pairs_after [rul t r, fL ps, .str [s]] = M.ret ((aftL t r ps s).map .str) := by
  have sl := sigs_len hr
  simp only [R_pairs_after, F_pairs_after]
  walk_at "ev8"
  refine Ev.eq (ev_loop (fun i ρ => ∃ s4 s5, ρ = [some (.val (rul t r)), some (.val (fL ps)), some (.val (.str [s])), some (.tr (oT D.bl (keyT ((ps.take i).foldl (foldP t r s) [])))), s4, s5]) ⟨_, _, rfl⟩ ?_ ?_)
  · rintro i d ρ hd ⟨s4, s5, rfl⟩
    obtain ⟨p, hv, rfl⟩ := get_map hd
    have hm := hp p (List.mem_of_getElem? hv)
    have nd := outer_nd (t := t) (r := r) (s := s) (ps.take i) List.nodup_nil
    have tk : ps.take (i + 1) = ps.take i ++ [p] := by rw [List.take_add_one, hv]; rfl
    rw [tk, List.foldl_append]
    generalize hK : (ps.take i).foldl (foldP t r s) [] = K at nd
    have Kin : ∀ k ∈ K, k ∈ allS (sigs r) 2 := fun k hk => by
      rw [← hK] at hk
      rcases (outer_mem _ _).mp hk with h | ⟨p, h1, c, h2, _, rfl⟩
      · cases h
      · obtain ⟨a, b, rfl, ha, hb⟩ := mem_two.mp (hp p (List.mem_of_mem_take h1))
        exact mem_two.mpr ⟨_, _, rfl, hb, h2⟩
    obtain ⟨a, b, rfl, ha, hb⟩ := mem_two.mp hm
    have sr := sigs_sg (x := [a, b]) (r := r) (fun c hc => by
      rcases List.mem_cons.mp hc with rfl | hc
      · exact ha
      · rw [List.mem_singleton.mp hc]; exact hb) hr
    have b48 : 48 ≤ b ∧ b < 50 + r := sr b (by simp)
    refine ⟨_, rfl, ?_⟩
    walk_at "env2"
    walk_at "ev8"
    refine ev_loopZ (fun j ρ => ∃ s5, ρ = [some (.val (rul t r)), some (.val (fL ps)), some (.val (.str [s])), some (.tr (oT D.bl (keyT (((sigs r).take j).foldl (fun K c => if sgn t r a b c = s then addK K [b, c] else K) K)))), some (.val (.str [a, b])), s5]) ⟨_, rfl⟩ ?_ ?_
    · rintro j d ρ hd ⟨s5, rfl⟩
      obtain ⟨c, hv, rfl⟩ := get_map hd
      have tk : (sigs r).take (j + 1) = (sigs r).take j ++ [c] := by rw [List.take_add_one, hv]; rfl
      rw [tk, List.foldl_append]
      have nd2 := fold_nd (fun c => sgn t r a b c = s) (fun c => [b, c]) ((sigs r).take j) nd
      have In2 : ∀ k ∈ ((sigs r).take j).foldl (fun K c => if sgn t r a b c = s then addK K [b, c] else K) K, k ∈ allS (sigs r) 2 := fun k hk => by
        rcases (fold_mem (fun c => sgn t r a b c = s) (fun c => [b, c]) _ _).mp hk with h | ⟨c, h1, _, rfl⟩
        · exact Kin k h
        · exact mem_two.mpr ⟨_, _, rfl, hb, List.mem_of_mem_take h1⟩
      generalize ((sigs r).take j).foldl (fun K c => if sgn t r a b c = s then addK K [b, c] else K) K = L at nd2 In2
      have L16 : L.length ≤ 16 := Nat.le_trans (nodup_bound nd2 In2) (pairs_few hr)
      refine ⟨_, rfl, ?_⟩
      walk_at "env2"
      walk_at "ev8"
      rw [show [a, b].getD 0 0 = a from rfl, show [a, b].getD 1 0 = b from rfl, call_is ht hr b48]
      walk_at "ev8"
      rw [List.foldl_cons, List.foldl_nil]
      by_cases hc : sgn t r a b c = s
      · rw [if_pos hc, cnd_dt hc]
        walk_at "ev8"
        rw [show [a, b].getD 1 0 = b from rfl]
        walk_at "ev8"
        change Ev (dputK _ 3 (keyD (.str [b, c])) (D.bl true) (some (some (.tr (oT D.bl (keyT L)))))) _
        rw [put_T (f := D.bl) (by rw [List.length_map]; omega), setA_K]
        exact Ev.ret ⟨_, .inl rfl, _, rfl⟩
      · rw [if_neg hc, cnd_df hc]
        walk_at "ev8"
        exact Ev.ret ⟨_, .inl rfl, _, rfl⟩
    · rintro ρ ⟨s5, rfl⟩
      rw [List.length_map, List.take_length]
      exact ⟨_, .inl rfl, _, _, rfl⟩
  · rintro ρ ⟨s4, s5, rfl⟩
    rw [List.length_map, List.take_length]
    walk_at "ev8"
    have so : sortedDF [dT D.bl (keyT (ps.foldl (foldP t r s) []))] = M.ret ((sortS (ps.foldl (foldP t r s) [])).map D.str) := by
      have := sortedDF_texts (ps.foldl (foldP t r s) []) ((keyT (ps.foldl (foldP t r s) [])).map fun p => D.bl p.2)
      unfold dT ksT
      rw [← this, show (keyT (ps.foldl (foldP t r s) [])).map (fun p => kS p.1) = (ps.foldl (foldP t r s) []).map kS by unfold keyT; rw [List.map_map]; rfl]
    rw [so, aft_is hp]
    walk_at "ev8"
    exact Ev.ret rfl
end
section
variable {t : List Nat} {r : Nat}
abbrev Lv := List (Tx × List Tx)
def lvL (L : Lv) : List D := L.map fun p => .tup [.str p.1, fL p.2]
def kkS (F : List Tx) : List L2.Key := F.map kS
def seenO (L : Lv) : O := .t (L.map fun p => kkS p.2) (L.map fun _ => O.v (.bl true))
theorem keysD_S : ∀ F : List Tx, keysD (F.map D.str) = some (kkS F)
  | [] => rfl
  | x :: F => by
    show (match keyD (.str x), keysD (F.map D.str) with | some k, some ks => some (k :: ks) | _, _ => none) = _
    rw [keysD_S F]
    rfl
theorem kkS_inj : ∀ {F G : List Tx}, kkS F = kkS G → F = G
  | [], [], _ => rfl
  | [], _ :: _, h => nomatch h
  | _ :: _, [], h => nomatch h
  | x :: F, y :: G, h => by
    obtain ⟨h1, h2⟩ := List.cons.inj h
    rw [kS_inj h1, kkS_inj h2]
theorem getK_S (F : List Tx) : ∀ L : Lv, (getK (L.map fun p => kkS p.2) (L.map fun _ => D.bl true) (kkS F)).isSome = decide (F ∈ L.map (·.2))
  | [] => by simp [getK]
  | p :: L => by
    have ih := getK_S F L
    unfold getK at ih ⊢
    rw [List.map_cons, List.map_cons, List.zip_cons_cons, List.find?_cons]
    by_cases e : p.2 = F
    · rw [decide_eq_true (show kkS p.2 = kkS F by rw [e]), decide_eq_true (show F ∈ (p :: L).map (·.2) by rw [← e]; exact List.mem_cons_self)]
      rfl
    · rw [decide_eq_false (fun z => e (kkS_inj z))]
      rw [show decide (F ∈ (p :: L).map (·.2)) = decide (F ∈ L.map (·.2)) from decide_eq_decide.mpr ⟨fun h => (List.mem_cons.mp h).resolve_left fun h => e h.symm, List.mem_cons_of_mem _⟩]
      exact ih
theorem seen_toD (L : Lv) : (seenO L).toD = .dcT (L.map fun p => kkS p.2) (L.map fun _ => D.bl true) := by
  show D.dcT _ (O.toDs _) = _
  rw [toDs_map (fun _ => D.bl true)]
theorem seen_in (F : List Tx) (L : Lv) : inTK true (some (kkS F)) (.dcT (L.map fun p => kkS p.2) (L.map fun _ => D.bl true)) = M.ret (!decide (F ∈ L.map (·.2))) := by
  rw [← getK_S F L]
  rfl
theorem put_seen {F : List Tx} {L : Lv} {ρ : Env2} (h : F ∉ L.map (·.2)) (hl : L.length < 16777216) (x : Tx) : tputK ρ 3 (some (kkS F)) (.bl true) (some (some (.tr (seenO L)))) = M.ret (.nx (ρ.set 3 (some (.tr (seenO (L ++ [(x, F)])))))) := by
  have nk : kkS F ∉ L.map fun p => kkS p.2 := fun z => by
    obtain ⟨p, hp, e⟩ := List.mem_map.mp z
    exact h (kkS_inj e ▸ List.mem_map_of_mem hp)
  unfold seenO
  rw [q_tputK (by rw [List.length_map]; exact hl), setKs_new nk, setVs_new nk, List.map_append, List.map_append]
  rfl
theorem lvl_len (L : Lv) : (lvL L).length = L.length := by unfold lvL; rw [List.length_map]
theorem lv_snoc {x : Tx} {F : List Tx} {L : Lv} : lvL L ++ [D.tup [.str x, .lst (F.map D.str)]] = lvL (L ++ [(x, F)]) := by
  unfold lvL
  rw [List.map_append]
  rfl
theorem eq_nil {F : List Tx} (h : ∀ w ∈ F, w ∈ allS (sigs r) 2) (hl : F.length ≤ 16) : eqD false (D.lst (F.map D.str)) (D.lst []) = M.ret (.bl (decide (F = []))) := by
  rw [eqD_nil false (okA_lst (k := 0) (w := 30) (fun d hd => by
    obtain ⟨w, hw, rfl⟩ := List.mem_map.mp hd
    have hm := mem_allS.mp (h w hw)
    refine (Okd.str ?_).mono (by omega) (by omega)
    rw [List.all_eq_true]
    intro c hc
    have := sigs_lt (hm.2 c hc)
    exact decide_eq_true (by omega)) (by decide) (by rw [List.length_map]; omega))]
  cases F <;> rfl
def goS (t : List Nat) (r : Nat) (row : Tx) (ps : List Tx) : List Nat → Lv → Tx ⊕ Lv
  | [], L => .inr L
  | c :: cs, L => if aftL t r ps c = [] then .inl (row ++ [c]) else goS t r row ps cs (if aftL t r ps c ∈ L.map (·.2) then L else L ++ [(row ++ [c], aftL t r ps c)])
def goR (t : List Nat) (r : Nat) : Lv → Lv → Tx ⊕ Lv
  | [], L => .inr L
  | p :: lev, L => match goS t r p.1 p.2 (sigs r) L with
    | .inl x => .inl x
    | .inr L' => goR t r lev L'
def bodyS : Env2 → M Out :=
  (seqM (setNM 7 [0, 5, 6] (nCall R_pairs_after (aC (rdEnv 0) (aC (rdEnv 5) (aC (rdEnv 6) aN)))))
  (seqM (ifM [7] (t2 (eqD false) (rdEnv 7) (eN (nLst aN)))
  (retM [4, 6] (eTup (aC (e2 addD (rdEnv 4) (rdEnv 6)) (aC (eN (nLst aN)) aN))))
  sNil)
  (ifM [3, 7] (tInT true (asLF (rdEnv 7)) (rdEnv 3))
  (seqM (tputM 3 [7] (cst (.bl true)) (asLF (rdEnv 7)))
  (appM 2 [4, 6, 7] (eTup (aC (e2 addD (rdEnv 4) (rdEnv 6)) (aC (rdEnv 7) aN)))))
  sNil)))
def envS (t : List Nat) (r : Nat) (lev : D) (L : Lv) (s4 s5 s6 s7 : Option DL.Slot) : Env2 := [some (.val (rul t r)), some (.val lev), some (.own (lvL L)), some (.tr (seenO L)), s4, s5, s6, s7]
theorem sign_loop (ht : BinT t) (hr : r ≤ 2) {lev : D} {row : Tx} {ps : List Tx} (hp : ∀ p ∈ ps, p ∈ allS (sigs r) 2) (hz : ps.length ≤ 16) (hw : row.length ≤ 1000) : ∀ (cs : List Nat) (L : Lv) (s6 s7 : Option DL.Slot), L.length + cs.length ≤ 100000 → Ev (loopM (bName 6) bodyS (cs.map fun c => .str [c]) (envS t r lev L (some (.val (.str row))) (some (.val (fL ps))) s6 s7)) fun o => match goS t r row ps cs L with
    | .inl x => o = .rt (.tup [.str x, .lst []])
    | .inr L' => ∃ s6 s7, o = .nx (envS t r lev L' (some (.val (.str row))) (some (.val (fL ps))) s6 s7)
  | [], L, s6, s7, _ => Ev.ret ⟨_, _, rfl⟩
  | c :: cs, L, s6, s7, hL => by
    have pa := pairs_after_is ht hr (s := c) hp hz
    have al := aft_len (t := t) hr (ps := ps) (s := c)
    rw [List.length_cons] at hL
    rw [List.map_cons, q_loopN]
    unfold goS
    have ne := eq_nil (r := r) (F := aftL t r ps c) aft_in al
    generalize hF : aftL t r ps c = F at pa al ne
    have ih := sign_loop ht hr (lev := lev) hp hz hw cs
    unfold bodyS envS
    walk_at "env2"
    walk_at "ev8"
    rw [pa]
    walk_at "ev8"
    rw [ne]
    walk_at "ev8"
    by_cases e : F = []
    · rw [if_pos e, decide_eq_true e]
      walk_at "ev8"
      exact Ev.ret rfl
    · rw [if_neg e, decide_eq_false e]
      walk_at "ev8"
      rw [keysD_S, seen_toD, seen_in]
      walk_at "ev8"
      by_cases m : F ∈ L.map (·.2)
      · rw [if_pos m, decide_eq_true m]
        walk_at "ev8"
        exact ih L _ _ (by omega)
      · rw [if_neg m, decide_eq_false m]
        walk_at "ev8"
        have ll := lvl_len L
        rw [keysD_S, put_seen m (by omega) (row ++ [c])]
        walk_at "ev8"
        rw [lv_snoc]
        exact ih _ _ _ (by rw [List.length_append, List.length_singleton]; omega)
structure LvOk (r k : Nat) (L : Lv) : Prop where
  pin : ∀ p ∈ L, ∀ w ∈ p.2, w ∈ allS (sigs r) 2
  pln : ∀ p ∈ L, p.2.length ≤ 16
  row : ∀ p ∈ L, p.1.length ≤ k
theorem goS_len {row : Tx} {ps : List Tx} : ∀ (cs : List Nat) (L L' : Lv), goS t r row ps cs L = .inr L' → L'.length ≤ L.length + cs.length
  | [], L, L', h => by
    cases h
    exact Nat.le_refl _
  | c :: cs, L, L', h => by
    unfold goS at h
    split at h
    · cases h
    · have := goS_len cs _ _ h
      rw [List.length_cons]
      split at this
      · omega
      · rw [List.length_append, List.length_singleton] at this
        omega
theorem lev_loop (ht : BinT t) (hr : r ≤ 2) {k : Nat} (hk : k ≤ 1000) {lev : D} : ∀ (lv : Lv) (L : Lv) (s4 s5 s6 s7 : Option DL.Slot), LvOk r k lv → L.length + 4 * lv.length ≤ 100000 → Ev (loopM (bTup 2 (bCons (bName 4) (bCons (bName 5) bNil))) (forA [0] (iAny (e1 (propD 0 R_Rule_signs) (rdEnv 0))) (bName 6) bodyS) (lvL lv) (envS t r lev L s4 s5 s6 s7)) fun o => match goR t r lv L with
    | .inl x => o = .rt (.tup [.str x, .lst []])
    | .inr L' => ∃ s4 s5 s6 s7, o = .nx (envS t r lev L' s4 s5 s6 s7)
  | [], L, s4, s5, s6, s7, _, _ => Ev.ret ⟨_, _, _, _, rfl⟩
  | p :: lv, L, s4, s5, s6, s7, ok, hL => by
    have sl := sigs_len hr
    rw [List.length_cons] at hL
    have in_ := sign_loop ht hr (lev := lev) (ok.pin p List.mem_cons_self) (ok.pln p List.mem_cons_self) (Nat.le_trans (ok.row p List.mem_cons_self) hk) (sigs r) L s6 s7 (by omega)
    show Ev (loopM _ _ (.tup [.str p.1, fL p.2] :: lvL lv) _) _
    rw [q_loop1 (l := [(4, .str p.1), (5, fL p.2)]) _ rfl]
    unfold goR
    unfold envS at in_ ⊢
    walk_at "env2"
    walk_at "ev8"
    refine Ev.bind in_ ?_
    intro o ho
    cases e : goS t r p.1 p.2 (sigs r) L with
    | inl x =>
      simp only [e] at ho
      obtain rfl := ho
      walk_at "ev8"
      exact Ev.ret rfl
    | inr L' =>
      simp only [e] at ho
      obtain ⟨s6', s7', rfl⟩ := ho
      have gl := goS_len _ _ _ e
      walk_at "ev8"
      exact lev_loop ht hr hk lv L' _ _ _ _ ⟨fun p h => ok.pin p (List.mem_cons_of_mem _ h), fun p h => ok.pln p (List.mem_cons_of_mem _ h), fun p h => ok.row p (List.mem_cons_of_mem _ h)⟩ (by omega)
theorem a_sign_longer_is (ht : BinT t) (hr : r ≤ 2) {k : Nat} (hk : k ≤ 1000) {lv : Lv} (ok : LvOk r k lv) (hl : lv.length ≤ 20000) : R_a_sign_longer [rul t r, .lst (lvL lv)] = M.ret (match goR t r lv [] with | .inl x => .tup [.str x, .lst []] | .inr L' => .tup [.non, .lst (lvL L')]) := by
  simp only [R_a_sign_longer, F_a_sign_longer]
  walk_at "ev8"
  have key := lev_loop ht hr hk (lev := .lst (lvL lv)) lv [] none none none none ok (by rw [List.length_nil]; omega)
  refine Ev.eq (Ev.bind key ?_)
  intro o ho
  cases e : goR t r lv [] with
  | inl x =>
    simp only [e] at ho
    obtain rfl := ho
    walk_at "ev8"
    exact Ev.ret rfl
  | inr L' =>
    simp only [e] at ho
    obtain ⟨s4, s5, s6, s7, rfl⟩ := ho
    unfold envS
    walk_at "ev8"
    exact Ev.ret rfl
end
local macro_rules | `(tactic| walk_at "ev9") => `(tactic| try simp -implicitDefEqProofs -dsimp (disch := walk_at "dis") only [call_is, dB_flat, dT_flat, disp11, getI, getL, inF_T, ixB, keysB, keys_T, listK_T, oT_toD, pairs_T, rule_signs, rule_table, ↓q_seq, ↓q_seqK_nx, ↓q_seqK_rt, ↓q_seqK_rn, ↓q_seqK_bk, ↓q_seqK_ct, ↓q_runD, ↓q_runN, q_runK_rt, q_runK_rn, q_runK_nx, q_runKN_rn, ↓q_set, ↓q_setN, ↓q_ret, ↓q_retN, ↓q_if, ↓q_unp, q_unpK, ↓q_app, q_appK, q_guard, ↓q_for, ↓q_forR, q_loopK_nx, q_loopK_ct, q_loopK_bk, q_loopK_rt, q_loopK_rn, ↓q_sNil, ↓q_e2, ↓q_t2, ↓q_e1, ↓q_cst, ↓q_aN, ↓q_aC, ↓q_call, ↓q_callN, ↓q_eN, ↓q_nLst, q_lstK, ↓q_eTup, q_tupK, ↓q_tVal, ↓q_tNot, ↓q_tAnd, ↓q_tOr, ↓q_eAnd, ↓q_eNot, ↓q_eIf, ↓q_iAny, ↓q_iRg1, ↓q_iEnum, ↓q_nLc, ↓q_cT, ↓q_oN, ↓q_oS, ↓q_eSl, ↓q_eChain, ↓q_tBl, ↓q_eMake, ↓q_eMeth, ↓q_iSeq, q_selK, q_self, ↓q_iTwoS, q_two2s, ↓q_nLc2, q_inE, q_notInE, q_is_non, q_is_str, q_is_int, q_is_tup, q_is_lst, q_isnt_non, q_isnt_str, q_isnt_int, q_isnt_tup, q_isnt_lst, q_list_l, q_list_t, q_ixF_s, q_ixF_l, q_ixF_t, q_ixF_b, q_inF_s, q_inF_l, q_inF_t, q_lenG_s, q_lenG_l, q_lenG_t, q_lenG_d, q_lenG_dt, ↓q_setD, ↓q_dput, q_dputK, q_keyI, q_keyS, q_seeT, q_toDv, q_toDl, q_toDk, q_toDt, q_toDs0, q_toDs1, q_toDsm, q_fls0, q_fls1, q_flv, q_fll, q_flk, q_flt, q_flsm, q_sloV, q_sloK, q_sloT, q_sloL, q_sloLl, ↓q_oV, ↓q_oL, ↓q_oC, ↓q_oaN, ↓q_oaC, ↓q_parO, q_parOK, q_flatS, q_flatI, q_flatS2, q_mapv0, q_sloL0, bnd_ret, bnd_assoc, bnd_assoc', bnd_r, cnd_t, cnd_f, fail_bnd, bind_bnd, str01, List.cons.injEq, and_true, decide_true, decide_false, cut_toN, cut_fromN, cut_from1N, cut_to1N, cut_to1, cut_to2, cut_to3, cut_from1, cut_toM1, cut_fromM1, DL.startD, List.map_cons, List.map_nil, List.length_cons, List.length_nil, Nat.reduceAdd, Nat.reduceSub, List.replicate, List.cons_append, List.nil_append, view_eq, viewAt_cons, viewAt_nil, List.contains_cons, List.contains_nil, Nat.reduceBEq, Bool.or_true, Bool.or_false, Bool.true_or, Bool.false_or, if_true, Bool.false_eq_true, if_false, Option.map_some, Option.map_none, see_val, see_own, rd_0, rd_1, rd_2, rd_3, rd_4, rd_5, rd_6, rd_7, rd_8, rd_9, Int.reduceToNat, flat_int, flat_str, flat_bl, flat_non, flat_bag, flat_lst, flat_tup, flat_obj, List.all_cons, List.all_nil, Bool.and_true, Bool.true_and, Bool.and_false, Bool.false_and, keepIf_t, keepIf_f, frz_eq, frzAt_cons, frzAt_nil, List.set_cons_succ, List.set_cons_zero, subD_int, addD_int, negD_int, asI_int, asB_bl, truD_bl, lenF_lst, lenF_tup, intF_int, intF_bl, absF_int, ltD_int, leD_int, gtD_int, geD_int, eqD_int, eqD_str, neD_int, neD_str, inD_str, notInD_str, slD_lst, slD_scr, revD_lst, itemsD_lst, itemsD_tup, itemsD_str, Bool.not_true, Bool.not_false, ixD_l, ixD_t, ofSome, atI_0, atI_1, atI_2, atI_3, atI_4, atI_app, slotD_obj, propD_obj, propN_obj, isC_obj, get0, get1, get2, get3, getS, bName_eq, bTup_eq, bCons_eq, bNil_eq, setAll2_cons, setAll2_nil, setAllD_cons, setAllD_nil, wipeD_cons, wipeD_nil, isi_str_str, isi_int_int, isi_bool_int, List.getElem?_cons_zero, List.getElem?_cons_succ, q_flat_dct, q_flat_dcT, q_isB, q_isntB, q_n2, q_cndN, q_szL, q_sloL1, q_sloL2, q_sloL3, q_c0, q_c1, q_c2, q_c3, q_c4, q_c5, q_c6, q_c7, q_c8, q_c9, q_c10, q_c11, q_c12, q_c13, q_c14, q_c15, q_c16, q_getF2, q_e3D, q_dictPF, q_guardT, q_liftE, q_liftK, q_seqE, q_seqEK_nx, q_seqEK_rt, q_seqEK_rn, q_seqEK_ex, q_ifE, q_eCallE, q_runE, q_runEK_rt, q_runEK_rn, q_runEK_nx, q_runEK_ex, q_eLiftE, q_eqBl, q_neBl, q_toDu, q_flu, q_sloU, q_iKeysD, q_keysD0, q_keysD0l, q_keysD0s, q_pairsD0, q_popM, q_popK, q_exvM, q_exvD, q_exvK, q_listKF, q_sumL, q_asLF, q_asLK, q_tput, q_tputK, q_inT, q_inTK, q_keysI1, q_keys2s, q_keys2i, q_keys2ii, q_celK, q_okE_ok, q_okE_ex, q_sxSet, q_sxSetK_ok, q_sxSetK_ex, q_axNil, q_axCons, q_axConsK_ok, q_axConsK_ex, q_axConsK2_ok, q_axConsK2_ex, q_eIfE, q_forX, q_forRX, q_noxE, q_noxEK, q_sxPar, q_sxParK_ok, q_cut2, q_cut3, eq_self, cnd_dt, cnd_df, Int.toNat_natCast, lenF_str, modD_int, divD_int, addD_str, addD_lst, slD_str, revD_str, ixD_str, ixD_str1, ixD_strmod, rng1_int, rng2_int, mulD_intl, mulD_intr, intF_dig])
section
variable {t : List Nat} {r : Nat}
theorem goS_ok (hr : r ≤ 2) {k : Nat} {row : Tx} {ps : List Tx} (hk : row.length ≤ k) : ∀ (cs : List Nat) (L L' : Lv), LvOk r (k + 1) L → goS t r row ps cs L = .inr L' → LvOk r (k + 1) L'
  | [], L, L', ok, h => by
    cases h
    exact ok
  | c :: cs, L, L', ok, h => by
    unfold goS at h
    split at h
    · cases h
    · refine goS_ok hr hk cs _ _ ?_ h
      split
      · exact ok
      · have new : ∀ p ∈ L ++ [(row ++ [c], aftL t r ps c)], p ∈ L ∨ p = (row ++ [c], aftL t r ps c) := fun p hp => by
          rw [List.mem_append, List.mem_singleton] at hp
          exact hp
        refine ⟨fun p hp => ?_, fun p hp => ?_, fun p hp => ?_⟩
        · rcases new p hp with h | rfl
          · exact ok.pin p h
          · exact aft_in
        · rcases new p hp with h | rfl
          · exact ok.pln p h
          · exact aft_len hr
        · rcases new p hp with h | rfl
          · exact ok.row p h
          · show (row ++ [c]).length ≤ k + 1
            rw [List.length_append, List.length_singleton]
            omega
theorem goR_ok (hr : r ≤ 2) {k : Nat} : ∀ (lv : Lv) (L L' : Lv), LvOk r k lv → LvOk r (k + 1) L → goR t r lv L = .inr L' → LvOk r (k + 1) L' ∧ L'.length ≤ L.length + 4 * lv.length
  | [], L, L', _, ok, h => by
    cases h
    exact ⟨ok, by rw [List.length_nil]; omega⟩
  | p :: lv, L, L', lo, ok, h => by
    unfold goR at h
    split at h
    · cases h
    · rename_i L1 e
      have sl := sigs_len hr
      have gl := goS_len _ _ _ e
      obtain ⟨h1, h2⟩ := goR_ok hr lv L1 L' ⟨fun p h => lo.pin p (List.mem_cons_of_mem _ h), fun p h => lo.pln p (List.mem_cons_of_mem _ h), fun p h => lo.row p (List.mem_cons_of_mem _ h)⟩ (goS_ok hr (lo.row p List.mem_cons_self) _ _ _ ok e) h
      rw [List.length_cons]
      exact ⟨h1, by omega⟩
def goO (t : List Nat) (r : Nat) : Nat → Lv → Option Tx
  | 0, _ => none
  | n + 1, lv => match goR t r lv [] with
    | .inl x => some x
    | .inr L' => goO t r n L'
def bodyO : Env2 → M Out := (unpM (bTup 2 (bCons (bName 2) (bCons (bName 1) bNil))) [0, 1] (eCall R_a_sign_longer (aC (rdEnv 0) (aC (rdEnv 1) aN))))
theorem row_loop (ht : BinT t) (hr : r ≤ 2) {x : Tx} : ∀ (n : Nat) (lv : Lv) (k fuel : Nat) (s1 : Option DL.Slot), s1 = some (.own (lvL lv)) ∨ s1 = some (.val (.lst (lvL lv))) → LvOk r k lv → k + n ≤ 1000 → lv.length * 4 ^ n ≤ 20000 → goO t r n lv = some x → n < fuel → Ev (whileM [2] (t2 (isD false) (rdEnv 2) (cst .non)) bodyO fuel [some (.val (rul t r)), s1, some (.val .non)]) fun o => ∃ s1, o = .nx [some (.val (rul t r)), s1, some (.val (.str x))]
  | 0, _, _, _, _, _, _, _, _, h, _ => nomatch h
  | n + 1, lv, k, 0, s1, _, _, _, _, _, hf => absurd hf (Nat.not_lt_zero _)
  | n + 1, lv, k, fuel + 1, s1, hs, ok, hk, hl, h, hf => by
    have p1 : 1 ≤ 4 ^ n := Nat.pos_of_ne_zero (by simp)
    have hl2 : lv.length * 4 * 4 ^ n ≤ 20000 := by rw [Nat.mul_assoc, Nat.mul_comm 4, ← Nat.pow_succ]; exact hl
    have hl3 : lv.length * 4 ≤ 20000 := Nat.le_trans (by have := Nat.mul_le_mul_left (lv.length * 4) p1; omega) hl2
    have as_ := a_sign_longer_is ht hr (show k ≤ 1000 by omega) ok (by omega)
    unfold goO at h
    rw [q_whileM]
    unfold bodyO
    walk_at "ev9"
    obtain ⟨fuel, rfl⟩ : ∃ f, fuel = f + 1 := ⟨fuel - 1, by omega⟩
    rcases hs with rfl | rfl
    · walk_at "ev9"
      rw [as_]
      cases e : goR t r lv [] with
      | inl y =>
        simp only [e] at h
        obtain rfl := Option.some.inj h
        walk_at "ev9"
        rw [q_whileM]
        walk_at "ev9"
        exact Ev.ret ⟨_, rfl⟩
      | inr L' =>
        simp only [e] at h
        obtain ⟨g1, g2⟩ := goR_ok hr lv [] L' ok ⟨fun p h => (nomatch h), fun p h => (nomatch h), fun p h => (nomatch h)⟩ e
        rw [List.length_nil] at g2
        walk_at "ev9"
        exact row_loop ht hr n L' (k + 1) (fuel + 1) _ (.inr rfl) g1 (by omega) (Nat.le_trans (Nat.mul_le_mul_right (4 ^ n) (show L'.length ≤ lv.length * 4 by omega)) hl2) h (by omega)
    · walk_at "ev9"
      rw [as_]
      cases e : goR t r lv [] with
      | inl y =>
        simp only [e] at h
        obtain rfl := Option.some.inj h
        walk_at "ev9"
        rw [q_whileM]
        walk_at "ev9"
        exact Ev.ret ⟨_, rfl⟩
      | inr L' =>
        simp only [e] at h
        obtain ⟨g1, g2⟩ := goR_ok hr lv [] L' ok ⟨fun p h => (nomatch h), fun p h => (nomatch h), fun p h => (nomatch h)⟩ e
        rw [List.length_nil] at g2
        walk_at "ev9"
        exact row_loop ht hr n L' (k + 1) (fuel + 1) _ (.inr rfl) g1 (by omega) (Nat.le_trans (Nat.mul_le_mul_right (4 ^ n) (show L'.length ≤ lv.length * 4 by omega)) hl2) h (by omega)
def lv0 (r : Nat) : Lv := [([], allS (sigs r) 2)]
theorem lv0_ok (hr : r ≤ 2) : LvOk r 0 (lv0 r) := by
  refine ⟨fun p hp => ?_, fun p hp => ?_, fun p hp => ?_⟩ <;> rw [List.mem_singleton.mp hp]
  · exact fun w h => h
  · exact pairs_few hr
  · exact Nat.le_refl _
theorem orphan_row_is (ht : BinT t) (hr : r ≤ 2) (h1 : t ≠ [49, 49, 49, 49]) {n : Nat} {x : Tx} (h : goO t r n (lv0 r) = some x) (hn : n ≤ 7) : R_orphan_row [rul t r] = M.ret (.str x) := by
  have p4 : 4 ^ n ≤ 4 ^ 7 := Nat.pow_le_pow_right (by decide) hn
  have key := row_loop ht hr n (lv0 r) 0 1000000 (some (.own (lvL (lv0 r)))) (.inl rfl) (lv0_ok hr) (by omega) (by show 1 * 4 ^ n ≤ _; omega) h (by omega)
  simp only [R_orphan_row, F_orphan_row]
  walk_at "ev9"
  rw [pairs_of_is hr]
  walk_at "ev9"
  refine Ev.eq (Ev.bind key ?_)
  rintro o ⟨s1, rfl⟩
  walk_at "ev9"
  exact Ev.ret rfl
theorem orphan_none (hr : r ≤ 2) : R_orphan_row [rul [49, 49, 49, 49] r] = M.ret .non := by
  simp only [R_orphan_row, F_orphan_row]
  walk_at "ev9"
end
section
variable {t : List Nat} {r : Nat}
def aftF (t : List Nat) (r : Nat) (ps : List Tx) (row : Tx) : List Tx := row.foldl (aftL t r) ps
theorem aftF_app (ps : List Tx) (a b : Tx) : aftF t r ps (a ++ b) = aftF t r (aftF t r ps a) b := List.foldl_append
theorem aftF_in : ∀ (row : Tx) (ps : List Tx), (∀ p ∈ ps, p ∈ allS (sigs r) 2) → ∀ p ∈ aftF t r ps row, p ∈ allS (sigs r) 2
  | [], ps, h => h
  | c :: row, ps, h => aftF_in row _ aft_in
theorem aftF_len (hr : r ≤ 2) : ∀ (row : Tx) (ps : List Tx), ps.length ≤ 16 → (aftF t r ps row).length ≤ 16
  | [], ps, h => h
  | c :: row, ps, h => aftF_len hr row _ (aft_len hr)
theorem aftF_nil : ∀ (row : Tx), aftF t r [] row = []
  | [] => rfl
  | c :: row => by
    show aftF t r (aftL t r [] c) row = []
    have : aftL t r [] c = [] := List.filter_eq_nil_iff.mpr fun w _ => by simp
    rw [this, aftF_nil row]
abbrev pairsA (r : Nat) : List Tx := allS (sigs r) 2
theorem rowL_cons (a b c : Nat) (u : Tx) : rowL t r (a :: b :: c :: u) = sgn t r a b c :: rowL t r (b :: c :: u) := by
  unfold rowL
  show (List.range (u.length + 1)).map _ = _
  rw [List.range_succ_eq_map, List.map_cons, List.map_map]
  rfl
theorem aft_run : ∀ (u : Tx) (a b : Nat) (ps : List Tx), [a, b] ∈ ps → (∀ c ∈ a :: b :: u, c ∈ sigs r) → aftF t r ps (rowL t r (a :: b :: u)) ≠ []
  | [], a, b, ps, h, _ => by
    intro e
    rw [show aftF t r ps (rowL t r [a, b]) = ps from rfl] at e
    rw [e] at h
    cases h
  | c :: u, a, b, ps, h, hs => by
    rw [rowL_cons]
    refine aft_run u b c (aftL t r ps (sgn t r a b c)) ?_ fun d hd => hs d (List.mem_cons_of_mem _ hd)
    unfold aftL
    rw [List.mem_filter, List.any_eq_true]
    refine ⟨mem_two.mpr ⟨b, c, rfl, hs b (by simp), hs c (by simp)⟩, [a, b], h, ?_⟩
    rw [Bool.and_eq_true, decide_eq_true_iff, decide_eq_true_iff]
    exact ⟨rfl, rfl⟩
theorem row_no_orph {u : Tx} (h : 2 ≤ u.length) (hs : ∀ c ∈ u, c ∈ sigs r) : aftF t r (pairsA r) (rowL t r u) ≠ [] := by
  match u, h, hs with
  | a :: b :: u, _, hs => exact aft_run u a b _ (mem_two.mpr ⟨a, b, rfl, hs a (by simp), hs b (by simp)⟩) hs
  | [_], h, _ => exact absurd h (by show ¬ 2 ≤ 1; omega)
  | [], h, _ => exact absurd h (by show ¬ 2 ≤ 0; omega)
theorem is_orphan_row_is (ht : BinT t) (hr : r ≤ 2) {row : Tx} (hz : row.length ≤ 1000) : R_is_orphan_row [rul t r, .str row] = M.ret (.bl (decide (aftF t r (pairsA r) row = []))) := by
  have p16 := pairs_few hr
  simp only [R_is_orphan_row, F_is_orphan_row]
  walk_at "ev8"
  rw [pairs_of_is hr]
  walk_at "ev8"
  refine Ev.eq (ev_loop (fun i ρ => ∃ s3, ρ = [some (.val (rul t r)), some (.val (.str row)), some (.own ((aftF t r (pairsA r) (row.take i)).map D.str)), s3]) ⟨_, rfl⟩ ?_ ?_)
  · rintro i d ρ hd ⟨s3, rfl⟩
    obtain ⟨c, hv, rfl⟩ := get_map hd
    have tk : row.take (i + 1) = row.take i ++ [c] := by rw [List.take_add_one, hv]; rfl
    have pin := aftF_in (t := t) (row.take i) (pairsA r) fun p h => h
    have pln := aftF_len (t := t) hr (row.take i) (pairsA r) p16
    rw [tk, aftF_app]
    generalize aftF t r (pairsA r) (row.take i) = ps at pin pln
    refine ⟨_, rfl, ?_⟩
    walk_at "env2"
    walk_at "ev8"
    rw [pairs_after_is ht hr pin pln]
    walk_at "ev8"
    exact Ev.ret ⟨_, .inl rfl, _, rfl⟩
  · rintro ρ ⟨s3, rfl⟩
    rw [List.length_map, List.take_length]
    walk_at "ev8"
    rw [eq_nil (aftF_in row (pairsA r) fun p h => h) (aftF_len hr row (pairsA r) p16)]
    walk_at "ev8"
    exact Ev.ret rfl
end
section
variable {t : List Nat} {r : Nat}
abbrev mad (t : List Nat) (r : Nat) : D := .tup [.str t, .int (r : Int)]
abbrev kkD (K : List Tx) : D := dT D.bl (keyT K)
theorem my_signs_is (hr : r ≤ 2) : R__law_my_signs [mad t r] = M.ret (.str (sigs r)) := by
  simp only [R__law_my_signs, F__law_my_signs]
  walk_at "ev8"
  have : r = 0 ∨ r = 1 ∨ r = 2 := by omega
  rcases this with rfl | rfl | rfl <;> rfl
theorem row3 (a b c : Nat) : rowL t r [a, b, c] = [sgn t r a b c] := rfl
theorem kkD_keys (K : List Tx) : ((keyT K).map fun p => D.str p.1) = K.map D.str := by
  unfold keyT
  rw [List.map_map]
  rfl
theorem law_pairs_on_is (ht : BinT t) (hr : r ≤ 2) {ps : List Tx} {s : Nat} (hp : ∀ p ∈ ps, p ∈ allS (sigs r) 2) (hz : ps.length ≤ 16) : R__law_pairs_on_2 [mad t r, kkD ps, .str [s]] = M.ret (kkD (ps.foldl (foldP t r s) [])) := by
  have sl := sigs_len hr
  have kz : (keyT ps).length = ps.length := List.length_map _
  simp only [R__law_pairs_on_2, F__law_pairs_on_2]
  walk_at "ev8"
  rw [kkD_keys]
  refine Ev.eq (ev_loop (fun i ρ => ∃ s4 s5, ρ = [some (.val (mad t r)), some (.val (kkD ps)), some (.val (.str [s])), some (.tr (oT D.bl (keyT ((ps.take i).foldl (foldP t r s) [])))), s4, s5]) ⟨_, _, rfl⟩ ?_ ?_)
  · rintro i d ρ hd ⟨s4, s5, rfl⟩
    obtain ⟨p, hv, rfl⟩ := get_map hd
    have hm := hp p (List.mem_of_getElem? hv)
    have nd := outer_nd (t := t) (r := r) (s := s) (ps.take i) List.nodup_nil
    have tk : ps.take (i + 1) = ps.take i ++ [p] := by rw [List.take_add_one, hv]; rfl
    rw [tk, List.foldl_append]
    generalize hK : (ps.take i).foldl (foldP t r s) [] = K at nd
    have Kin : ∀ k ∈ K, k ∈ allS (sigs r) 2 := fun k hk => by
      rw [← hK] at hk
      rcases (outer_mem _ _).mp hk with h | ⟨p, h1, c, h2, _, rfl⟩
      · cases h
      · obtain ⟨a, b, rfl, ha, hb⟩ := mem_two.mp (hp p (List.mem_of_mem_take h1))
        exact mem_two.mpr ⟨_, _, rfl, hb, h2⟩
    obtain ⟨a, b, rfl, ha, hb⟩ := mem_two.mp hm
    refine ⟨_, rfl, ?_⟩
    walk_at "env2"
    walk_at "ev8"
    rw [my_signs_is hr]
    walk_at "ev8"
    refine ev_loopZ (fun j ρ => ∃ s5, ρ = [some (.val (mad t r)), some (.val (kkD ps)), some (.val (.str [s])), some (.tr (oT D.bl (keyT (((sigs r).take j).foldl (fun K c => if sgn t r a b c = s then addK K [b, c] else K) K)))), some (.val (.str [a, b])), s5]) ⟨_, rfl⟩ ?_ ?_
    · rintro j d ρ hd ⟨s5, rfl⟩
      obtain ⟨c, hv, rfl⟩ := get_map hd
      have hcs := List.mem_of_getElem? hv
      have tk : (sigs r).take (j + 1) = (sigs r).take j ++ [c] := by rw [List.take_add_one, hv]; rfl
      rw [tk, List.foldl_append]
      have nd2 := fold_nd (fun c => sgn t r a b c = s) (fun c => [b, c]) ((sigs r).take j) nd
      have In2 : ∀ k ∈ ((sigs r).take j).foldl (fun K c => if sgn t r a b c = s then addK K [b, c] else K) K, k ∈ allS (sigs r) 2 := fun k hk => by
        rcases (fold_mem (fun c => sgn t r a b c = s) (fun c => [b, c]) _ _).mp hk with h | ⟨c, h1, _, rfl⟩
        · exact Kin k h
        · exact mem_two.mpr ⟨_, _, rfl, hb, List.mem_of_mem_take h1⟩
      generalize ((sigs r).take j).foldl (fun K c => if sgn t r a b c = s then addK K [b, c] else K) K = L at nd2 In2
      have L16 : L.length ≤ 16 := Nat.le_trans (nodup_bound nd2 In2) (pairs_few hr)
      have sr := sigs_sg (x := [a, b, c]) (r := r) (fun e he => by
        simp only [List.mem_cons, List.not_mem_nil, or_false] at he
        rcases he with rfl | rfl | rfl
        · exact ha
        · exact hb
        · exact hcs) hr
      have li := law_inner_is ht hr (x := [a, b, c]) (by simp) sr
      rw [row3] at li
      refine ⟨_, rfl, ?_⟩
      walk_at "env2"
      walk_at "ev8"
      rw [li]
      walk_at "ev8"
      rw [List.foldl_cons, List.foldl_nil]
      by_cases hc : sgn t r a b c = s
      · rw [if_pos hc, cnd_dt hc]
        walk_at "ev8"
        rw [show [a, b].getD 1 0 = b from rfl]
        walk_at "ev8"
        change Ev (dputK _ 3 (keyD (.str [b, c])) (D.bl true) (some (some (.tr (oT D.bl (keyT L)))))) _
        rw [put_T (f := D.bl) (by rw [List.length_map]; omega), setA_K]
        exact Ev.ret ⟨_, .inl rfl, _, rfl⟩
      · rw [if_neg hc, cnd_df hc]
        walk_at "ev8"
        exact Ev.ret ⟨_, .inl rfl, _, rfl⟩
    · rintro ρ ⟨s5, rfl⟩
      rw [List.length_map, List.take_length]
      exact ⟨_, .inl rfl, _, _, rfl⟩
  · rintro ρ ⟨s4, s5, rfl⟩
    rw [List.length_map, List.take_length]
    walk_at "ev8"
    exact Ev.ret rfl
def lawK (t : List Nat) (r : Nat) (ps : List Tx) (row : Tx) : List Tx := row.foldl (fun K s => K.foldl (foldP t r s) []) ps
theorem aftL_ext {ps qs : List Tx} {s : Nat} (h : ∀ p, p ∈ ps ↔ p ∈ qs) : aftL t r ps s = aftL t r qs s := by
  unfold aftL
  refine List.filter_congr fun w _ => ?_
  refine Bool.eq_iff_iff.mpr ?_
  rw [List.any_eq_true, List.any_eq_true]
  exact exists_congr fun p => and_congr_left' (h p)
theorem sortS_id (r : Nat) : sortS (pairsA r) = pairsA r := pw_ext (sortS_lt (pw_nodup (allS_pw LW.sigs_pw 2))) (allS_pw LW.sigs_pw 2) fun x => (sortS_perm _).mem_iff
theorem lawK_in : ∀ (row : Tx) (K : List Tx), (∀ k ∈ K, k ∈ pairsA r) → ∀ k ∈ lawK t r K row, k ∈ pairsA r
  | [], K, h => h
  | s :: row, K, h => lawK_in row _ fun k hk => by
    rcases (outer_mem _ _).mp hk with h' | ⟨p, h1, c, h2, _, rfl⟩
    · cases h'
    · obtain ⟨a, b, rfl, ha, hb⟩ := mem_two.mp (h p h1)
      exact mem_two.mpr ⟨_, _, rfl, hb, h2⟩
theorem lawK_sort : ∀ (row : Tx) (K F : List Tx), (∀ k ∈ K, k ∈ pairsA r) → sortS K = F → sortS (lawK t r K row) = aftF t r F row
  | [], K, F, h, e => e
  | s :: row, K, F, h, e => by
    refine lawK_sort row _ _ (lawK_in [s] K h) ?_
    rw [aft_is h]
    exact aftL_ext fun p => by rw [← e, (sortS_perm _).mem_iff]
theorem lawK_nd : ∀ (row : Tx) {K : List Tx}, K.Nodup → (lawK t r K row).Nodup
  | [], K, h => h
  | s :: row, K, h => lawK_nd row (outer_nd K List.nodup_nil)
theorem lawK_len (hr : r ≤ 2) (row : Tx) {K : List Tx} (nd : K.Nodup) (h : ∀ k ∈ K, k ∈ pairsA r) : (lawK t r K row).length ≤ 16 := Nat.le_trans (nodup_bound (lawK_nd row nd) (lawK_in row K h)) (pairs_few hr)
end
theorem dictP_T {α : Type} (f : α → D) (L : List (Tx × α)) (nd : (L.map (·.1)).Nodup) (hz : L.length ≤ 4000) : dictPO (prsOf (L.map fun p => .tup [.str p.1, f p.2])) = M.ret (dT f L) := by
  have e1 : ∀ L : List (Tx × α), prsOf (L.map fun p => D.tup [.str p.1, f p.2]) = some (L.map fun p => (D.str p.1, f p.2)) := fun L => by
    induction L with
    | nil => rfl
    | cons w L ih =>
      rw [List.map_cons, prsOf, ih]
      rfl
  have e2 : ∀ L : List (Tx × α), dispD (L.map fun p => (D.str p.1, f p.2)) = some (ksT L, L.map fun p => f p.2) := fun L => by
    induction L with
    | nil => rfl
    | cons w L ih =>
      rw [List.map_cons, dispD, ih]
      rfl
  rw [e1]
  show dictPK (dispD _) = _
  rw [e2]
  show M.guard _ _ = _
  rw [M.guard_of (by
    rw [Bool.and_eq_true]
    refine ⟨decide_eq_true ?_, decide_eq_true (by rw [ksT_len, sizeLine_eq]; omega)⟩
    have := nodup_map_inj (f := kS) nd fun a _ b _ h => kS_inj h
    rw [List.map_map] at this
    exact this)]
  rfl
theorem my_row_after_is {t : List Nat} {r n : Nat} {x : List Nat} (ht : BinT t) (hr : r ≤ 2) (hz : x.length ≤ 10000) (hx : Sg r x) (hn : n ≤ 100000) : R__law_my_row_after [.tup [.str t, .int (r : Int)], .str x, .int (n : Int)] = M.ret (.str (itN (rowL t r) n x)) := by
  simp only [R__law_my_row_after, F__law_my_row_after]
  walk_at "ev8"
  refine Ev.eq (ev_loop (fun i ρ => ∃ s3, ρ = [some (.val (.tup [.str t, .int (r : Int)])), some (.val (.str (itN (rowL t r) i x))), some (.val (.int (n : Int))), s3]) ⟨_, rfl⟩ ?_ ?_)
  · rintro k d ρ hk ⟨s3, rfl⟩
    obtain ⟨hk, rfl⟩ := get_rmap hk
    refine ⟨_, rfl, ?_⟩
    walk_at "env2"
    walk_at "ev8"
    rw [law_inner_is ht hr (by rw [itN_row_len]; omega) (itN_row_sg ht k hx)]
    walk_at "ev8"
    exact Ev.ret ⟨_, .inl rfl, _, by rw [itN_succ]⟩
  · rintro ρ' ⟨s3, rfl⟩
    walk_at "ev8"
    exact Ev.ret (by simp)
section
variable {t : List Nat} {r : Nat}
theorem law_pairs_is (ht : BinT t) (hr : r ≤ 2) {row : Tx} (hz : row.length ≤ 1000) : R__law_pairs_2 [mad t r, .str row] = M.ret (kkD (lawK t r (pairsA r) row)) := by
  have sl := sigs_len hr
  have p16 := pairs_few hr
  have q16 : (pairsA r).length ≤ 16 := p16
  have sn : (pairsA r).Nodup := pw_nodup (allS_pw LW.sigs_pw 2)
  simp only [R__law_pairs_2, F__law_pairs_2]
  walk_at "ev8"
  rw [my_signs_is hr]
  walk_at "ev8"
  rw [show (2 : Int) = ((2 : Nat) : Int) from rfl, my_all_is (by omega) (by omega) (by omega) (by rw [sl]; exact Nat.le_trans (Nat.pow_le_pow_left (show r + 2 ≤ 4 by omega) 2) (by decide))]
  walk_at "ev8"
  unfold strL
  rw [compM_mapI (l := fun w : Tx => [(5, D.str w)]) (y := fun w : Tx => D.tup [.str w, .bl true]) (inj := D.str) (xs := pairsA r) fun w hw => ⟨rfl, by walk_at "ev8", by walk_at "ev8"⟩]
  walk_at "ev8"
  have dp := dictP_T D.bl (keyT (pairsA r)) (by rw [keyT_keys]; exact sn) (by rw [List.length_map]; omega)
  unfold keyT at dp
  rw [List.map_map] at dp
  rw [show dictPO (prsOf ((pairsA r).map fun w => D.tup [.str w, .bl true])) = M.ret (kkD (pairsA r)) from dp]
  walk_at "ev8"
  refine Ev.eq (ev_loop (fun i ρ => ∃ s2 s4 s5, ρ = [some (.val (mad t r)), some (.val (.str row)), s2, some (.val (kkD (lawK t r (pairsA r) (row.take i)))), s4, s5]) ⟨_, _, _, rfl⟩ ?_ ?_)
  · rintro i d ρ hd ⟨s2, s4, s5, rfl⟩
    obtain ⟨c, hv, rfl⟩ := get_map hd
    have tk : row.take (i + 1) = row.take i ++ [c] := by rw [List.take_add_one, hv]; rfl
    have kin := lawK_in (t := t) (row.take i) (pairsA r) fun p h => h
    have kln := lawK_len (t := t) hr (row.take i) sn fun p h => h
    rw [tk, show lawK t r (pairsA r) (row.take i ++ [c]) = (lawK t r (pairsA r) (row.take i)).foldl (foldP t r c) [] from List.foldl_append]
    generalize lawK t r (pairsA r) (row.take i) = K at kin kln
    refine ⟨_, rfl, ?_⟩
    walk_at "env2"
    walk_at "ev8"
    rw [law_pairs_on_is ht hr kin kln]
    walk_at "ev8"
    exact Ev.ret ⟨_, .inl rfl, _, _, _, rfl⟩
  · rintro ρ ⟨s2, s4, s5, rfl⟩
    rw [List.length_map, List.take_length]
    walk_at "ev8"
    exact Ev.ret rfl
theorem lawK_aft (row : Tx) : sortS (lawK t r (pairsA r) row) = aftF t r (pairsA r) row := lawK_sort row _ _ (fun p h => h) (sortS_id r)
theorem lawK_nil (row : Tx) : lawK t r (pairsA r) row = [] ↔ aftF t r (pairsA r) row = [] := by
  rw [← lawK_aft, ← List.length_eq_zero_iff, ← List.length_eq_zero_iff, (sortS_perm _).length_eq]
theorem aft_back : ∀ (row : Tx) {ps : List Tx} (_ : ∀ p ∈ ps, p ∈ pairsA r) {w : Tx}, w ∈ aftF t r ps row → ∃ p ∈ ps, ∃ u : Tx, u.length = row.length ∧ (∀ c ∈ u, c ∈ sigs r) ∧ rowL t r (p ++ u) = row
  | [], ps, hp, w, h => ⟨w, h, [], rfl, fun c hc => (nomatch hc), by
    obtain ⟨a, b, rfl, ha, hb⟩ := mem_two.mp (hp w h)
    rfl⟩
  | s :: row, ps, hp, w, h => by
    obtain ⟨q, hq, u, h1, h2, h3⟩ := aft_back row (fun p h => aft_in p h) (show w ∈ aftF t r (aftL t r ps s) row from h)
    unfold aftL at hq
    rw [List.mem_filter, List.any_eq_true] at hq
    obtain ⟨hq, p, hps, hc⟩ := hq
    rw [Bool.and_eq_true, decide_eq_true_iff, decide_eq_true_iff] at hc
    obtain ⟨a, b, rfl, ha, hb⟩ := mem_two.mp (hp p hps)
    obtain ⟨b', c, rfl, hb', hcs⟩ := mem_two.mp hq
    obtain ⟨e1, e2⟩ := hc
    have e1 : b = b' := e1
    subst e1
    refine ⟨_, hps, c :: u, by rw [List.length_cons, List.length_cons, h1], fun d hd => ?_, ?_⟩
    · rcases List.mem_cons.mp hd with rfl | hd
      · exact hcs
      · exact h2 d hd
    · show rowL t r (a :: b :: c :: u) = _
      rw [rowL_cons]
      rw [show rowL t r (b :: c :: u) = row from h3, show sgn t r a b c = s from e2]
theorem by_all_no {row : Tx} : (allS (sigs r) (row.length + 2)).filter (fun w => decide (rowL t r w = row)) = [] ↔ aftF t r (pairsA r) row = [] := by
  constructor
  · intro h
    cases e : aftF t r (pairsA r) row with
    | nil => rfl
    | cons w l =>
      obtain ⟨p, hp, u, h1, h2, h3⟩ := aft_back row (fun p h => h) (show w ∈ aftF t r (pairsA r) row by rw [e]; exact List.mem_cons_self)
      obtain ⟨a, b, rfl, ha, hb⟩ := mem_two.mp hp
      refine absurd (show [a, b] ++ u ∈ (allS (sigs r) (row.length + 2)).filter (fun w => decide (rowL t r w = row)) from List.mem_filter.mpr ⟨mem_allS.mpr ⟨by simp [h1], fun c hc => ?_⟩, decide_eq_true h3⟩) (by rw [h]; exact List.not_mem_nil)
      simp only [List.cons_append, List.nil_append, List.mem_cons] at hc
      rcases hc with rfl | rfl | hc
      · exact ha
      · exact hb
      · exact h2 c hc
  · intro h
    refine List.filter_eq_nil_iff.mpr fun w hw e => ?_
    obtain ⟨h1, h2⟩ := mem_allS.mp hw
    rw [decide_eq_true_iff] at e
    have := row_no_orph (t := t) (r := r) (u := w) (by omega) h2
    rw [e] at this
    exact this h
theorem eq_nilG {F : List Tx} {neg : Bool} (h : ∀ w ∈ F, w.length ≤ 8 ∧ ∀ c ∈ w, c ∈ sigs r) (hl : F.length ≤ 20000) : eqD neg (D.lst (F.map D.str)) (D.lst []) = M.ret (.bl (if neg then !decide (F = []) else decide (F = []))) := by
  rw [eqD_nil neg (okA_lst (k := 0) (w := 100) (fun d hd => by
    obtain ⟨w, hw, rfl⟩ := List.mem_map.mp hd
    have hm := h w hw
    refine (Okd.str ?_).mono (by omega) (by omega)
    rw [List.all_eq_true]
    intro c hc
    have := sigs_lt (hm.2 c hc)
    exact decide_eq_true (by omega)) (by decide) (by rw [List.length_map]; omega))]
  cases neg <;> cases F <;> rfl
theorem law_by_all_is (ht : BinT t) (hr : r ≤ 2) {row : Tx} (h : row.length + r ≤ 4) : R__law_by_all [mad t r, .str row] = M.ret (.bl (decide (aftF t r (pairsA r) row = []))) := by
  have sl := sigs_len hr
  have pz : (r + 2) ^ (row.length + 2) ≤ 256 := by
    have : r = 0 ∨ r = 1 ∨ r = 2 := by omega
    rcases this with rfl | rfl | rfl
    · exact Nat.le_trans (Nat.pow_le_pow_right (by decide) (show row.length + 2 ≤ 6 by omega)) (by decide)
    · exact Nat.le_trans (Nat.pow_le_pow_right (by decide) (show row.length + 2 ≤ 5 by omega)) (by decide)
    · exact Nat.le_trans (Nat.pow_le_pow_right (by decide) (show row.length + 2 ≤ 4 by omega)) (by decide)
  have fl : ((allS (sigs r) (row.length + 2)).filter fun w => decide (rowL t r w = row)).length ≤ 256 := Nat.le_trans (List.length_filter_le _ _) (by rw [allS_len, sl]; exact pz)
  simp only [R__law_by_all, F__law_by_all]
  walk_at "ev8"
  rw [my_signs_is hr]
  walk_at "ev8"
  rw [show (row.length : Int) + 2 = ((row.length + 2 : Nat) : Int) by omega, my_all_is (by omega) (by omega) (by omega) (by rw [sl]; omega)]
  walk_at "ev8"
  unfold strL
  rw [compM_filterI (l := fun w : Tx => [(3, D.str w)]) (k := fun w => decide (rowL t r w = row)) (y := D.str) (xs := allS (sigs r) (row.length + 2)) (fun w hw => by
    obtain ⟨w1, w2⟩ := mem_allS.mp hw
    refine ⟨rfl, ?_, by walk_at "ev8"⟩
    walk_at "ev8"
    rw [show (1 : Int) = ((1 : Nat) : Int) from rfl, my_row_after_is ht hr (by omega) (sigs_sg w2 hr) (by omega)]
    walk_at "ev8"
    rfl)]
  have key := by_all_no (t := t) (r := r) (row := row)
  have fin : ∀ w ∈ (allS (sigs r) (row.length + 2)).filter (fun w => decide (rowL t r w = row)), w.length ≤ 8 ∧ ∀ c ∈ w, c ∈ sigs r := fun w hw => by
    obtain ⟨w1, w2⟩ := mem_allS.mp (List.mem_filter.mp hw).1
    exact ⟨by omega, w2⟩
  generalize (allS (sigs r) (row.length + 2)).filter (fun w => decide (rowL t r w = row)) = G at fl key fin ⊢
  walk_at "ev8"
  rw [eq_nilG fin (by omega)]
  walk_at "ev8"
  simp only [key, if_false, Bool.false_eq_true]
end
theorem q_lXK_nx (next : Env2 → M OutE) (ρ : Env2) : loopXK next (.o (.nx ρ)) = next ρ := rfl
theorem q_lXK_rn (next : Env2 → M OutE) (d : List D) : loopXK next (.o (.rn d)) = M.ret (.o (.rn d)) := rfl
local macro_rules | `(tactic| walk_at "ev10") => `(tactic| try simp -implicitDefEqProofs -dsimp (disch := walk_at "dis") only [call_is, dB_flat, dT_flat, disp11, getI, getL, inF_T, ixB, keysB, keys_T, listK_T, oT_toD, pairs_T, q_lXK_nx, q_lXK_rn, q_newDTC, q_sxTput, q_tInTC, q_whileXK_nx, rule_signs, ↓q_seq, ↓q_seqK_nx, ↓q_seqK_rt, ↓q_seqK_rn, ↓q_seqK_bk, ↓q_seqK_ct, ↓q_runD, ↓q_runN, q_runK_rt, q_runK_rn, q_runK_nx, q_runKN_rn, ↓q_set, ↓q_setN, ↓q_ret, ↓q_retN, ↓q_if, ↓q_unp, q_unpK, ↓q_app, q_appK, q_guard, ↓q_for, ↓q_forR, q_loopK_nx, q_loopK_ct, q_loopK_bk, q_loopK_rt, q_loopK_rn, ↓q_sNil, ↓q_e2, ↓q_t2, ↓q_e1, ↓q_cst, ↓q_aN, ↓q_aC, ↓q_call, ↓q_callN, ↓q_eN, ↓q_nLst, q_lstK, ↓q_eTup, q_tupK, ↓q_tVal, ↓q_tNot, ↓q_tAnd, ↓q_tOr, ↓q_eAnd, ↓q_eNot, ↓q_eIf, ↓q_iAny, ↓q_iRg1, ↓q_iEnum, ↓q_nLc, ↓q_cT, ↓q_oN, ↓q_oS, ↓q_eSl, ↓q_eChain, ↓q_tBl, ↓q_eMake, ↓q_eMeth, ↓q_iSeq, q_selK, q_self, ↓q_iTwoS, q_two2s, ↓q_nLc2, q_inE, q_notInE, q_is_non, q_is_str, q_is_int, q_is_tup, q_is_lst, q_isnt_non, q_isnt_str, q_isnt_int, q_isnt_tup, q_isnt_lst, q_list_l, q_list_t, q_ixF_s, q_ixF_l, q_ixF_t, q_ixF_b, q_inF_s, q_inF_l, q_inF_t, q_lenG_s, q_lenG_l, q_lenG_t, q_lenG_d, q_lenG_dt, ↓q_setD, ↓q_dput, q_dputK, q_keyI, q_keyS, q_seeT, q_toDv, q_toDl, q_toDk, q_toDt, q_toDs0, q_toDs1, q_toDsm, q_fls0, q_fls1, q_flv, q_fll, q_flk, q_flt, q_flsm, q_sloV, q_sloK, q_sloT, q_sloL, q_sloLl, ↓q_oV, ↓q_oL, ↓q_oC, ↓q_oaN, ↓q_oaC, ↓q_parO, q_parOK, q_flatS, q_flatI, q_flatS2, q_mapv0, q_sloL0, bnd_ret, bnd_assoc, bnd_assoc', bnd_r, cnd_t, cnd_f, fail_bnd, bind_bnd, str01, List.cons.injEq, and_true, decide_true, decide_false, cut_toN, cut_fromN, cut_from1N, cut_to1N, cut_to1, cut_to2, cut_to3, cut_from1, cut_toM1, cut_fromM1, DL.startD, List.map_cons, List.map_nil, List.length_cons, List.length_nil, Nat.reduceAdd, Nat.reduceSub, List.replicate, List.cons_append, List.nil_append, view_eq, viewAt_cons, viewAt_nil, List.contains_cons, List.contains_nil, Nat.reduceBEq, Bool.or_true, Bool.or_false, Bool.true_or, Bool.false_or, if_true, Bool.false_eq_true, if_false, Option.map_some, Option.map_none, see_val, see_own, rd_0, rd_1, rd_2, rd_3, rd_4, rd_5, rd_6, rd_7, rd_8, rd_9, Int.reduceToNat, flat_int, flat_str, flat_bl, flat_non, flat_bag, flat_lst, flat_tup, flat_obj, List.all_cons, List.all_nil, Bool.and_true, Bool.true_and, Bool.and_false, Bool.false_and, keepIf_t, keepIf_f, frz_eq, frzAt_cons, frzAt_nil, List.set_cons_succ, List.set_cons_zero, subD_int, addD_int, negD_int, asI_int, asB_bl, truD_bl, lenF_lst, lenF_tup, intF_int, intF_bl, absF_int, ltD_int, leD_int, gtD_int, geD_int, eqD_int, eqD_str, neD_int, neD_str, inD_str, notInD_str, slD_lst, slD_scr, revD_lst, itemsD_lst, itemsD_tup, itemsD_str, Bool.not_true, Bool.not_false, ixD_l, ixD_t, ofSome, atI_0, atI_1, atI_2, atI_3, atI_4, atI_app, slotD_obj, propD_obj, propN_obj, isC_obj, get0, get1, get2, get3, getS, bName_eq, bTup_eq, bCons_eq, bNil_eq, setAll2_cons, setAll2_nil, setAllD_cons, setAllD_nil, wipeD_cons, wipeD_nil, isi_str_str, isi_int_int, isi_bool_int, List.getElem?_cons_zero, List.getElem?_cons_succ, q_flat_dct, q_flat_dcT, q_isB, q_isntB, q_n2, q_cndN, q_szL, q_sloL1, q_sloL2, q_sloL3, q_c0, q_c1, q_c2, q_c3, q_c4, q_c5, q_c6, q_c7, q_c8, q_c9, q_c10, q_c11, q_c12, q_c13, q_c14, q_c15, q_c16, q_getF2, q_e3D, q_dictPF, q_guardT, q_liftE, q_liftK, q_seqE, q_seqEK_nx, q_seqEK_rt, q_seqEK_rn, q_seqEK_ex, q_ifE, q_eCallE, q_runE, q_runEK_rt, q_runEK_rn, q_runEK_nx, q_runEK_ex, q_eLiftE, q_eqBl, q_neBl, q_toDu, q_flu, q_sloU, q_iKeysD, q_keysD0, q_keysD0l, q_keysD0s, q_pairsD0, q_popM, q_popK, q_exvM, q_exvD, q_exvK, q_listKF, q_sumL, q_asLF, q_asLK, q_tput, q_tputK, q_inT, q_inTK, q_keysI1, q_keys2s, q_keys2i, q_keys2ii, q_celK, q_okE_ok, q_okE_ex, q_sxSet, q_sxSetK_ok, q_sxSetK_ex, q_axNil, q_axCons, q_axConsK_ok, q_axConsK_ex, q_axConsK2_ok, q_axConsK2_ex, q_eIfE, q_forX, q_forRX, q_noxE, q_noxEK, q_sxPar, q_sxParK_ok, q_cut2, q_cut3, eq_self, cnd_dt, cnd_df, Int.toNat_natCast, lenF_str, modD_int, divD_int, addD_str, addD_lst, slD_str, revD_str, ixD_str, ixD_str1, ixD_strmod, rng1_int, rng2_int, mulD_intl, mulD_intr, intF_dig])
section
variable {p : Addr} {st : List Cell} {t : List Nat} {r k : Nat}
theorem loopX_cons {bs : D → Option (List (Nat × D))} {body : Env2 → M OutE} {x : D} {xs : List D} {l : List (Nat × D)} {ρ : Env2} (e : bs x = some l) : loopX bs body (x :: xs) ρ = bnd (body (setAll2 ρ l)) (loopXK (loopX bs body xs)) := by
  rw [loopX, e]
  rfl
theorem ts_dT {α : Type} {Q : α → List Cell → Prop} {ks : List (List L2.Key)} {xs : List D} {κ : List (List L2.Key) × List D → M α} {t : Tg κ} (h : st[k]? = some (.dT ks xs)) (q : TotS p st (κ (ks, xs)) Q) : TotS p st (bnd (cDT k) κ t) Q :=
  ts_see (TotS.bind (ts_celG h) fun x st' ⟨e, hx⟩ => by rw [hx, e]; exact TotS.ret ⟨rfl, rfl⟩) q
abbrev dcell (L : Lv) : Cell := .dT (L.map fun p => kkS p.2) (L.map fun _ => D.bl true)
theorem tput_new {F : List Tx} {L : Lv} (h : F ∉ L.map (·.2)) (hl : L.length < 16777216) (x : Tx) : tputXK k (L.map fun p => kkS p.2, L.map fun _ => D.bl true) (.bl true) (some (kkS F)) = celS k (dcell (L ++ [(x, F)])) := by
  have nk : kkS F ∉ L.map fun p => kkS p.2 := fun z => by
    obtain ⟨p, hp, e⟩ := List.mem_map.mp z
    exact h (kkS_inj e ▸ List.mem_map_of_mem hp)
  show M.guard (decide ((L.map fun p => kkS p.2).length < sizeLine) && D.noc (.bl true)) (celS k (.dT (setKs (L.map fun p => kkS p.2) (kkS F)) (setVs (L.map fun p => kkS p.2) (L.map fun _ => D.bl true) (kkS F) (.bl true)))) = _
  rw [M.guard_of (by rw [Bool.and_eq_true]; exact ⟨decide_eq_true (by rw [List.length_map, sizeLine_eq]; exact hl), rfl⟩), setKs_new nk, setVs_new nk]
  unfold dcell
  rw [List.map_append, List.map_append]
  rfl
theorem sorted_kkD (K : List Tx) : sortedDF [kkD K] = M.ret ((sortS K).map D.str) := by
  have := sortedDF_texts K ((keyT K).map fun p => D.bl p.2)
  show sortedDF [.dct (ksT (keyT K)) ((keyT K).map fun p => D.bl p.2)] = _
  rw [← this, show ksT (keyT K) = K.map kS by unfold ksT keyT; rw [List.map_map]; rfl]
def lwS (t : List Nat) (r : Nat) (row : Tx) : List Nat → List Tx → Lv → List Tx × Lv × Option Tx
  | [], f, m => (f, m, none)
  | c :: cs, f, m => if aftF t r (pairsA r) (row ++ [c]) = [] then (f, m, some (row ++ [c])) else if aftF t r (pairsA r) (row ++ [c]) ∈ m.map (·.2) then lwS t r row cs f m else lwS t r row cs (f ++ [row ++ [c]]) (m ++ [(row ++ [c], aftF t r (pairsA r) (row ++ [c]))])
def lwR (t : List Nat) (r : Nat) : List Tx → List Tx → Lv → List Tx × Lv × Option Tx
  | [], f, m => (f, m, none)
  | row :: rows, f, m => match lwS t r row (sigs r) f m with
    | (f', m', some x) => (f', m', some x)
    | (f', m', none) => lwR t r rows f' m'
def bodyL : Env2 → M OutE :=
  (seqE (liftE (setNM 6 [0, 4, 5] (nCall sortedDF (aC (eCall R__law_pairs_2 (aC (rdEnv 0) (aC (e2 addD (rdEnv 4) (rdEnv 5)) aN))) aN))))
  (seqE (liftE (ifM [6] (t2 (eqD false) (rdEnv 6) (eN (nLst aN)))
  (retNM [3, 4, 5] (nLst (aC (rdEnv 3) (aC (e2 addD (rdEnv 4) (rdEnv 5)) aN))))
  sNil))
  (ifE [2, 6] (tInTC true (asLF (rdEnv 6)) (rdEnv 2))
  (seqE (sxTput [2, 6] (rdEnv 2) (asLF (rdEnv 6)) (cst (.bl true)))
  (liftE (appM 3 [4, 5] (e2 addD (rdEnv 4) (rdEnv 5)))))
  (liftE sNil))))
def envL (t : List Nat) (r k : Nat) (rows : D) (f : List Tx) (s4 s5 s6 : Option DL.Slot) : Env2 := [some (.val (mad t r)), some (.val rows), some (.val (.cel k)), some (.own (f.map D.str)), s4, s5, s6]
theorem lw_len {row : Tx} : ∀ (cs : List Nat) (f f' : List Tx) (m m' : Lv) (o : Option Tx), lwS t r row cs f m = (f', m', o) → f'.length ≤ f.length + cs.length ∧ m'.length ≤ m.length + cs.length
  | [], f, f', m, m', o, h => by
    cases h
    exact ⟨Nat.le_refl _, Nat.le_refl _⟩
  | c :: cs, f, f', m, m', o, h => by
    unfold lwS at h
    rw [List.length_cons]
    split at h
    · cases h
      omega
    · split at h
      · have := lw_len cs _ _ _ _ _ h
        omega
      · have := lw_len cs _ _ _ _ _ h
        rw [List.length_append, List.length_singleton, List.length_append, List.length_singleton] at this
        omega
theorem sgn_loop (ht : BinT t) (hr : r ≤ 2) (hk : k < st.length) {rows : D} {row : Tx} (hw : row.length ≤ 900) : ∀ (cs : List Nat) (f : List Tx) (m : Lv) (s5 s6 : Option DL.Slot), f.length + cs.length ≤ 100000 → m.length + cs.length ≤ 100000 →
    TotS p (st.set k (dcell m)) (loopX (bName 5) bodyL (cs.map fun c => .str [c]) (envL t r k rows f (some (.val (.str row))) s5 s6)) fun o st' => match lwS t r row cs f m with
    | (f', m', some x) => o = .o (.rn [.lst (f'.map D.str), .str x]) ∧ st' = st.set k (dcell m')
    | (f', m', none) => ∃ s5 s6, o = .o (.nx (envL t r k rows f' (some (.val (.str row))) s5 s6)) ∧ st' = st.set k (dcell m')
  | [], f, m, s5, s6, _, _ => TotS.ret ⟨_, _, rfl, rfl⟩
  | c :: cs, f, m, s5, s6, hf, hm => by
    have lp := law_pairs_is ht hr (row := row ++ [c]) (by rw [List.length_append, List.length_singleton]; omega)
    have sk := sorted_kkD (lawK t r (pairsA r) (row ++ [c]))
    rw [lawK_aft] at sk
    have fin := aftF_in (t := t) (r := r) (row ++ [c]) (pairsA r) fun p h => h
    have fln := aftF_len (t := t) hr (row ++ [c]) (pairsA r) (pairs_few hr)
    rw [List.length_cons] at hf hm
    rw [List.map_cons, loopX_cons (l := [(5, .str [c])]) rfl]
    unfold lwS
    have ih := sgn_loop ht hr hk (rows := rows) hw cs
    generalize hF : aftF t r (pairsA r) (row ++ [c]) = F at sk fin fln
    have ne := eq_nilG (r := r) (F := F) (neg := false) (fun w hw => by
      obtain ⟨w1, w2⟩ := mem_allS.mp (fin w hw)
      exact ⟨by omega, w2⟩) (by omega)
    have look : (st.set k (dcell m))[k]? = some (dcell m) := List.getElem?_set_self hk
    unfold bodyL envL
    walk_at "env2"
    walk_at "ev10"
    rw [lp]
    walk_at "ev10"
    rw [sk]
    walk_at "ev10"
    rw [ne]
    walk_at "ev10"
    by_cases e : F = []
    · rw [if_pos e, decide_eq_true e]
      walk_at "ev10"
      exact TotS.ret ⟨rfl, rfl⟩
    · rw [if_neg e, decide_eq_false e]
      walk_at "ev10"
      refine ts_dT look ?_
      rw [keysD_S, seen_in]
      walk_at "ev10"
      by_cases mm : F ∈ m.map (·.2)
      · rw [if_pos mm, decide_eq_true mm]
        walk_at "ev10"
        exact ih f m _ _ (by omega) (by omega)
      · rw [if_neg mm, decide_eq_false mm]
        walk_at "ev10"
        refine ts_dT look ?_
        rw [keysD_S, tput_new mm (by omega) (row ++ [c])]
        walk_at "ev10"
        refine ts_set (st := st.set k (dcell m)) (k := k) (c := dcell (m ++ [(row ++ [c], F)])) (by rw [List.length_set]; exact hk) ?_
        rw [List.set_set]
        walk_at "ev10"
        rw [show f.map D.str ++ [D.str (row ++ [c])] = (f ++ [row ++ [c]]).map D.str by rw [List.map_append]; rfl]
        exact ih _ _ _ _ (by rw [List.length_append, List.length_singleton]; omega) (by rw [List.length_append, List.length_singleton]; omega)
theorem lwR_len (hr : r ≤ 2) : ∀ (rows f f' : List Tx) (m m' : Lv) (o : Option Tx), lwR t r rows f m = (f', m', o) → f'.length ≤ f.length + 4 * rows.length ∧ m'.length ≤ m.length + 4 * rows.length
  | [], f, f', m, m', o, h => by
    cases h
    exact ⟨Nat.le_refl _, Nat.le_refl _⟩
  | row :: rows, f, f', m, m', o, h => by
    have sl := sigs_len hr
    unfold lwR at h
    rw [List.length_cons]
    split at h
    · rename_i f1 m1 x e
      have := lw_len _ _ _ _ _ _ e
      cases h
      omega
    · rename_i f1 m1 e
      have h1 := lw_len _ _ _ _ _ _ e
      have h2 := lwR_len hr rows _ _ _ _ _ h
      omega
theorem row_loopL (ht : BinT t) (hr : r ≤ 2) (hk : k < st.length) {rd : D} : ∀ (rows : List Tx) (f : List Tx) (m : Lv) (s4 s5 s6 : Option DL.Slot), (∀ w ∈ rows, w.length ≤ 900) → f.length + 4 * rows.length ≤ 100000 → m.length + 4 * rows.length ≤ 100000 →
    TotS p (st.set k (dcell m)) (loopX (bName 4) (forX [0] (iAny (eCall R__law_my_signs (aC (rdEnv 0) aN))) (bName 5) bodyL) (rows.map D.str) (envL t r k rd f s4 s5 s6)) fun o st' => match lwR t r rows f m with
    | (f', m', some x) => o = .o (.rn [.lst (f'.map D.str), .str x]) ∧ st' = st.set k (dcell m')
    | (f', m', none) => ∃ s4 s5 s6, o = .o (.nx (envL t r k rd f' s4 s5 s6)) ∧ st' = st.set k (dcell m')
  | [], f, m, s4, s5, s6, _, _, _ => TotS.ret ⟨_, _, _, rfl, rfl⟩
  | row :: rows, f, m, s4, s5, s6, hw, hf, hm => by
    have sl := sigs_len hr
    rw [List.length_cons] at hf hm
    have key := sgn_loop (p := p) ht hr hk (rows := rd) (hw row List.mem_cons_self) (sigs r) f m s5 s6 (by omega) (by omega)
    rw [List.map_cons, loopX_cons (l := [(4, .str row)]) rfl]
    unfold lwR
    unfold envL at key ⊢
    walk_at "env2"
    walk_at "ev10"
    rw [my_signs_is hr]
    walk_at "ev10"
    refine TotS.bnd key ?_
    intro o st' ho
    cases e : lwS t r row (sigs r) f m with
    | mk f' q =>
      obtain ⟨m', o'⟩ := q
      have ln := lw_len _ _ _ _ _ _ e
      simp only [e] at ho
      cases o' with
      | some x =>
        obtain ⟨rfl, rfl⟩ := ho
        walk_at "ev10"
        exact TotS.ret ⟨rfl, rfl⟩
      | none =>
        obtain ⟨s5', s6', rfl, rfl⟩ := ho
        walk_at "ev10"
        exact row_loopL ht hr hk rows f' m' _ _ _ (fun w h => hw w (List.mem_cons_of_mem _ h)) (by omega) (by omega)
theorem law_longer_is (ht : BinT t) (hr : r ≤ 2) (hk : k < st.length) {rows : List Tx} {m : Lv} (hw : ∀ w ∈ rows, w.length ≤ 900) (hz : rows.length ≤ 20000) (hm : m.length ≤ 20000) :
    TotS p (st.set k (dcell m)) (RE__law_longer_3 [mad t r, .lst (rows.map D.str), .cel k]) fun v st' => v = .ok (.lst [.lst ((lwR t r rows [] m).1.map D.str), match (lwR t r rows [] m).2.2 with | some x => .str x | none => .non]) ∧ st' = st.set k (dcell (lwR t r rows [] m).2.1) := by
  have key := row_loopL (p := p) ht hr hk (rd := .lst (rows.map D.str)) rows [] m none none none hw (by rw [List.length_nil]; omega) (by omega)
  simp only [RE__law_longer_3, FE__law_longer_3]
  walk_at "ev10"
  refine TotS.bnd key ?_
  intro o st' ho
  cases e : lwR t r rows [] m with
  | mk f' q =>
    obtain ⟨m', o'⟩ := q
    simp only [e] at ho
    cases o' with
    | some x =>
      obtain ⟨rfl, rfl⟩ := ho
      walk_at "ev10"
      exact TotS.ret ⟨rfl, rfl⟩
    | none =>
      obtain ⟨s4, s5, s6, rfl, rfl⟩ := ho
      unfold envL
      walk_at "ev10"
      exact TotS.ret ⟨rfl, rfl⟩
end
def Seen (st : List Cell) (x z : D) : Prop := ∀ g : Bg, g.st = st → seeD (some g) x = z
def SeenL (st : List Cell) (xs zs : List D) : Prop := ∀ g : Bg, g.st = st → seeL (some g) xs = zs
section
variable {st : List Cell}
theorem seen_no {d : D} (h : d.nocel = true) : Seen st d d := fun g _ => seeD_no _ d h
theorem seenL_nil : SeenL st [] [] := fun _ _ => rfl
theorem seenL_cons {x z : D} {xs zs : List D} (h : Seen st x z) (r : SeenL st xs zs) : SeenL st (x :: xs) (z :: zs) := fun g e => by
  show seeD (some g) x :: seeL (some g) xs = _
  rw [h g e, r g e]
theorem sees_eq {p : Addr} {x y z : D} (hx : Seen st x z) (hy : Seen st y z) (h : okA z = true) : TotS p st (eqS false x y) fun v st' => st' = st ∧ v = .bl true := fun g hg e => by
  refine ⟨.bl true, g, ?_, hg, e, rfl⟩
  show eqD false (seeD (some g) x) (seeD (some g) y) (some g) = _
  rw [hx g e, hy g e, eqD_same h]
  rfl
theorem sees_repr {p : Addr} {x z : D} {s : List Nat} (hx : Seen st x z) (h : reprF [z] = M.ret (.str s)) : TotS p st (reprS [x]) fun v st' => st' = st ∧ v = .str s := fun g hg e => by
  refine ⟨.str s, g, ?_, hg, e, rfl⟩
  show reprF (seeL (some g) [x]) (some g) = _
  rw [seenL_cons hx seenL_nil g e, h]
  rfl
theorem alike_see {p : Addr} {x y z : D} (hx : Seen st x z) (hy : Seen st y z) (h : okA z = true) : TotS p st (R__law_alike_4 [x, y]) fun v st' => st' = st ∧ v = .bl true := by
  obtain ⟨s, hs⟩ := reprF_ok h
  simp only [R__law_alike_4, F__law_alike_4]
  walk_at "ev10"
  refine ts_see (sees_eq hx hy h) ?_
  walk_at "ev10"
  refine ts_see (sees_repr hx hs) ?_
  walk_at "ev10"
  refine ts_see (sees_repr hy hs) ?_
  rw [eqS_no false rfl rfl]
  walk_at "ev10"
  exact TotS.ret ⟨rfl, rfl⟩
end
section
variable {p : Addr} {st : List Cell} {t : List Nat} {r k : Nat}
def lwO (t : List Nat) (r : Nat) : Nat → List Tx → Lv → Option Tx
  | 0, _, _ => none
  | n + 1, rows, m => match lwR t r rows [] m with
    | (_, _, some x) => some x
    | (f, m', none) => lwO t r n f m'
theorem lwO_nil : ∀ (n : Nat) (m : Lv), lwO t r n [] m = none
  | 0, _ => rfl
  | n + 1, m => lwO_nil n m
theorem lwS_all {P : Tx → Prop} {row : Tx} : ∀ (cs : List Nat) (f f' : List Tx) (m m' : Lv) (o : Option Tx), (∀ w ∈ f, P w) → (∀ c ∈ cs, P (row ++ [c])) → lwS t r row cs f m = (f', m', o) → ∀ w ∈ f', P w
  | [], f, f', m, m', o, hf, hc, h => by
    cases h
    exact hf
  | c :: cs, f, f', m, m', o, hf, hc, h => by
    unfold lwS at h
    have hc' : ∀ c ∈ cs, P (row ++ [c]) := fun d hd => hc d (List.mem_cons_of_mem _ hd)
    split at h
    · cases h
      exact hf
    · split at h
      · exact lwS_all cs _ _ _ _ _ hf hc' h
      · refine lwS_all cs _ _ _ _ _ (fun w hw => ?_) hc' h
        rw [List.mem_append, List.mem_singleton] at hw
        rcases hw with hw | rfl
        · exact hf w hw
        · exact hc c List.mem_cons_self
theorem lwR_all {P : Tx → Prop} : ∀ (rows f f' : List Tx) (m m' : Lv) (o : Option Tx), (∀ w ∈ f, P w) → (∀ row ∈ rows, ∀ c ∈ sigs r, P (row ++ [c])) → lwR t r rows f m = (f', m', o) → ∀ w ∈ f', P w
  | [], f, f', m, m', o, hf, hc, h => by
    cases h
    exact hf
  | row :: rows, f, f', m, m', o, hf, hc, h => by
    unfold lwR at h
    split at h
    · rename_i f1 m1 x e
      cases h
      exact lwS_all _ _ _ _ _ _ hf (hc row List.mem_cons_self) e
    · rename_i f1 m1 e
      exact lwR_all rows _ _ _ _ _ (lwS_all _ _ _ _ _ _ hf (hc row List.mem_cons_self) e) (fun w hw => hc w (List.mem_cons_of_mem _ hw)) h
def told (rows : List Tx) (o : Option Tx) : D := .lst [.lst (rows.map D.str), match o with | some x => .str x | none => .non]
theorem first_loop (ht : BinT t) (hr : r ≤ 2) (hk : k < st.length) {x : Tx} : ∀ (n j : Nat) (rows : List Tx) (m : Lv) (fuel : Nat), (∀ w ∈ rows, w.length ≤ j ∧ ∀ c ∈ w, c ∈ sigs r) → rows.length ≤ 4 ^ j → m.length ≤ 4 ^ (j + 1) → j + n ≤ 5 → lwO t r n rows m = some x → n < fuel →
    TotS p (st.set k (dcell m)) (whileX [1] (tAndM (t2 (eqD true) (e2 ixF (rdEnv 1) (cst (.int 0))) (eN (nLst aN))) (t2 (isD false) (e2 ixF (rdEnv 1) (cst (.int 1))) (cst .non)))
      (sxSet 1 [0, 1, 2] (eCallE RE__law_longer_3 (aC (rdEnv 0) (aC (e2 ixF (rdEnv 1) (cst (.int 0))) (aC (rdEnv 2) aN))))) fuel [some (.val (mad t r)), some (.val (told rows none)), some (.val (.cel k))])
      fun o st' => ∃ f, o = .o (.nx [some (.val (mad t r)), some (.val (told f (some x))), some (.val (.cel k))])
  | 0, _, _, _, _, _, _, _, _, h, _ => nomatch h
  | n + 1, j, rows, m, 0, _, _, _, _, _, hf => absurd hf (Nat.not_lt_zero _)
  | n + 1, j, rows, m, fuel + 1, hw, hz, hm, hj, h, hf => by
    have p4 : 4 ^ j ≤ 4 ^ 4 := Nat.pow_le_pow_right (by decide) (by omega)
    have ps : 4 ^ (j + 1) = 4 ^ j * 4 := Nat.pow_succ _ _
    have ps2 : 4 ^ (j + 1 + 1) = 4 ^ j * 4 * 4 := by rw [Nat.pow_succ, Nat.pow_succ]
    have key := law_longer_is (p := p) ht hr hk (rows := rows) (m := m) (fun w h => Nat.le_trans (hw w h).1 (by omega)) (by omega) (by omega)
    have ne := eq_nilG (r := r) (F := rows) (neg := true) (fun w h => ⟨Nat.le_trans (hw w h).1 (by omega), (hw w h).2⟩) (by omega)
    have r0 : rows ≠ [] := fun e => by
      rw [e, lwO_nil] at h
      cases h
    rw [decide_eq_false r0] at ne
    unfold told
    rw [q_whileX]
    walk_at "ev10"
    rw [ne]
    walk_at "ev10"
    refine TotS.bnd key ?_
    rintro v st' ⟨rfl, rfl⟩
    unfold lwO at h
    cases e : lwR t r rows [] m with
    | mk f' q =>
      obtain ⟨m', o'⟩ := q
      have ln := lwR_len hr _ _ _ _ _ _ e
      rw [List.length_nil] at ln
      have hw' := lwR_all (t := t) (P := fun w => w.length ≤ j + 1 ∧ ∀ c ∈ w, c ∈ sigs r) rows [] f' m m' o' (fun w h => (nomatch h)) (fun row hrow c hc => by
        obtain ⟨w1, w2⟩ := hw row hrow
        refine ⟨by rw [List.length_append, List.length_singleton]; omega, fun d hd => ?_⟩
        rw [List.mem_append, List.mem_singleton] at hd
        rcases hd with hd | rfl
        · exact w2 d hd
        · exact hc) e
      simp only [e] at h
      obtain ⟨fuel, rfl⟩ : ∃ f, fuel = f + 1 := ⟨fuel - 1, by omega⟩
      cases o' with
      | some y =>
        obtain rfl := Option.some.inj h
        have ne2 := eq_nilG (r := r) (F := f') (neg := true) (fun w h => ⟨Nat.le_trans (hw' w h).1 (by omega), (hw' w h).2⟩) (by omega)
        walk_at "ev10"
        rw [q_whileX]
        walk_at "ev10"
        rw [ne2]
        walk_at "ev10"
        by_cases ef : f' = []
        · rw [decide_eq_true ef]
          walk_at "ev10"
          exact TotS.ret ⟨f', rfl⟩
        · rw [decide_eq_false ef]
          walk_at "ev10"
          exact TotS.ret ⟨f', rfl⟩
      | none =>
        walk_at "ev10"
        exact first_loop ht hr hk n (j + 1) f' m' (fuel + 1) hw' (by omega) (by omega) (by omega) h (by omega)
theorem law_first_is (ht : BinT t) (hr : r ≤ 2) {n : Nat} {x : Tx} (h : lwO t r n [[]] [] = some x) (hn : n ≤ 5) : TotS p st (RE__law_first_3 [mad t r]) fun v _ => v = .ok (.str x) := by
  have e0 : st ++ [Cell.dT [] []] = (st ++ [Cell.dT [] []]).set st.length (dcell []) := by
    rw [List.set_append_right _ _ (Nat.le_refl _), Nat.sub_self]
    rfl
  have key := first_loop (p := p) (st := st ++ [Cell.dT [] []]) (k := st.length) ht hr (by rw [List.length_append]; exact Nat.lt_succ_self _) n 0 [[]] [] 1000000 (fun w hw => by
    rw [List.mem_singleton.mp hw]
    exact ⟨Nat.le_refl _, fun c hc => (nomatch hc)⟩) (Nat.le_refl _) (Nat.zero_le _) (by omega) h (by omega)
  rw [← e0] at key
  unfold told at key
  simp only [RE__law_first_3, FE__law_first_3]
  walk_at "ev10"
  refine ts_new ?_
  walk_at "ev10"
  refine TotS.bnd key ?_
  rintro o st' ⟨f, rfl⟩
  walk_at "ev10"
  exact TotS.ret rfl
def okW (t : List Nat) (r : Nat) : Bool := match goO t r 4 (lv0 r) with
  | some x => decide (lwO t r 4 [[]] [] = some x) && decide (aftF t r (pairsA r) x = []) && decide (x.length ≤ 4) && x.all fun c => decide (c ∈ sigs r)
  | none => false
theorem okW_all : ∀ r ∈ [0, 1, 2], ∀ t ∈ tabs, decide (t = [49, 49, 49, 49]) = true ∨ okW t r = true := by decide +kernel
structure OrphW (t : List Nat) (r : Nat) (x : Tx) : Prop where
  go : R_orphan_row [rul t r] = M.ret (.str x)
  law : lwO t r 4 [[]] [] = some x
  orph : aftF t r (pairsA r) x = []
  few : x.length ≤ 4
  sg : ∀ c ∈ x, c ∈ sigs r
theorem orphW_of (ht : BinT t) (hr : r ≤ 2) (h1 : t ≠ [49, 49, 49, 49]) : ∃ x, OrphW t r x := by
  have h := (okW_all r (by have : r = 0 ∨ r = 1 ∨ r = 2 := by omega
                           rcases this with rfl | rfl | rfl <;> decide) t (mem_tabs.mpr ht)).resolve_left (by rw [decide_eq_true_iff]; exact h1)
  unfold okW at h
  split at h
  · rename_i x e
    simp only [Bool.and_eq_true, decide_eq_true_iff, List.all_eq_true] at h
    obtain ⟨⟨⟨a1, a2⟩, a3⟩, a4⟩ := h
    exact ⟨x, orphan_row_is ht hr h1 e (by omega), a1, a2, a3, a4⟩
  · cases h
end
theorem q_isB1 (i j : Bool) : isB true (.bl i) (.bl j) = M.ret (.bl (!decide (i = j))) := rfl
local macro_rules | `(tactic| walk_at "ev11") => `(tactic| try simp -implicitDefEqProofs -dsimp (disch := walk_at "dis") only [call_is, dB_flat, dT_flat, disp11, getI, getL, inF_T, ixB, keysB, keys_T, listK_T, oT_toD, pairs_T, q_isB1, q_lXK_nx, q_lXK_rn, q_newDTC, q_sxTput, q_tInTC, q_whileXK_nx, rule_signs, ↓q_seq, ↓q_seqK_nx, ↓q_seqK_rt, ↓q_seqK_rn, ↓q_seqK_bk, ↓q_seqK_ct, ↓q_runD, ↓q_runN, q_runK_rt, q_runK_rn, q_runK_nx, q_runKN_rn, ↓q_set, ↓q_setN, ↓q_ret, ↓q_retN, ↓q_if, ↓q_unp, q_unpK, ↓q_app, q_appK, q_guard, ↓q_for, ↓q_forR, q_loopK_nx, q_loopK_ct, q_loopK_bk, q_loopK_rt, q_loopK_rn, ↓q_sNil, ↓q_e2, ↓q_t2, ↓q_e1, ↓q_cst, ↓q_aN, ↓q_aC, ↓q_call, ↓q_callN, ↓q_eN, ↓q_nLst, q_lstK, ↓q_eTup, q_tupK, ↓q_tVal, ↓q_tNot, ↓q_tAnd, ↓q_tOr, ↓q_eAnd, ↓q_eNot, ↓q_eIf, ↓q_iAny, ↓q_iRg1, ↓q_iEnum, ↓q_nLc, ↓q_cT, ↓q_oN, ↓q_oS, ↓q_eSl, ↓q_eChain, ↓q_tBl, ↓q_eMake, ↓q_eMeth, ↓q_iSeq, q_selK, q_self, ↓q_iTwoS, q_two2s, ↓q_nLc2, q_inE, q_notInE, q_is_non, q_is_str, q_is_int, q_is_tup, q_is_lst, q_isnt_non, q_isnt_str, q_isnt_int, q_isnt_tup, q_isnt_lst, q_list_l, q_list_t, q_ixF_s, q_ixF_l, q_ixF_t, q_ixF_b, q_inF_s, q_inF_l, q_inF_t, q_lenG_s, q_lenG_l, q_lenG_t, q_lenG_d, q_lenG_dt, ↓q_setD, ↓q_dput, q_dputK, q_keyI, q_keyS, q_seeT, q_toDv, q_toDl, q_toDk, q_toDt, q_toDs0, q_toDs1, q_toDsm, q_fls0, q_fls1, q_flv, q_fll, q_flk, q_flt, q_flsm, q_sloV, q_sloK, q_sloT, q_sloL, q_sloLl, ↓q_oV, ↓q_oL, ↓q_oC, ↓q_oaN, ↓q_oaC, ↓q_parO, q_parOK, q_flatS, q_flatI, q_flatS2, q_mapv0, q_sloL0, bnd_ret, bnd_assoc, bnd_assoc', bnd_r, cnd_t, cnd_f, fail_bnd, bind_bnd, str01, List.cons.injEq, and_true, decide_true, decide_false, cut_toN, cut_fromN, cut_from1N, cut_to1N, cut_to1, cut_to2, cut_to3, cut_from1, cut_toM1, cut_fromM1, DL.startD, List.map_cons, List.map_nil, List.length_cons, List.length_nil, Nat.reduceAdd, Nat.reduceSub, List.replicate, List.cons_append, List.nil_append, view_eq, viewAt_cons, viewAt_nil, List.contains_cons, List.contains_nil, Nat.reduceBEq, Bool.or_true, Bool.or_false, Bool.true_or, Bool.false_or, if_true, Bool.false_eq_true, if_false, Option.map_some, Option.map_none, see_val, see_own, rd_0, rd_1, rd_2, rd_3, rd_4, rd_5, rd_6, rd_7, rd_8, rd_9, Int.reduceToNat, flat_int, flat_str, flat_bl, flat_non, flat_bag, flat_lst, flat_tup, flat_obj, List.all_cons, List.all_nil, Bool.and_true, Bool.true_and, Bool.and_false, Bool.false_and, keepIf_t, keepIf_f, frz_eq, frzAt_cons, frzAt_nil, List.set_cons_succ, List.set_cons_zero, subD_int, addD_int, negD_int, asI_int, asB_bl, truD_bl, lenF_lst, lenF_tup, intF_int, intF_bl, absF_int, ltD_int, leD_int, gtD_int, geD_int, eqD_int, eqD_str, neD_int, neD_str, inD_str, notInD_str, slD_lst, slD_scr, revD_lst, itemsD_lst, itemsD_tup, itemsD_str, Bool.not_true, Bool.not_false, ixD_l, ixD_t, ofSome, atI_0, atI_1, atI_2, atI_3, atI_4, atI_app, slotD_obj, propD_obj, propN_obj, isC_obj, get0, get1, get2, get3, getS, bName_eq, bTup_eq, bCons_eq, bNil_eq, setAll2_cons, setAll2_nil, setAllD_cons, setAllD_nil, wipeD_cons, wipeD_nil, isi_str_str, isi_int_int, isi_bool_int, List.getElem?_cons_zero, List.getElem?_cons_succ, q_flat_dct, q_flat_dcT, q_isB, q_isntB, q_n2, q_cndN, q_szL, q_sloL1, q_sloL2, q_sloL3, q_c0, q_c1, q_c2, q_c3, q_c4, q_c5, q_c6, q_c7, q_c8, q_c9, q_c10, q_c11, q_c12, q_c13, q_c14, q_c15, q_c16, q_getF2, q_e3D, q_dictPF, q_guardT, q_liftE, q_liftK, q_seqE, q_seqEK_nx, q_seqEK_rt, q_seqEK_rn, q_seqEK_ex, q_ifE, q_eCallE, q_runE, q_runEK_rt, q_runEK_rn, q_runEK_nx, q_runEK_ex, q_eLiftE, q_eqBl, q_neBl, q_toDu, q_flu, q_sloU, q_iKeysD, q_keysD0, q_keysD0l, q_keysD0s, q_pairsD0, q_popM, q_popK, q_exvM, q_exvD, q_exvK, q_listKF, q_sumL, q_asLF, q_asLK, q_tput, q_tputK, q_inT, q_inTK, q_keysI1, q_keys2s, q_keys2i, q_keys2ii, q_celK, q_okE_ok, q_okE_ex, q_sxSet, q_sxSetK_ok, q_sxSetK_ex, q_axNil, q_axCons, q_axConsK_ok, q_axConsK_ex, q_axConsK2_ok, q_axConsK2_ex, q_eIfE, q_forX, q_forRX, q_noxE, q_noxEK, q_sxPar, q_sxParK_ok, q_cut2, q_cut3, eq_self, cnd_dt, cnd_df, Int.toNat_natCast, lenF_str, modD_int, divD_int, addD_str, addD_lst, slD_str, revD_str, ixD_str, ixD_str1, ixD_strmod, rng1_int, rng2_int, mulD_intl, mulD_intr, intF_dig])
def rowB : Env2 → M OutE := (seqE (liftE (setM 7 [1, 3] (eCall R__law_text (aC (rdEnv 1) (aC (e2 ixF (rdEnv 3) (cst (.int 1))) (aC (e2 ixF (eN (nLst (aC (cst (.int 3)) (aC (cst (.int 12)) (aC (cst (.int 12)) (aC (cst (.int 12)) (aC (cst (.int 12)) (aC (cst (.int 40)) aN)))))))) (eCall R__law_take (aC (rdEnv 1) (aC (cst (.int 6)) aN)))) aN))))))
  (seqE (sxSet 8 [3, 7] (eLiftE (e2 eqD0 (eCall R__law_pairs_2 (aC (rdEnv 3) (aC (rdEnv 7) aN))) (cst (.dct [] [])))))
  (liftE (seqM (ifM [4, 7, 8] (tNotM (tVal (eCall R__law_alike_4 (aC (eCall R_is_orphan_row (aC (rdEnv 4) (aC (rdEnv 7) aN))) (aC (rdEnv 8) aN)))))
  (retM [] (cst (.bl false)))
  sNil)
  (ifM [3, 7, 8] (tAndM (t2 ltD (eCall lenG (aC (rdEnv 7) aN)) (e2 ixF (eN (nLst (aC (cst (.int 5)) (aC (cst (.int 4)) (aC (cst (.int 3)) aN))))) (e2 ixF (rdEnv 3) (cst (.int 1))))) (t2 (eqS true) (eCall R__law_by_all (aC (rdEnv 3) (aC (rdEnv 7) aN))) (rdEnv 8)))
  (retM [] (cst (.bl false)))
  sNil)))))
def lawEnd : Env2 → M OutE := (liftE (seqM (ifM [1, 3, 4, 5] (tAndM (t2 (isD true) (rdEnv 5) (cst .non)) (tNotM (tVal (eCall R_is_orphan_row (aC (rdEnv 4) (aC (e2 addD (rdEnv 5) (eCall R__law_text (aC (rdEnv 1) (aC (e2 ixF (rdEnv 3) (cst (.int 1))) (aC (cst (.int 5)) aN))))) aN))))))
  (retM [] (cst (.bl false)))
  sNil)
  (ifM [4] (t2 (isB true) (eCall R_is_orphan_row (aC (rdEnv 4) (aC (cst (.str [])) aN))) (cst (.bl false)))
  (retM [] (cst (.bl false)))
  sNil)))
def lawRest : Env2 → M OutE := (seqE (liftE (setM 4 [3] (eCall R__law_my_rule (aC (rdEnv 3) aN))))
  (seqE (sxSet 5 [3] (eIfE (t2 (eqD false) (e2 ixF (rdEnv 3) (cst (.int 0))) (cst (.str [49, 49, 49, 49]))) (eLiftE (cst .non)) (eCallE RE__law_first_3 (aC (rdEnv 3) aN))))
  (seqE (liftE (ifM [4, 5] (tNotM (tVal (eCall R__law_alike_4 (aC (eN (nLst (aC (eCall R_orphan_row (aC (rdEnv 4) aN)) (aC (eCall R_orphan_row (aC (rdEnv 4) aN)) aN)))) (aC (eN (nLst (aC (rdEnv 5) (aC (rdEnv 5) aN)))) aN)))))
  (retM [] (cst (.bl false)))
  sNil))
  (seqE (forRX [] (iRg1 (aC (cst (.int 5)) aN)) (bName 6)
  rowB)
  lawEnd))))
def turnK55 : Env2 → M OutE := (seqE (liftE (setM 3 [1] (eCall R__law_rule (aC (rdEnv 1) aN))))
  (seqE (liftE (ifM [1] (t2 (eqD false) (eCall R__law_take (aC (rdEnv 1) (aC (cst (.int 5)) aN))) (cst (.int 0)))
  (setM 3 [3] (eTup (aC (cst (.str [49, 49, 49, 49])) (aC (e2 ixF (rdEnv 3) (cst (.int 1))) aN))))
  sNil))
  lawRest))
theorem law_eq : F_law = (seqE (forRX [] (iRg1 (aC (cst (.int 3)) aN)) (bName 2)
  turnK55)
  (liftE (retM [] (cst (.bl true))))) := rfl
section
variable {p : Addr} {st : List Cell} {t : List Nat} {r : Nat} {s2 s3 s4 s5 s6 s7 s8 : Option DL.Slot}
theorem eqD0_dec (K : List Tx) : eqD0 (kkD K) (.dct [] []) = M.ret (.bl (decide (K = []))) := by
  show M.ret (D.bl (ksT (keyT K)).isEmpty) = _
  cases K <;> rfl
theorem bl_alike (b : Bool) : TotS p st (R__law_alike_4 [.bl b, .bl b]) fun v st' => st' = st ∧ v = .bl true := alike_see (z := .bl b) (seen_no rfl) (seen_no rfl) (okA_of (Okd.bl b) (by decide) (by decide))
def envR (p : Addr) (t : List Nat) (r : Nat) (due : D) (s2 s6 s7 s8 : Option DL.Slot) : Env2 := [none, some (.val (.bag p)), s2, some (.val (mad t r)), some (.val (rul t r)), some (.val due), s6, s7, s8]
theorem row_is (ht : BinT t) (hr : r ≤ 2) {due : D} : TotS p st (rowB (envR p t r due s2 s6 s7 s8)) fun o st' => ∃ s7 s8, o = .o (.nx (envR p t r due s2 s6 s7 s8)) := by
  unfold rowB envR
  walk_at "env2"
  walk_at "ev11"
  refine ts_tot (take_n (by decide) (by decide)) fun v hv => ?_
  obtain ⟨a, rfl, ha⟩ := hv
  obtain ⟨mo, me, mo1, mo2⟩ : ∃ mo : Nat, M.of (atI [D.int 3, D.int 12, D.int 12, D.int 12, D.int 12, D.int 40] (a : Int)) = M.ret (.int (mo : Int)) ∧ 1 ≤ mo ∧ mo ≤ 40 := by
    have : a = 0 ∨ a = 1 ∨ a = 2 ∨ a = 3 ∨ a = 4 ∨ a = 5 := by omega
    rcases this with rfl | rfl | rfl | rfl | rfl | rfl
    · exact ⟨3, rfl, by omega, by omega⟩
    · exact ⟨12, rfl, by omega, by omega⟩
    · exact ⟨12, rfl, by omega, by omega⟩
    · exact ⟨12, rfl, by omega, by omega⟩
    · exact ⟨12, rfl, by omega, by omega⟩
    · exact ⟨40, rfl, by omega, by omega⟩
  walk_at "ev11"
  rw [me]
  clear me ha a
  walk_at "ev11"
  refine ts_tot (text_tot hr (by omega) (by omega)) fun v hv => ?_
  obtain ⟨x, rfl, x1, x2, xs⟩ := hv
  walk_at "ev11"
  rw [law_pairs_is ht hr (by omega)]
  walk_at "ev11"
  rw [eqD0_dec, decide_eq_decide.mpr (lawK_nil x)]
  walk_at "ev11"
  rw [is_orphan_row_is ht hr (by omega)]
  walk_at "ev11"
  refine ts_see (bl_alike _) ?_
  walk_at "ev11"
  obtain ⟨mi, mf, mj⟩ : ∃ mi : Nat, M.of (atI [D.int 5, D.int 4, D.int 3] (r : Int)) = M.ret (.int (mi : Int)) ∧ mi + r = 5 := by
    have : r = 0 ∨ r = 1 ∨ r = 2 := by omega
    rcases this with rfl | rfl | rfl
    · exact ⟨5, rfl, rfl⟩
    · exact ⟨4, rfl, rfl⟩
    · exact ⟨3, rfl, rfl⟩
  rw [mf]
  walk_at "ev11"
  by_cases hl : (x.length : Int) < (mi : Int)
  · rw [decide_eq_true hl]
    walk_at "ev11"
    rw [law_by_all_is ht hr (by omega)]
    walk_at "ev11"
    rw [eqS_no true rfl rfl]
    walk_at "ev11"
    exact TotS.ret ⟨_, _, rfl⟩
  · rw [decide_eq_false hl]
    walk_at "ev11"
    exact TotS.ret ⟨_, _, rfl⟩
theorem rows_loop (ht : BinT t) (hr : r ≤ 2) {due : D} {xs : List D} : TotS p st (loopX (bName 6) rowB xs (envR p t r due s2 s6 s7 s8)) fun o st' => ∃ s6 s7 s8, o = .o (.nx (envR p t r due s2 s6 s7 s8)) := by
  refine ts_loopX (fun _ ρ _ => ∃ s6 s7 s8, ρ = envR p t r due s2 s6 s7 s8) ⟨_, _, _, rfl⟩ ?_ fun ρ st ⟨s6, s7, s8, e⟩ => ⟨s6, s7, s8, by rw [e]⟩
  rintro i d ρ st hd ⟨s6, s7, s8, rfl⟩
  refine ⟨_, rfl, (row_is (s6 := some (.val d)) ht hr).mono ?_⟩
  rintro o st' ⟨s7, s8, rfl⟩
  exact .inl ⟨_, .inl rfl, _, _, _, rfl⟩
theorem no_orph_nil (hr : r ≤ 2) : decide (aftF t r (pairsA r) [] = []) = false := by
  have : r = 0 ∨ r = 1 ∨ r = 2 := by omega
  show decide (pairsA r = []) = false
  rcases this with rfl | rfl | rfl <;> decide
def okE (p : Addr) (o : OutE) : Prop := ∃ s2 s3 s4 s5 s6 s7 s8, o = .o (.nx [none, some (.val (.bag p)), s2, s3, s4, s5, s6, s7, s8])
theorem end_none (ht : BinT t) (hr : r ≤ 2) : TotS p st (lawEnd (envR p t r .non s2 s6 s7 s8)) fun o _ => okE p o := by
  unfold lawEnd envR
  walk_at "env2"
  walk_at "ev11"
  rw [is_orphan_row_is ht hr (Nat.zero_le _), no_orph_nil hr]
  walk_at "ev11"
  exact TotS.ret ⟨_, _, _, _, _, _, _, rfl⟩
theorem end_some (ht : BinT t) (hr : r ≤ 2) {x : Tx} (O : OrphW t r x) : TotS p st (lawEnd (envR p t r (.str x) s2 s6 s7 s8)) fun o _ => okE p o := by
  have few := O.few
  unfold lawEnd envR
  walk_at "env2"
  walk_at "ev11"
  refine ts_tot (text_tot hr (by omega) (by omega)) fun v hv => ?_
  obtain ⟨y, rfl, y1, y2, ys⟩ := hv
  walk_at "ev11"
  rw [is_orphan_row_is ht hr (by rw [List.length_append]; omega), aftF_app, O.orph, aftF_nil]
  walk_at "ev11"
  rw [is_orphan_row_is ht hr (Nat.zero_le _), no_orph_nil hr]
  walk_at "ev11"
  exact TotS.ret ⟨_, _, _, _, _, _, _, rfl⟩
theorem rest_is (ht : BinT t) (hr : r ≤ 2) : TotS p st (lawRest [none, some (.val (.bag p)), s2, some (.val (mad t r)), s4, s5, s6, s7, s8]) fun o _ => okE p o := by
  unfold lawRest
  walk_at "env2"
  walk_at "ev11"
  rw [my_rule_is ht hr]
  walk_at "ev11"
  by_cases h1 : t = [49, 49, 49, 49]
  · subst h1
    walk_at "ev11"
    rw [orphan_none hr]
    walk_at "ev11"
    rw [orphan_none hr]
    walk_at "ev11"
    refine ts_see (alike_see (z := .lst [.non, .non]) (seen_no rfl) (seen_no rfl) (by decide +kernel)) ?_
    walk_at "ev11"
    refine TotS.bnd (rows_loop (due := .non) ht hr) ?_
    rintro o st' ⟨s6, s7, s8, rfl⟩
    walk_at "ev11"
    exact end_none ht hr
  · obtain ⟨x, O⟩ := orphW_of ht hr h1
    rw [decide_eq_false h1]
    walk_at "ev11"
    refine TotS.bnd (law_first_is ht hr O.law (by decide)) ?_
    rintro v st1 rfl
    walk_at "ev11"
    rw [O.go]
    walk_at "ev11"
    rw [O.go]
    walk_at "ev11"
    have few := O.few
    refine ts_see (alike_see (z := .lst [.str x, .str x]) (seen_no rfl) (seen_no rfl) (okA_lst (k := 0) (w := 100) (fun d hd => by
      have hd : d = .str x := by simpa using hd
      subst hd
      exact sg_okd hr (sigs_sg O.sg hr) (by omega)) (by decide) (by simp))) ?_
    walk_at "ev11"
    refine TotS.bnd (rows_loop (due := .str x) ht hr) ?_
    rintro o st' ⟨s6, s7, s8, rfl⟩
    walk_at "ev11"
    exact end_some ht hr O
theorem turn_is : TotS p st (turnK55 [none, some (.val (.bag p)), s2, s3, s4, s5, s6, s7, s8]) fun o _ => okE p o := by
  unfold turnK55
  walk_at "env2"
  walk_at "ev11"
  refine ts_tot rule_tot fun v hv => ?_
  obtain ⟨t, r, rfl, ht, hr⟩ := hv
  walk_at "ev11"
  refine ts_tot (take_n (by decide) (by decide)) fun v hv => ?_
  obtain ⟨a, rfl, ha⟩ := hv
  walk_at "ev11"
  by_cases h0 : (a : Int) = 0
  · rw [decide_eq_true h0]
    walk_at "ev11"
    exact rest_is ⟨rfl, by decide⟩ hr
  · rw [decide_eq_false h0]
    walk_at "ev11"
    exact rest_is ht hr
theorem math (p : Addr) : TotS p [] (F_law (env0 7 p)) fun o _ => o = .o (.rt (.bl true)) := by
  rw [law_eq]
  walk_at "env2"
  walk_at "ev11"
  refine TotS.bnd (P := fun o _ => okE p o) (ts_loopX (fun _ ρ _ => ∃ s2 s3 s4 s5 s6 s7 s8, ρ = [none, some (.val (.bag p)), s2, s3, s4, s5, s6, s7, s8]) ⟨_, _, _, _, _, _, _, rfl⟩ ?_ fun ρ st ⟨s2, s3, s4, s5, s6, s7, s8, e⟩ => ⟨s2, s3, s4, s5, s6, s7, s8, by rw [e]⟩) ?_
  · rintro i d ρ st hd ⟨s2, s3, s4, s5, s6, s7, s8, rfl⟩
    refine ⟨_, rfl, (turn_is (s2 := some (.val d))).mono ?_⟩
    rintro o st' ⟨s2, s3, s4, s5, s6, s7, s8, rfl⟩
    exact .inl ⟨_, .inl rfl, _, _, _, _, _, _, _, rfl⟩
  · rintro o st ⟨s2, s3, s4, s5, s6, s7, s8, rfl⟩
    walk_at "ev11"
    exact TotS.ret rfl
end
end LW
set_option Elab.async false
set_option maxRecDepth 100000
set_option autoImplicit false
set_option linter.unusedVariables false
set_option maxHeartbeats 4000000
namespace LW
open PySem L2 PySem.Spec PyProof.Rows DL
theorem all_mk {l : PySem.W.OpenLaw} {w : World} {K : PySem.W.Frag} {h : Heap} {mg : Str → Option Value} {fa : Addr} (X : K.In h) (G : h.Ns mainGlobals mg) (hfa : mg "law" = some (.ref fa))
    (tabs : TabsAt K mg [] h)
    {T6 : Addr} {to6 : Value} {td6 : Option Addr} {tn6 : Nat} {ts6 : Array (Option Value)} {tk6_0 : Tok}
    {f0 : Addr} {od0 an0 : Option Addr} {sl0 : Array (Option Value)} {oc0 kV0 dc0 pm0 cd0 ct0 : Value}
    {f1 : Addr} {od1 an1 : Option Addr} {sl1 : Array (Option Value)} {oc1 kV1 dc1 pm1 cd1 ct1 : Value}
    {f2 : Addr} {od2 an2 : Option Addr} {sl2 : Array (Option Value)} {oc2 kV2 dc2 pm2 cd2 ct2 : Value}
    {f3 : Addr} {od3 an3 : Option Addr} {sl3 : Array (Option Value)} {oc3 kV3 dc3 pm3 cd3 ct3 : Value}
    {f4 : Addr} {od4 an4 : Option Addr} {sl4 : Array (Option Value)} {oc4 kV4 dc4 pm4 cd4 ct4 : Value}
    {f5 : Addr} {od5 an5 : Option Addr} {sl5 : Array (Option Value)} {oc5 kV5 dc5 pm5 cd5 ct5 : Value}
    {f6 : Addr} {od6 an6 : Option Addr} {sl6 : Array (Option Value)} {oc6 kV6 dc6 pm6 cd6 ct6 : Value}
    {f7 : Addr} {od7 an7 : Option Addr} {sl7 : Array (Option Value)} {oc7 kV7 dc7 pm7 cd7 ct7 : Value}
    {f8 : Addr} {od8 an8 : Option Addr} {sl8 : Array (Option Value)} {oc8 kV8 dc8 pm8 cd8 ct8 : Value}
    {f9 : Addr} {od9 an9 : Option Addr} {sl9 : Array (Option Value)} {oc9 kV9 dc9 pm9 cd9 ct9 : Value}
    {f10 : Addr} {od10 an10 : Option Addr} {sl10 : Array (Option Value)} {oc10 kV10 dc10 pm10 cd10 ct10 : Value}
    {f11 : Addr} {od11 an11 : Option Addr} {sl11 : Array (Option Value)} {oc11 kV11 dc11 pm11 cd11 ct11 : Value}
    {f12 : Addr} {od12 an12 : Option Addr} {sl12 : Array (Option Value)} {oc12 kV12 dc12 pm12 cd12 ct12 : Value}
    {f13 : Addr} {od13 an13 : Option Addr} {sl13 : Array (Option Value)} {oc13 kV13 dc13 pm13 cd13 ct13 : Value}
    {f14 : Addr} {od14 an14 : Option Addr} {sl14 : Array (Option Value)} {oc14 kV14 dc14 pm14 cd14 ct14 : Value}
    {f15 : Addr} {od15 an15 : Option Addr} {sl15 : Array (Option Value)} {oc15 kV15 dc15 pm15 cd15 ct15 : Value}
    {f16 : Addr} {od16 an16 : Option Addr} {sl16 : Array (Option Value)} {oc16 kV16 dc16 pm16 cd16 ct16 : Value}
    {f17 : Addr} {od17 an17 : Option Addr} {sl17 : Array (Option Value)} {oc17 kV17 dc17 pm17 cd17 ct17 : Value}
    {f18 : Addr} {od18 an18 : Option Addr} {sl18 : Array (Option Value)} {oc18 kV18 dc18 pm18 cd18 ct18 : Value}
    {f19 : Addr} {od19 an19 : Option Addr} {sl19 : Array (Option Value)} {oc19 kV19 dc19 pm19 cd19 ct19 : Value}
    {f20 : Addr} {od20 an20 : Option Addr} {sl20 : Array (Option Value)} {oc20 kV20 dc20 pm20 cd20 ct20 : Value}
    {f21 : Addr} {od21 an21 : Option Addr} {sl21 : Array (Option Value)} {oc21 kV21 dc21 pm21 cd21 ct21 : Value}
    {f22 : Addr} {od22 an22 : Option Addr} {sl22 : Array (Option Value)} {oc22 kV22 dc22 pm22 cd22 ct22 : Value}
    {f23 : Addr} {od23 an23 : Option Addr} {sl23 : Array (Option Value)} {oc23 kV23 dc23 pm23 cd23 ct23 : Value}
    {f24 : Addr} {od24 an24 : Option Addr} {sl24 : Array (Option Value)} {oc24 kV24 dc24 pm24 cd24 ct24 : Value}
    {f25 : Addr} {od25 an25 : Option Addr} {sl25 : Array (Option Value)} {oc25 kV25 dc25 pm25 cd25 ct25 : Value}
    {f26 : Addr} {od26 an26 : Option Addr} {sl26 : Array (Option Value)} {oc26 kV26 dc26 pm26 cd26 ct26 : Value}
    {f27 : Addr} {od27 an27 : Option Addr} {sl27 : Array (Option Value)} {oc27 kV27 dc27 pm27 cd27 ct27 : Value}
    {f28 : Addr} {od28 an28 : Option Addr} {sl28 : Array (Option Value)} {oc28 kV28 dc28 pm28 cd28 ct28 : Value}
    {f29 : Addr} {od29 an29 : Option Addr} {sl29 : Array (Option Value)} {oc29 kV29 dc29 pm29 cd29 ct29 : Value}
    {C_Rule : Addr}
    {p_Rule_its_rests : Addr}
    {p_Rule_its_table : Addr}
    {g_Rule_signs : Addr} {r_Rule_signs : List Value}
    {g_Rule_table : Addr} {r_Rule_table : List Value}
    {t_MOST_RESTS : Tok}
    {t_SIGNS : Tok}
    (q1_Rule : PySem.W.nsIn K mainGlobals "Rule" = some (some (.ref C_Rule)))
    (q2_Rule : PySem.W.plainGet K C_Rule Str.empty = true)
    (q3_Rule : PySem.W.isClsIn K C_Rule = true)
    (q4_Rule : PySem.W.plainOver K C_Rule = true)
    (q5_Rule : PySem.W.findIn K (.ref C_Rule) "__setattr__" = some (some (.builtin "object.__setattr__")))
    (a0 : PySem.W.nsIn K mainGlobals "_law_bag" = some (some (.ref f0)))
    (l0 : K.lookup f0 = some ⟨oc0, od0, .func (PySem.W.fnOf "_law_bag" "_law_bag" (defArgs s__law_bag) (defBody s__law_bag) (defScope s__law_bag) .none kV0 dc0 pm0 an0 cd0 ct0), sl0⟩)
    (c0 : PySem.W.codeIn K cd0 "_law_bag" = true)
    (k0 : PySem.W.keepIn K (.ref f0) = true)
    (a1 : PySem.W.nsIn K mainGlobals "_law_take" = some (some (.ref f1)))
    (l1 : K.lookup f1 = some ⟨oc1, od1, .func (PySem.W.fnOf "_law_take" "_law_take" (defArgs s__law_take) (defBody s__law_take) (defScope s__law_take) .none kV1 dc1 pm1 an1 cd1 ct1), sl1⟩)
    (c1 : PySem.W.codeIn K cd1 "_law_take" = true)
    (k1 : PySem.W.keepIn K (.ref f1) = true)
    (a2 : PySem.W.nsIn K mainGlobals "_law_rule" = some (some (.ref f2)))
    (l2 : K.lookup f2 = some ⟨oc2, od2, .func (PySem.W.fnOf "_law_rule" "_law_rule" (defArgs s__law_rule) (defBody s__law_rule) (defScope s__law_rule) .none kV2 dc2 pm2 an2 cd2 ct2), sl2⟩)
    (c2 : PySem.W.codeIn K cd2 "_law_rule" = true)
    (k2 : PySem.W.keepIn K (.ref f2) = true)
    (a3 : PySem.W.nsIn K mainGlobals "is_row" = some (some (.ref f3)))
    (l3 : K.lookup f3 = some ⟨oc3, od3, .func (PySem.W.fnOf "is_row" "is_row" (defArgs s_is_row) (defBody s_is_row) (defScope s_is_row) .none kV3 dc3 pm3 an3 cd3 ct3), sl3⟩)
    (c3 : PySem.W.codeIn K cd3 "is_row" = true)
    (k3 : PySem.W.keepIn K (.ref f3) = true)
    (a4 : PySem.W.nsIn K mainGlobals "is_table" = some (some (.ref f4)))
    (l4 : K.lookup f4 = some ⟨oc4, od4, .func (PySem.W.fnOf "is_table" "is_table" (defArgs s_is_table) (defBody s_is_table) (defScope s_is_table) .none kV4 dc4 pm4 an4 cd4 ct4), sl4⟩)
    (c4 : PySem.W.codeIn K cd4 "is_table" = true)
    (k4 : PySem.W.keepIn K (.ref f4) = true)
    (a5 : PySem.W.nsIn K mainGlobals "is_integer" = some (some (.ref f5)))
    (l5 : K.lookup f5 = some ⟨oc5, od5, .func (PySem.W.fnOf "is_integer" "is_integer" (defArgs s_is_integer) (defBody s_is_integer) (defScope s_is_integer) .none kV5 dc5 pm5 an5 cd5 ct5), sl5⟩)
    (c5 : PySem.W.codeIn K cd5 "is_integer" = true)
    (k5 : PySem.W.keepIn K (.ref f5) = true)
    (a6 : PySem.W.findIn K (.ref C_Rule) "__init__" = some (some (.ref f6)))
    (b6 : PySem.W.isFn K (.ref f6) = true)
    (e6 : PySem.W.makesIn K C_Rule = true)
    (h6 : PySem.W.keepIn K (.ref C_Rule) = true)
    (l6 : K.lookup f6 = some ⟨oc6, od6, .func (PySem.W.fnOf "__init__" "Rule.__init__" (defArgs s_Rule___init__) (defBody s_Rule___init__) (defScope s_Rule___init__) (.ref T6) kV6 dc6 pm6 an6 cd6 ct6), sl6⟩)
    (d6 : K.lookup T6 = some ⟨to6, td6, .seq [.int 1 tk6_0].toArray tn6, ts6⟩)
    (c6 : PySem.W.codeIn K cd6 "Rule.__init__" = true)
    (k6 : PySem.W.keepIn K (.ref f6) = true)
    (a7 : PySem.W.nsIn K mainGlobals "_law_my_rule" = some (some (.ref f7)))
    (l7 : K.lookup f7 = some ⟨oc7, od7, .func (PySem.W.fnOf "_law_my_rule" "_law_my_rule" (defArgs s__law_my_rule) (defBody s__law_my_rule) (defScope s__law_my_rule) .none kV7 dc7 pm7 an7 cd7 ct7), sl7⟩)
    (c7 : PySem.W.codeIn K cd7 "_law_my_rule" = true)
    (k7 : PySem.W.keepIn K (.ref f7) = true)
    (a8 : PySem.W.nsIn K mainGlobals "_law_my_signs" = some (some (.ref f8)))
    (l8 : K.lookup f8 = some ⟨oc8, od8, .func (PySem.W.fnOf "_law_my_signs" "_law_my_signs" (defArgs s__law_my_signs) (defBody s__law_my_signs) (defScope s__law_my_signs) .none kV8 dc8 pm8 an8 cd8 ct8), sl8⟩)
    (c8 : PySem.W.codeIn K cd8 "_law_my_signs" = true)
    (k8 : PySem.W.keepIn K (.ref f8) = true)
    (a9 : PySem.W.nsIn K mainGlobals "_law_beat" = some (some (.ref f9)))
    (l9 : K.lookup f9 = some ⟨oc9, od9, .func (PySem.W.fnOf "_law_beat" "_law_beat" (defArgs s__law_beat) (defBody s__law_beat) (defScope s__law_beat) .none kV9 dc9 pm9 an9 cd9 ct9), sl9⟩)
    (c9 : PySem.W.codeIn K cd9 "_law_beat" = true)
    (k9 : PySem.W.keepIn K (.ref f9) = true)
    (a10 : PySem.W.nsIn K mainGlobals "_law_inner" = some (some (.ref f10)))
    (l10 : K.lookup f10 = some ⟨oc10, od10, .func (PySem.W.fnOf "_law_inner" "_law_inner" (defArgs s__law_inner) (defBody s__law_inner) (defScope s__law_inner) .none kV10 dc10 pm10 an10 cd10 ct10), sl10⟩)
    (c10 : PySem.W.codeIn K cd10 "_law_inner" = true)
    (k10 : PySem.W.keepIn K (.ref f10) = true)
    (a11 : PySem.W.nsIn K mainGlobals "_law_pairs_on" = some (some (.ref f11)))
    (l11 : K.lookup f11 = some ⟨oc11, od11, .func (PySem.W.fnOf "_law_pairs_on" "_law_pairs_on" (defArgs s__law_pairs_on) (defBody s__law_pairs_on) (defScope s__law_pairs_on) .none kV11 dc11 pm11 an11 cd11 ct11), sl11⟩)
    (c11 : PySem.W.codeIn K cd11 "_law_pairs_on" = true)
    (k11 : PySem.W.keepIn K (.ref f11) = true)
    (a12 : PySem.W.nsIn K mainGlobals "_law_my_all" = some (some (.ref f12)))
    (l12 : K.lookup f12 = some ⟨oc12, od12, .func (PySem.W.fnOf "_law_my_all" "_law_my_all" (defArgs s__law_my_all) (defBody s__law_my_all) (defScope s__law_my_all) .none kV12 dc12 pm12 an12 cd12 ct12), sl12⟩)
    (c12 : PySem.W.codeIn K cd12 "_law_my_all" = true)
    (k12 : PySem.W.keepIn K (.ref f12) = true)
    (a13 : PySem.W.nsIn K mainGlobals "_law_pairs" = some (some (.ref f13)))
    (l13 : K.lookup f13 = some ⟨oc13, od13, .func (PySem.W.fnOf "_law_pairs" "_law_pairs" (defArgs s__law_pairs) (defBody s__law_pairs) (defScope s__law_pairs) .none kV13 dc13 pm13 an13 cd13 ct13), sl13⟩)
    (c13 : PySem.W.codeIn K cd13 "_law_pairs" = true)
    (k13 : PySem.W.keepIn K (.ref f13) = true)
    (a14 : PySem.W.nsIn K mainGlobals "_law_longer" = some (some (.ref f14)))
    (l14 : K.lookup f14 = some ⟨oc14, od14, .func (PySem.W.fnOf "_law_longer" "_law_longer" (defArgs s__law_longer) (defBody s__law_longer) (defScope s__law_longer) .none kV14 dc14 pm14 an14 cd14 ct14), sl14⟩)
    (c14 : PySem.W.codeIn K cd14 "_law_longer" = true)
    (k14 : PySem.W.keepIn K (.ref f14) = true)
    (a15 : PySem.W.nsIn K mainGlobals "_law_first" = some (some (.ref f15)))
    (l15 : K.lookup f15 = some ⟨oc15, od15, .func (PySem.W.fnOf "_law_first" "_law_first" (defArgs s__law_first) (defBody s__law_first) (defScope s__law_first) .none kV15 dc15 pm15 an15 cd15 ct15), sl15⟩)
    (c15 : PySem.W.codeIn K cd15 "_law_first" = true)
    (k15 : PySem.W.keepIn K (.ref f15) = true)
    (a16 : PySem.W.nsIn K mainGlobals "_law_alike" = some (some (.ref f16)))
    (l16 : K.lookup f16 = some ⟨oc16, od16, .func (PySem.W.fnOf "_law_alike" "_law_alike" (defArgs s__law_alike) (defBody s__law_alike) (defScope s__law_alike) .none kV16 dc16 pm16 an16 cd16 ct16), sl16⟩)
    (c16 : PySem.W.codeIn K cd16 "_law_alike" = true)
    (k16 : PySem.W.keepIn K (.ref f16) = true)
    (a17 : PySem.W.nsIn K mainGlobals "_law_text" = some (some (.ref f17)))
    (l17 : K.lookup f17 = some ⟨oc17, od17, .func (PySem.W.fnOf "_law_text" "_law_text" (defArgs s__law_text) (defBody s__law_text) (defScope s__law_text) .none kV17 dc17 pm17 an17 cd17 ct17), sl17⟩)
    (c17 : PySem.W.codeIn K cd17 "_law_text" = true)
    (k17 : PySem.W.keepIn K (.ref f17) = true)
    (a18 : PySem.W.findIn K (.ref C_Rule) "signs" = some (some (.ref g_Rule_signs)))
    (b18 : PySem.W.specialIn K (.ref g_Rule_signs) "__get__" = some (some (.builtin "property.__get__")))
    (e18 : PySem.W.takesIn K (.ref g_Rule_signs) = some true)
    (h18 : PySem.W.recIn K g_Rule_signs "property" = some (.ref f18 :: r_Rule_signs))
    (l18 : K.lookup f18 = some ⟨oc18, od18, .func (PySem.W.fnOf "signs" "Rule.signs" (defArgs s_Rule_signs) (defBody s_Rule_signs) (defScope s_Rule_signs) .none kV18 dc18 pm18 an18 cd18 ct18), sl18⟩)
    (c18 : PySem.W.codeIn K cd18 "Rule.signs" = true)
    (k18 : PySem.W.keepIn K (.ref f18) = true)
    (a19 : PySem.W.nsIn K mainGlobals "pairs_of" = some (some (.ref f19)))
    (l19 : K.lookup f19 = some ⟨oc19, od19, .func (PySem.W.fnOf "pairs_of" "pairs_of" (defArgs s_pairs_of) (defBody s_pairs_of) (defScope s_pairs_of) .none kV19 dc19 pm19 an19 cd19 ct19), sl19⟩)
    (c19 : PySem.W.codeIn K cd19 "pairs_of" = true)
    (k19 : PySem.W.keepIn K (.ref f19) = true)
    (a20 : PySem.W.nsIn K mainGlobals "sign_after" = some (some (.ref f20)))
    (l20 : K.lookup f20 = some ⟨oc20, od20, .func (PySem.W.fnOf "sign_after" "sign_after" (defArgs s_sign_after) (defBody s_sign_after) (defScope s_sign_after) .none kV20 dc20 pm20 an20 cd20 ct20), sl20⟩)
    (c20 : PySem.W.codeIn K cd20 "sign_after" = true)
    (k20 : PySem.W.keepIn K (.ref f20) = true)
    (a21 : PySem.W.findIn K (.ref C_Rule) "__call__" = some (some (.ref f21)))
    (b21 : PySem.W.isFn K (.ref f21) = true)
    (l21 : K.lookup f21 = some ⟨oc21, od21, .func (PySem.W.fnOf "__call__" "Rule.__call__" (defArgs s_Rule___call__) (defBody s_Rule___call__) (defScope s_Rule___call__) .none kV21 dc21 pm21 an21 cd21 ct21), sl21⟩)
    (c21 : PySem.W.codeIn K cd21 "Rule.__call__" = true)
    (k21 : PySem.W.keepIn K (.ref f21) = true)
    (a22 : PySem.W.nsIn K mainGlobals "pairs_after" = some (some (.ref f22)))
    (l22 : K.lookup f22 = some ⟨oc22, od22, .func (PySem.W.fnOf "pairs_after" "pairs_after" (defArgs s_pairs_after) (defBody s_pairs_after) (defScope s_pairs_after) .none kV22 dc22 pm22 an22 cd22 ct22), sl22⟩)
    (c22 : PySem.W.codeIn K cd22 "pairs_after" = true)
    (k22 : PySem.W.keepIn K (.ref f22) = true)
    (a23 : PySem.W.nsIn K mainGlobals "is_orphan_row" = some (some (.ref f23)))
    (l23 : K.lookup f23 = some ⟨oc23, od23, .func (PySem.W.fnOf "is_orphan_row" "is_orphan_row" (defArgs s_is_orphan_row) (defBody s_is_orphan_row) (defScope s_is_orphan_row) .none kV23 dc23 pm23 an23 cd23 ct23), sl23⟩)
    (c23 : PySem.W.codeIn K cd23 "is_orphan_row" = true)
    (k23 : PySem.W.keepIn K (.ref f23) = true)
    (a24 : PySem.W.findIn K (.ref C_Rule) "table" = some (some (.ref g_Rule_table)))
    (b24 : PySem.W.specialIn K (.ref g_Rule_table) "__get__" = some (some (.builtin "property.__get__")))
    (e24 : PySem.W.takesIn K (.ref g_Rule_table) = some true)
    (h24 : PySem.W.recIn K g_Rule_table "property" = some (.ref f24 :: r_Rule_table))
    (l24 : K.lookup f24 = some ⟨oc24, od24, .func (PySem.W.fnOf "table" "Rule.table" (defArgs s_Rule_table) (defBody s_Rule_table) (defScope s_Rule_table) .none kV24 dc24 pm24 an24 cd24 ct24), sl24⟩)
    (c24 : PySem.W.codeIn K cd24 "Rule.table" = true)
    (k24 : PySem.W.keepIn K (.ref f24) = true)
    (a25 : PySem.W.nsIn K mainGlobals "a_sign_longer" = some (some (.ref f25)))
    (l25 : K.lookup f25 = some ⟨oc25, od25, .func (PySem.W.fnOf "a_sign_longer" "a_sign_longer" (defArgs s_a_sign_longer) (defBody s_a_sign_longer) (defScope s_a_sign_longer) .none kV25 dc25 pm25 an25 cd25 ct25), sl25⟩)
    (c25 : PySem.W.codeIn K cd25 "a_sign_longer" = true)
    (k25 : PySem.W.keepIn K (.ref f25) = true)
    (a26 : PySem.W.nsIn K mainGlobals "orphan_row" = some (some (.ref f26)))
    (l26 : K.lookup f26 = some ⟨oc26, od26, .func (PySem.W.fnOf "orphan_row" "orphan_row" (defArgs s_orphan_row) (defBody s_orphan_row) (defScope s_orphan_row) .none kV26 dc26 pm26 an26 cd26 ct26), sl26⟩)
    (c26 : PySem.W.codeIn K cd26 "orphan_row" = true)
    (k26 : PySem.W.keepIn K (.ref f26) = true)
    (a27 : PySem.W.nsIn K mainGlobals "_law_my_row_after" = some (some (.ref f27)))
    (l27 : K.lookup f27 = some ⟨oc27, od27, .func (PySem.W.fnOf "_law_my_row_after" "_law_my_row_after" (defArgs s__law_my_row_after) (defBody s__law_my_row_after) (defScope s__law_my_row_after) .none kV27 dc27 pm27 an27 cd27 ct27), sl27⟩)
    (c27 : PySem.W.codeIn K cd27 "_law_my_row_after" = true)
    (k27 : PySem.W.keepIn K (.ref f27) = true)
    (a28 : PySem.W.nsIn K mainGlobals "_law_by_all" = some (some (.ref f28)))
    (l28 : K.lookup f28 = some ⟨oc28, od28, .func (PySem.W.fnOf "_law_by_all" "_law_by_all" (defArgs s__law_by_all) (defBody s__law_by_all) (defScope s__law_by_all) .none kV28 dc28 pm28 an28 cd28 ct28), sl28⟩)
    (c28 : PySem.W.codeIn K cd28 "_law_by_all" = true)
    (k28 : PySem.W.keepIn K (.ref f28) = true)
    (a29 : PySem.W.nsIn K mainGlobals "law" = some (some (.ref f29)))
    (l29 : K.lookup f29 = some ⟨oc29, od29, .func (PySem.W.fnOf "law" "law" (defArgs s_law) (defBody s_law) (defScope s_law) .none kV29 dc29 pm29 an29 cd29 ct29), sl29⟩)
    (c29 : PySem.W.codeIn K cd29 "law" = true)
    (k29 : PySem.W.keepIn K (.ref f29) = true)
    (o_Rule___call__ : PySem.W.fnIn K f21 = true)
    (s1_Rule_its_rests : PySem.W.findIn K (.ref C_Rule) "its_rests" = some (some (.ref p_Rule_its_rests)))
    (s2_Rule_its_rests : PySem.W.specialIn K (.ref p_Rule_its_rests) "__get__" = some (some (.builtin "member_descriptor.__get__")))
    (s3_Rule_its_rests : PySem.W.takesIn K (.ref p_Rule_its_rests) = some true)
    (s4_Rule_its_rests : PySem.W.typeIn K (.ref p_Rule_its_rests) = some (.type "member_descriptor"))
    (s5_Rule_its_rests : PySem.W.slotIn K p_Rule_its_rests C_Rule = some 0)
    (s1_Rule_its_table : PySem.W.findIn K (.ref C_Rule) "its_table" = some (some (.ref p_Rule_its_table)))
    (s2_Rule_its_table : PySem.W.specialIn K (.ref p_Rule_its_table) "__get__" = some (some (.builtin "member_descriptor.__get__")))
    (s3_Rule_its_table : PySem.W.takesIn K (.ref p_Rule_its_table) = some true)
    (s4_Rule_its_table : PySem.W.typeIn K (.ref p_Rule_its_table) = some (.type "member_descriptor"))
    (s5_Rule_its_table : PySem.W.slotIn K p_Rule_its_table C_Rule = some 1)
    (w_MOST_RESTS : PySem.W.nsIn K mainGlobals "MOST_RESTS" = some (some (.int 2 t_MOST_RESTS)))
    (w_SIGNS : PySem.W.nsIn K mainGlobals "SIGNS" = some (some (.str ⟨[48, 49, 50, 51].toArray⟩ t_SIGNS)))
    (z_abs : PySem.W.nsIn K mainGlobals "abs" = some none)
    (z_all : PySem.W.nsIn K mainGlobals "all" = some none)
    (z_bool : PySem.W.nsIn K mainGlobals "bool" = some none)
    (z_dict : PySem.W.nsIn K mainGlobals "dict" = some none)
    (z_enumerate : PySem.W.nsIn K mainGlobals "enumerate" = some none)
    (z_int : PySem.W.nsIn K mainGlobals "int" = some none)
    (z_isinstance : PySem.W.nsIn K mainGlobals "isinstance" = some none)
    (z_len : PySem.W.nsIn K mainGlobals "len" = some none)
    (z_range : PySem.W.nsIn K mainGlobals "range" = some none)
    (z_repr : PySem.W.nsIn K mainGlobals "repr" = some none)
    (z_sorted : PySem.W.nsIn K mainGlobals "sorted" = some none)
    (z_str : PySem.W.nsIn K mainGlobals "str" = some none)
    (z_sum : PySem.W.nsIn K mainGlobals "sum" = some none)
    (z_tuple : PySem.W.nsIn K mainGlobals "tuple" = some none)
    : ∃ (fd : FuncData) (cs : List (Addr × Addr × Str)), (∀ c ∈ cs, h.get? c.2.1 = some { cls := .none, data := .fields #[] } ∧ PySem.W.CodeHd h c.1 c.2.1) ∧ (∀ c ∈ cs, K.lookup c.2.1 = none) ∧ (∀ (s : Shared) (u : Value), BindsTo s fd ⟨[u], []⟩ [("_law_script", u)]) ∧ ∀ base : Heap, K.In base → base.Ns mainGlobals mg → (∀ c ∈ cs, LamX.TabB base mg c.1 c.2.1) → FnG l.prog w K mg base 7 fa fd ["_law_script"] (@spLaw (tabsOf K cs) K) := by
  have e := (Value.ref.inj (Option.some.inj (hfa.symm.trans (PySem.W.mg_of X G a29)))).symm
  subst e
  refine ⟨PySem.W.fnOf "law" "law" (defArgs s_law) (defBody s_law) (defScope s_law) .none kV29 dc29 pm29 an29 cd29 ct29, [], all_nil, all_nil, fun s v => .of_eq rfl, fun base _ _ hb => ?_⟩
  letI : TabList := tabsOf K []
  have T : Txt l.prog w K mg ⟨f0, PySem.W.fnOf "_law_bag" "_law_bag" (defArgs s__law_bag) (defBody s__law_bag) (defScope s__law_bag) .none kV0 dc0 pm0 an0 cd0 ct0, f1, PySem.W.fnOf "_law_take" "_law_take" (defArgs s__law_take) (defBody s__law_take) (defScope s__law_take) .none kV1 dc1 pm1 an1 cd1 ct1, f2, PySem.W.fnOf "_law_rule" "_law_rule" (defArgs s__law_rule) (defBody s__law_rule) (defScope s__law_rule) .none kV2 dc2 pm2 an2 cd2 ct2, f3, PySem.W.fnOf "is_row" "is_row" (defArgs s_is_row) (defBody s_is_row) (defScope s_is_row) .none kV3 dc3 pm3 an3 cd3 ct3, f4, PySem.W.fnOf "is_table" "is_table" (defArgs s_is_table) (defBody s_is_table) (defScope s_is_table) .none kV4 dc4 pm4 an4 cd4 ct4, f5, PySem.W.fnOf "is_integer" "is_integer" (defArgs s_is_integer) (defBody s_is_integer) (defScope s_is_integer) .none kV5 dc5 pm5 an5 cd5 ct5, f6, PySem.W.fnOf "__init__" "Rule.__init__" (defArgs s_Rule___init__) (defBody s_Rule___init__) (defScope s_Rule___init__) (.ref T6) kV6 dc6 pm6 an6 cd6 ct6, f7, PySem.W.fnOf "_law_my_rule" "_law_my_rule" (defArgs s__law_my_rule) (defBody s__law_my_rule) (defScope s__law_my_rule) .none kV7 dc7 pm7 an7 cd7 ct7, f8, PySem.W.fnOf "_law_my_signs" "_law_my_signs" (defArgs s__law_my_signs) (defBody s__law_my_signs) (defScope s__law_my_signs) .none kV8 dc8 pm8 an8 cd8 ct8, f9, PySem.W.fnOf "_law_beat" "_law_beat" (defArgs s__law_beat) (defBody s__law_beat) (defScope s__law_beat) .none kV9 dc9 pm9 an9 cd9 ct9, f10, PySem.W.fnOf "_law_inner" "_law_inner" (defArgs s__law_inner) (defBody s__law_inner) (defScope s__law_inner) .none kV10 dc10 pm10 an10 cd10 ct10, f11, PySem.W.fnOf "_law_pairs_on" "_law_pairs_on" (defArgs s__law_pairs_on) (defBody s__law_pairs_on) (defScope s__law_pairs_on) .none kV11 dc11 pm11 an11 cd11 ct11, f12, PySem.W.fnOf "_law_my_all" "_law_my_all" (defArgs s__law_my_all) (defBody s__law_my_all) (defScope s__law_my_all) .none kV12 dc12 pm12 an12 cd12 ct12, f13, PySem.W.fnOf "_law_pairs" "_law_pairs" (defArgs s__law_pairs) (defBody s__law_pairs) (defScope s__law_pairs) .none kV13 dc13 pm13 an13 cd13 ct13, f14, PySem.W.fnOf "_law_longer" "_law_longer" (defArgs s__law_longer) (defBody s__law_longer) (defScope s__law_longer) .none kV14 dc14 pm14 an14 cd14 ct14, f15, PySem.W.fnOf "_law_first" "_law_first" (defArgs s__law_first) (defBody s__law_first) (defScope s__law_first) .none kV15 dc15 pm15 an15 cd15 ct15, f16, PySem.W.fnOf "_law_alike" "_law_alike" (defArgs s__law_alike) (defBody s__law_alike) (defScope s__law_alike) .none kV16 dc16 pm16 an16 cd16 ct16, f17, PySem.W.fnOf "_law_text" "_law_text" (defArgs s__law_text) (defBody s__law_text) (defScope s__law_text) .none kV17 dc17 pm17 an17 cd17 ct17, f18, PySem.W.fnOf "signs" "Rule.signs" (defArgs s_Rule_signs) (defBody s_Rule_signs) (defScope s_Rule_signs) .none kV18 dc18 pm18 an18 cd18 ct18, f19, PySem.W.fnOf "pairs_of" "pairs_of" (defArgs s_pairs_of) (defBody s_pairs_of) (defScope s_pairs_of) .none kV19 dc19 pm19 an19 cd19 ct19, f20, PySem.W.fnOf "sign_after" "sign_after" (defArgs s_sign_after) (defBody s_sign_after) (defScope s_sign_after) .none kV20 dc20 pm20 an20 cd20 ct20, f21, PySem.W.fnOf "__call__" "Rule.__call__" (defArgs s_Rule___call__) (defBody s_Rule___call__) (defScope s_Rule___call__) .none kV21 dc21 pm21 an21 cd21 ct21, f22, PySem.W.fnOf "pairs_after" "pairs_after" (defArgs s_pairs_after) (defBody s_pairs_after) (defScope s_pairs_after) .none kV22 dc22 pm22 an22 cd22 ct22, f23, PySem.W.fnOf "is_orphan_row" "is_orphan_row" (defArgs s_is_orphan_row) (defBody s_is_orphan_row) (defScope s_is_orphan_row) .none kV23 dc23 pm23 an23 cd23 ct23, f24, PySem.W.fnOf "table" "Rule.table" (defArgs s_Rule_table) (defBody s_Rule_table) (defScope s_Rule_table) .none kV24 dc24 pm24 an24 cd24 ct24, f25, PySem.W.fnOf "a_sign_longer" "a_sign_longer" (defArgs s_a_sign_longer) (defBody s_a_sign_longer) (defScope s_a_sign_longer) .none kV25 dc25 pm25 an25 cd25 ct25, f26, PySem.W.fnOf "orphan_row" "orphan_row" (defArgs s_orphan_row) (defBody s_orphan_row) (defScope s_orphan_row) .none kV26 dc26 pm26 an26 cd26 ct26, f27, PySem.W.fnOf "_law_my_row_after" "_law_my_row_after" (defArgs s__law_my_row_after) (defBody s__law_my_row_after) (defScope s__law_my_row_after) .none kV27 dc27 pm27 an27 cd27 ct27, f28, PySem.W.fnOf "_law_by_all" "_law_by_all" (defArgs s__law_by_all) (defBody s__law_by_all) (defScope s__law_by_all) .none kV28 dc28 pm28 an28 cd28 ct28, f29, PySem.W.fnOf "law" "law" (defArgs s_law) (defBody s_law) (defScope s_law) .none kV29 dc29 pm29 an29 cd29 ct29, C_Rule, p_Rule_its_rests, p_Rule_its_table, g_Rule_signs, g_Rule_table⟩ :=
    ⟨rfl,
    ⟨fun_mk (st := s__law_bag) l0 c0 k0, (fun_mk (st := s__law_bag) l0 c0 k0).binds (ps := ["_law_script"]) fun _ _ _ _ _ _ us hl => match us, hl with | [_], _ => rfl, PySem.W.mg_of X G a0⟩,
    ⟨fun_mk (st := s__law_take) l1 c1 k1, (fun_mk (st := s__law_take) l1 c1 k1).binds (ps := ["_law_bag_here", "_law_many"]) fun _ _ _ _ _ _ us hl => match us, hl with | [_, _], _ => rfl, PySem.W.mg_of X G a1⟩,
    ⟨fun_mk (st := s__law_rule) l2 c2 k2, (fun_mk (st := s__law_rule) l2 c2 k2).binds (ps := ["_law_bag_here"]) fun _ _ _ _ _ _ us hl => match us, hl with | [_], _ => rfl, PySem.W.mg_of X G a2⟩,
    ⟨fun_mk (st := s_is_row) l3 c3 k3, (fun_mk (st := s_is_row) l3 c3 k3).binds (ps := ["thing", "signs"]) fun _ _ _ _ _ _ us hl => match us, hl with | [_, _], _ => rfl, PySem.W.mg_of X G a3⟩,
    ⟨fun_mk (st := s_is_table) l4 c4 k4, (fun_mk (st := s_is_table) l4 c4 k4).binds (ps := ["thing"]) fun _ _ _ _ _ _ us hl => match us, hl with | [_], _ => rfl, PySem.W.mg_of X G a4⟩,
    ⟨fun_mk (st := s_is_integer) l5 c5 k5, (fun_mk (st := s_is_integer) l5 c5 k5).binds (ps := ["thing"]) fun _ _ _ _ _ _ us hl => match us, hl with | [_], _ => rfl, PySem.W.mg_of X G a5⟩,
    ⟨funV_mk (st := s_Rule___init__) l6 c6 k6, bindsV d6 rfl (fun us hl => match us, hl with | [_, _, _], _ => ⟨_, rfl, rfl⟩), ⟨e6, a6, b6, h6⟩⟩,
    ⟨fun_mk (st := s__law_my_rule) l7 c7 k7, (fun_mk (st := s__law_my_rule) l7 c7 k7).binds (ps := ["_law_made"]) fun _ _ _ _ _ _ us hl => match us, hl with | [_], _ => rfl, PySem.W.mg_of X G a7⟩,
    ⟨fun_mk (st := s__law_my_signs) l8 c8 k8, (fun_mk (st := s__law_my_signs) l8 c8 k8).binds (ps := ["_law_made"]) fun _ _ _ _ _ _ us hl => match us, hl with | [_], _ => rfl, PySem.W.mg_of X G a8⟩,
    ⟨fun_mk (st := s__law_beat) l9 c9 k9, (fun_mk (st := s__law_beat) l9 c9 k9).binds (ps := ["_law_made", "_law_text_here"]) fun _ _ _ _ _ _ us hl => match us, hl with | [_, _], _ => rfl, PySem.W.mg_of X G a9⟩,
    ⟨fun_mk (st := s__law_inner) l10 c10 k10, (fun_mk (st := s__law_inner) l10 c10 k10).binds (ps := ["_law_made", "_law_row"]) fun _ _ _ _ _ _ us hl => match us, hl with | [_, _], _ => rfl, PySem.W.mg_of X G a10⟩,
    ⟨fun_mk (st := s__law_pairs_on) l11 c11 k11, (fun_mk (st := s__law_pairs_on) l11 c11 k11).binds (ps := ["_law_made", "_law_some", "_law_sign"]) fun _ _ _ _ _ _ us hl => match us, hl with | [_, _, _], _ => rfl, PySem.W.mg_of X G a11⟩,
    ⟨fun_mk (st := s__law_my_all) l12 c12 k12, (fun_mk (st := s__law_my_all) l12 c12 k12).binds (ps := ["_law_signs", "_law_size"]) fun _ _ _ _ _ _ us hl => match us, hl with | [_, _], _ => rfl, PySem.W.mg_of X G a12⟩,
    ⟨fun_mk (st := s__law_pairs) l13 c13 k13, (fun_mk (st := s__law_pairs) l13 c13 k13).binds (ps := ["_law_made", "_law_row"]) fun _ _ _ _ _ _ us hl => match us, hl with | [_, _], _ => rfl, PySem.W.mg_of X G a13⟩,
    ⟨fun_mk (st := s__law_longer) l14 c14 k14, (fun_mk (st := s__law_longer) l14 c14 k14).binds (ps := ["_law_made", "_law_rows", "_law_met"]) fun _ _ _ _ _ _ us hl => match us, hl with | [_, _, _], _ => rfl, PySem.W.mg_of X G a14⟩,
    ⟨fun_mk (st := s__law_first) l15 c15 k15, (fun_mk (st := s__law_first) l15 c15 k15).binds (ps := ["_law_made"]) fun _ _ _ _ _ _ us hl => match us, hl with | [_], _ => rfl, PySem.W.mg_of X G a15⟩,
    ⟨fun_mk (st := s__law_alike) l16 c16 k16, (fun_mk (st := s__law_alike) l16 c16 k16).binds (ps := ["_law_found", "_law_due"]) fun _ _ _ _ _ _ us hl => match us, hl with | [_, _], _ => rfl, PySem.W.mg_of X G a16⟩,
    ⟨fun_mk (st := s__law_text) l17 c17 k17, (fun_mk (st := s__law_text) l17 c17 k17).binds (ps := ["_law_bag_here", "_law_rests", "_law_most"]) fun _ _ _ _ _ _ us hl => match us, hl with | [_, _, _], _ => rfl, PySem.W.mg_of X G a17⟩,
    ⟨fun_mk (st := s_Rule_signs) l18 c18 k18, (fun_mk (st := s_Rule_signs) l18 c18 k18).binds (ps := ["self"]) fun _ _ _ _ _ _ us hl => match us, hl with | [_], _ => rfl, ⟨a18, b18, e18, ⟨_, h18⟩⟩⟩,
    ⟨fun_mk (st := s_pairs_of) l19 c19 k19, (fun_mk (st := s_pairs_of) l19 c19 k19).binds (ps := ["rule"]) fun _ _ _ _ _ _ us hl => match us, hl with | [_], _ => rfl, PySem.W.mg_of X G a19⟩,
    ⟨fun_mk (st := s_sign_after) l20 c20 k20, (fun_mk (st := s_sign_after) l20 c20 k20).binds (ps := ["table", "last", "left", "seat", "right"]) fun _ _ _ _ _ _ us hl => match us, hl with | [_, _, _, _, _], _ => rfl, PySem.W.mg_of X G a20⟩,
    ⟨fun_mk (st := s_Rule___call__) l21 c21 k21, (fun_mk (st := s_Rule___call__) l21 c21 k21).binds (ps := ["self", "left", "seat", "right"]) fun _ _ _ _ _ _ us hl => match us, hl with | [_, _, _, _], _ => rfl, ⟨a21, b21, k21⟩⟩,
    ⟨fun_mk (st := s_pairs_after) l22 c22 k22, (fun_mk (st := s_pairs_after) l22 c22 k22).binds (ps := ["rule", "pairs", "sign"]) fun _ _ _ _ _ _ us hl => match us, hl with | [_, _, _], _ => rfl, PySem.W.mg_of X G a22⟩,
    ⟨fun_mk (st := s_is_orphan_row) l23 c23 k23, (fun_mk (st := s_is_orphan_row) l23 c23 k23).binds (ps := ["rule", "row"]) fun _ _ _ _ _ _ us hl => match us, hl with | [_, _], _ => rfl, PySem.W.mg_of X G a23⟩,
    ⟨fun_mk (st := s_Rule_table) l24 c24 k24, (fun_mk (st := s_Rule_table) l24 c24 k24).binds (ps := ["self"]) fun _ _ _ _ _ _ us hl => match us, hl with | [_], _ => rfl, ⟨a24, b24, e24, ⟨_, h24⟩⟩⟩,
    ⟨fun_mk (st := s_a_sign_longer) l25 c25 k25, (fun_mk (st := s_a_sign_longer) l25 c25 k25).binds (ps := ["rule", "level"]) fun _ _ _ _ _ _ us hl => match us, hl with | [_, _], _ => rfl, PySem.W.mg_of X G a25⟩,
    ⟨fun_mk (st := s_orphan_row) l26 c26 k26, (fun_mk (st := s_orphan_row) l26 c26 k26).binds (ps := ["rule"]) fun _ _ _ _ _ _ us hl => match us, hl with | [_], _ => rfl, PySem.W.mg_of X G a26⟩,
    ⟨fun_mk (st := s__law_my_row_after) l27 c27 k27, (fun_mk (st := s__law_my_row_after) l27 c27 k27).binds (ps := ["_law_made", "_law_row", "_law_many"]) fun _ _ _ _ _ _ us hl => match us, hl with | [_, _, _], _ => rfl, PySem.W.mg_of X G a27⟩,
    ⟨fun_mk (st := s__law_by_all) l28 c28 k28, (fun_mk (st := s__law_by_all) l28 c28 k28).binds (ps := ["_law_made", "_law_row"]) fun _ _ _ _ _ _ us hl => match us, hl with | [_, _], _ => rfl, PySem.W.mg_of X G a28⟩,
    ⟨fun_mk (st := s_law) l29 c29 k29, (fun_mk (st := s_law) l29 c29 k29).binds (ps := ["_law_script"]) fun _ _ _ _ _ _ us hl => match us, hl with | [_], _ => rfl, PySem.W.mg_of X G a29⟩,
    ⟨q1_Rule, PySem.W.mg_of X G q1_Rule, ⟨q2_Rule, q3_Rule, q4_Rule, q5_Rule⟩⟩,
    o_Rule___call__,
    ⟨s1_Rule_its_rests, s2_Rule_its_rests, s3_Rule_its_rests, s4_Rule_its_rests, s5_Rule_its_rests, by decide⟩,
    ⟨s1_Rule_its_table, s2_Rule_its_table, s3_Rule_its_table, s4_Rule_its_table, s5_Rule_its_table, by decide⟩,
    ⟨_, PySem.W.mg_of X G w_MOST_RESTS⟩,
    ⟨_, PySem.W.mg_of X G w_SIGNS⟩,
    PySem.W.mg_none_of X G z_abs,
    PySem.W.mg_none_of X G z_all,
    PySem.W.mg_none_of X G z_bool,
    PySem.W.mg_none_of X G z_dict,
    PySem.W.mg_none_of X G z_enumerate,
    PySem.W.mg_none_of X G z_int,
    PySem.W.mg_none_of X G z_isinstance,
    PySem.W.mg_none_of X G z_len,
    PySem.W.mg_none_of X G z_range,
    PySem.W.mg_none_of X G z_repr,
    PySem.W.mg_none_of X G z_sorted,
    PySem.W.mg_none_of X G z_str,
    PySem.W.mg_none_of X G z_sum,
    PySem.W.mg_none_of X G z_tuple⟩
  exact ok_law T math
end LW
open PySem PySem.W PyProof.Rows
set_option maxRecDepth 100000 in
set_option maxHeartbeats 0 in
theorem PySem.Challenge.cw_standwaves_k55_orphan_rows_told_holds : PySem.Challenge.rw_standwaves_k55_orphan_rows_told.Holds := by
  w_on; o_law; k_head; (case hw => w_witness2)
  k_fill
  refine DL.walk_gT (l := PySem.Challenge.rw_standwaves_k55_orphan_rows_told) (k := 7) (x := "_law_script") (names := []) rfl rfl ⟨rfl, by decide, by decide⟩ (by first | rfl | decide +kernel) (fun w h Y => PySem.W.kIn_of Y) ?F
  case F =>
    intro w mg fa h KX G hmg tabs
    refine' LW.all_mk KX G hmg tabs ?q1_Rule ?q2_Rule ?q3_Rule ?q4_Rule ?q5_Rule ?a0 ?l0 ?c0 ?k0 ?a1 ?l1 ?c1 ?k1 ?a2 ?l2 ?c2 ?k2 ?a3 ?l3 ?c3 ?k3 ?a4 ?l4 ?c4 ?k4 ?a5 ?l5 ?c5 ?k5 ?a6 ?b6 ?e6 ?h6 ?l6 ?d6 ?c6 ?k6 ?a7 ?l7 ?c7 ?k7 ?a8 ?l8 ?c8 ?k8 ?a9 ?l9 ?c9 ?k9 ?a10 ?l10 ?c10 ?k10 ?a11 ?l11 ?c11 ?k11 ?a12 ?l12 ?c12 ?k12 ?a13 ?l13 ?c13 ?k13 ?a14 ?l14 ?c14 ?k14 ?a15 ?l15 ?c15 ?k15 ?a16 ?l16 ?c16 ?k16 ?a17 ?l17 ?c17 ?k17 ?a18 ?b18 ?e18 ?h18 ?l18 ?c18 ?k18 ?a19 ?l19 ?c19 ?k19 ?a20 ?l20 ?c20 ?k20 ?a21 ?b21 ?l21 ?c21 ?k21 ?a22 ?l22 ?c22 ?k22 ?a23 ?l23 ?c23 ?k23 ?a24 ?b24 ?e24 ?h24 ?l24 ?c24 ?k24 ?a25 ?l25 ?c25 ?k25 ?a26 ?l26 ?c26 ?k26 ?a27 ?l27 ?c27 ?k27 ?a28 ?l28 ?c28 ?k28 ?a29 ?l29 ?c29 ?k29 ?o_Rule___call__ ?s1_Rule_its_rests ?s2_Rule_its_rests ?s3_Rule_its_rests ?s4_Rule_its_rests ?s5_Rule_its_rests ?s1_Rule_its_table ?s2_Rule_its_table ?s3_Rule_its_table ?s4_Rule_its_table ?s5_Rule_its_table ?w_MOST_RESTS ?w_SIGNS ?z_abs ?z_all ?z_bool ?z_dict ?z_enumerate ?z_int ?z_isinstance ?z_len ?z_range ?z_repr ?z_sorted ?z_str ?z_sum ?z_tuple
    (case q1_Rule => k_is)
    (case q2_Rule => k_is)
    (case q3_Rule => k_is)
    (case q4_Rule => k_is)
    (case q5_Rule => k_is)
    (case a0 => k_is)
    (case l0 => k_is)
    (case c0 => k_is)
    (case k0 => k_is)
    (case a1 => k_is)
    (case l1 => k_is)
    (case c1 => k_is)
    (case k1 => k_is)
    (case a2 => k_is)
    (case l2 => k_is)
    (case c2 => k_is)
    (case k2 => k_is)
    (case a3 => k_is)
    (case l3 => k_is)
    (case c3 => k_is)
    (case k3 => k_is)
    (case a4 => k_is)
    (case l4 => k_is)
    (case c4 => k_is)
    (case k4 => k_is)
    (case a5 => k_is)
    (case l5 => k_is)
    (case c5 => k_is)
    (case k5 => k_is)
    (case a6 => k_is)
    (case b6 => k_is)
    (case e6 => k_is)
    (case h6 => k_is)
    (case l6 => k_is)
    (case d6 => k_is)
    (case c6 => k_is)
    (case k6 => k_is)
    (case a7 => k_is)
    (case l7 => k_is)
    (case c7 => k_is)
    (case k7 => k_is)
    (case a8 => k_is)
    (case l8 => k_is)
    (case c8 => k_is)
    (case k8 => k_is)
    (case a9 => k_is)
    (case l9 => k_is)
    (case c9 => k_is)
    (case k9 => k_is)
    (case a10 => k_is)
    (case l10 => k_is)
    (case c10 => k_is)
    (case k10 => k_is)
    (case a11 => k_is)
    (case l11 => k_is)
    (case c11 => k_is)
    (case k11 => k_is)
    (case a12 => k_is)
    (case l12 => k_is)
    (case c12 => k_is)
    (case k12 => k_is)
    (case a13 => k_is)
    (case l13 => k_is)
    (case c13 => k_is)
    (case k13 => k_is)
    (case a14 => k_is)
    (case l14 => k_is)
    (case c14 => k_is)
    (case k14 => k_is)
    (case a15 => k_is)
    (case l15 => k_is)
    (case c15 => k_is)
    (case k15 => k_is)
    (case a16 => k_is)
    (case l16 => k_is)
    (case c16 => k_is)
    (case k16 => k_is)
    (case a17 => k_is)
    (case l17 => k_is)
    (case c17 => k_is)
    (case k17 => k_is)
    (case a18 => k_is)
    (case b18 => k_is)
    (case e18 => k_is)
    (case h18 => k_is)
    (case l18 => k_is)
    (case c18 => k_is)
    (case k18 => k_is)
    (case a19 => k_is)
    (case l19 => k_is)
    (case c19 => k_is)
    (case k19 => k_is)
    (case a20 => k_is)
    (case l20 => k_is)
    (case c20 => k_is)
    (case k20 => k_is)
    (case a21 => k_is)
    (case b21 => k_is)
    (case l21 => k_is)
    (case c21 => k_is)
    (case k21 => k_is)
    (case a22 => k_is)
    (case l22 => k_is)
    (case c22 => k_is)
    (case k22 => k_is)
    (case a23 => k_is)
    (case l23 => k_is)
    (case c23 => k_is)
    (case k23 => k_is)
    (case a24 => k_is)
    (case b24 => k_is)
    (case e24 => k_is)
    (case h24 => k_is)
    (case l24 => k_is)
    (case c24 => k_is)
    (case k24 => k_is)
    (case a25 => k_is)
    (case l25 => k_is)
    (case c25 => k_is)
    (case k25 => k_is)
    (case a26 => k_is)
    (case l26 => k_is)
    (case c26 => k_is)
    (case k26 => k_is)
    (case a27 => k_is)
    (case l27 => k_is)
    (case c27 => k_is)
    (case k27 => k_is)
    (case a28 => k_is)
    (case l28 => k_is)
    (case c28 => k_is)
    (case k28 => k_is)
    (case a29 => k_is)
    (case l29 => k_is)
    (case c29 => k_is)
    (case k29 => k_is)
    (case o_Rule___call__ => k_is)
    (case s1_Rule_its_rests => k_is)
    (case s2_Rule_its_rests => k_is)
    (case s3_Rule_its_rests => k_is)
    (case s4_Rule_its_rests => k_is)
    (case s5_Rule_its_rests => k_is)
    (case s1_Rule_its_table => k_is)
    (case s2_Rule_its_table => k_is)
    (case s3_Rule_its_table => k_is)
    (case s4_Rule_its_table => k_is)
    (case s5_Rule_its_table => k_is)
    (case w_MOST_RESTS => k_is)
    (case w_SIGNS => k_is)
    (case z_abs => k_is)
    (case z_all => k_is)
    (case z_bool => k_is)
    (case z_dict => k_is)
    (case z_enumerate => k_is)
    (case z_int => k_is)
    (case z_isinstance => k_is)
    (case z_len => k_is)
    (case z_range => k_is)
    (case z_repr => k_is)
    (case z_sorted => k_is)
    (case z_str => k_is)
    (case z_sum => k_is)
    (case z_tuple => k_is)

